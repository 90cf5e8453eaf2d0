import PyProof.Rows.All
import Wide.All
import OpenK.AllK
import Wide.FinOn
import HandS.ForMost
import HandS.Wide
import HandS.IsInst
import HandS.Deep
import HandS.TupAny
import PyProof.MaxThree
import HandS.WideBits
import HandS.SetFor
import HandS.SortInts
import HandS.RaiseMore
import HandS.Defaults
import HandS.RevRange
import HandS.Comp
import HandS.Text
import HandS.More
import HandS.Strs
import HandS.Replace
import HandS.EndBits
import YA
import KE.IntTextLaws
import KE.DataEq
import PyProof.Rows.StrFirst
import PySem.Challenge.RW_camplay_k32_whole_bounds_raised
set_option Elab.async false
set_option linter.all false
set_option maxRecDepth 100000
set_option maxHeartbeats 4000000
/-! Z0: values, heaps and results of a plain evaluator; its combinators. -/
namespace Z
open PySem L2

inductive D where
  | non | bl (b : Bool) | int (i : Int) | str (x : Str) | tup (ds : List D) | ref (i : Nat)

inductive O where
  | lst (xs : List D) | fz (xs : List D) | dic (kvs : List (Key × D)) | dct (kvs : List (List Key × D)) | ins (c : Nat) (fs : List (Str × D))

def O.mu : O → Bool
  | .fz _ => false
  | _ => true

abbrev HP := List O

inductive R (α : Type) where
  | ok (a : α) (h : HP) | ex (c : Nat) (fs : List (Str × D)) (h : HP) | no

def R.bind {α β : Type} (r : R α) (f : α → HP → R β) : R β := match r with
  | .ok a h => f a h
  | .ex c fs h => .ex c fs h
  | .no => .no
@[simp] theorem R.bind_ok {α β : Type} (a : α) (h : HP) (f : α → HP → R β) : R.bind (.ok a h) f = f a h := rfl
@[simp] theorem R.bind_ex {α β : Type} (c : Nat) (fs : List (Str × D)) (h : HP) (f : α → HP → R β) : R.bind (.ex c fs h) f = .ex c fs h := rfl
@[simp] theorem R.bind_no {α β : Type} (f : α → HP → R β) : R.bind .no f = .no := rfl

abbrev Ev := List (Option D)
/-- turns enough for every loop -/
def FUEL : Nat := 10 ^ 70

structure Ctx where
  call : Nat → List D → HP → R D
  meth : Nat → Nat → List D → HP → R D
  make : Nat → List D → HP → R D
  fuel : Nat

abbrev ME := Ctx → Ev → HP → R D
abbrev MA := Ctx → Ev → HP → R (List D)
abbrev MT := Ctx → Ev → HP → R Bool
abbrev MO := Ctx → Ev → HP → R (Option Int)

/-! ### expressions -/
def eV (i : Nat) : ME := fun _ e h => match e[i]? with
  | some (some d) => .ok d h
  | _ => .no
def eC (d : D) : ME := fun _ _ h => .ok d h
def eOp (op : D → D → HP → R D) (a b : ME) : ME := fun C e h => (a C e h).bind fun x h => (b C e h).bind fun y h => op x y h
def eUn (op : D → HP → R D) (a : ME) : ME := fun C e h => (a C e h).bind fun x h => op x h
/-- a value as a test -/
def tV (a : ME) : MT := fun C e h => (a C e h).bind fun x h => match x with
  | .bl b => .ok b h
  | _ => .no
def tAn (a b : MT) : MT := fun C e h => (a C e h).bind fun x h => if x = true then b C e h else .ok false h
def tOr (a b : MT) : MT := fun C e h => (a C e h).bind fun x h => if x = true then .ok true h else b C e h
def tNt (a : MT) : MT := fun C e h => (a C e h).bind fun x h => .ok (!x) h
def aN : MA := fun _ _ h => .ok [] h
def aC (a : ME) (as : MA) : MA := fun C e h => (a C e h).bind fun x h => (as C e h).bind fun xs h => .ok (x :: xs) h
def eTup (as : MA) : ME := fun C e h => (as C e h).bind fun xs h => if xs.length ≤ sizeLine then .ok (.tup xs) h else .no
def eLst (as : MA) : ME := fun C e h => (as C e h).bind fun xs h => if xs.length ≤ sizeLine then .ok (.ref h.length) (h ++ [.lst xs]) else .no
/-- f(..): a def of the text; ds: the defaults that fill up -/
def eCall (f : Nat) (as : MA) (ds : List D) : ME := fun C e h => (as C e h).bind fun xs h => C.call f (xs ++ ds) h
/-- o.m(..) of an own instance -/
def eMeth (cs : List Nat) (o : ME) (m : Nat) (nm : Str) (as : MA) : ME := fun C e h => (o C e h).bind fun x h => match x with
  | .ref i => match h[i]? with
    | some (.ins c fs) => if c ∈ cs ∧ (fs.lookup nm).isNone = true then (as C e h).bind fun xs h => C.meth c m (.ref i :: xs) h else .no
    | _ => .no
  | _ => .no
/-- C(..) -/
def eMake (c : Nat) (as : MA) : ME := fun C e h => (as C e h).bind fun xs h => C.make c xs h
def mkBy (me : Nat → Nat → List D → HP → R D) (c : Nat) (xs : List D) (h : HP) : R D := (me c 0 (.ref h.length :: xs) (h ++ [.ins c []])).bind fun v h' => match v with
  | .non => .ok (.ref h.length) h'
  | _ => .no
def eFld (cs : List Nat) (a : ME) (f : Str) : ME := fun C e h => (a C e h).bind fun x h => match x with
  | .ref i => match h[i]? with
    | some (.ins c fs) => if c ∈ cs then match fs.lookup f with
        | some d => .ok d h
        | none => .no
      else .no
    | _ => .no
  | _ => .no
/-- f(..), f a built-in function -/
def eBf (f : List D → HP → R D) (as : MA) : ME := fun C e h => (as C e h).bind fun xs h => f xs h
def oN : MO := fun _ _ h => .ok none h
def oS (a : ME) : MO := fun C e h => (a C e h).bind fun x h => match x with
  | .int i => .ok (some i) h
  | _ => .no
def eSl (f : D → Option Int → Option Int → HP → R D) (a : ME) (lo hi : MO) : ME := fun C e h => (a C e h).bind fun x h => (lo C e h).bind fun l h => (hi C e h).bind fun u h => f x l u h

/-! ### what is walked -/
/-- at turn j: none: it can't be told; some none: it is over -/
abbrev Itr := Nat → HP → Option (Option D)
abbrev MI := Ctx → Ev → HP → R Itr
def itL (i : Nat) : Itr := fun j h => match h[i]? with
  | some (.lst xs) => some xs[j]?
  | some (.fz xs) => some xs[j]?
  | _ => none
def itT (ds : List D) : Itr := fun j _ => some ds[j]?
def itS (x : Str) : Itr := fun j _ => some ((x.cps[j]?).map fun c => .str ⟨#[c]⟩)
def itR (lo : Int) (n : Nat) : Itr := fun j _ => if j < n then some (some (.int (lo + j))) else some none
def itE (i : Nat) : Itr := fun j h => (itL i j h).map fun o => o.map fun d => .tup [.int j, d]
def isL (i : Nat) (h : HP) : Option (List D) := match h[i]? with
  | some (.lst xs) => some xs
  | some (.fz xs) => some xs
  | _ => none
/-- for .. in e: a list, a tuple, a text -/
def iA (a : ME) : MI := fun C e h => (a C e h).bind fun x h => match x with
  | .ref i => match isL i h with
    | some _ => .ok (itL i) h
    | none => .no
  | .tup ds => .ok (itT ds) h
  | .str z => .ok (itS z) h
  | _ => .no
def iR1 (a : ME) : MI := fun C e h => (a C e h).bind fun x h => match x with
  | .int n => if -(2 ^ 62) ≤ n ∧ n < 2 ^ 62 then .ok (itR 0 n.toNat) h else .no
  | _ => .no
def iEn (a : ME) : MI := fun C e h => (a C e h).bind fun x h => match x with
  | .ref i => match isL i h with
    | some _ => .ok (itE i) h
    | none => .no
  | _ => .no
/-! ### targets -/
abbrev Tg := Ev → D → Option Ev
def gN (i : Nat) : Tg := fun e d => some (e.set i (some d))
def gT (is : List Nat) : Tg := fun e d => match d with
  | .tup ds => if ds.length = is.length then some ((is.zip ds).foldl (fun e p => e.set p.1 (some p.2)) e) else none
  | _ => none

/-! ### statements -/
inductive FL where
  | nx (e : Ev) | rt (d : D) | bk (e : Ev) | ct (e : Ev)
abbrev MS := Ctx → Ev → HP → R FL
def sSk : MS := fun _ e h => .ok (.nx e) h
def sSq (a b : MS) : MS := fun C e h => (a C e h).bind fun f h => match f with
  | .nx e => b C e h
  | f => .ok f h
def sEx (a : ME) : MS := fun C e h => (a C e h).bind fun _ h => .ok (.nx e) h
def sRt (a : ME) : MS := fun C e h => (a C e h).bind fun d h => .ok (.rt d) h
def sRN : MS := fun _ _ h => .ok (.rt .non) h
def sAs (g : Tg) (a : ME) : MS := fun C e h => (a C e h).bind fun d h => match g e d with
  | some e => .ok (.nx e) h
  | none => .no
def sAu (i : Nat) (op : D → D → HP → R D) (a : ME) : MS := fun C e h => match e[i]? with
  | some (some x) => (a C e h).bind fun y h => (op x y h).bind fun z h => .ok (.nx (e.set i (some z))) h
  | _ => .no
def sIf (t : MT) (a b : MS) : MS := fun C e h => (t C e h).bind fun x h => if x = true then a C e h else b C e h
/-- o[i] = a -/
def sSt (f : D → D → D → HP → R Unit) (o i a : ME) : MS := fun C e h => (a C e h).bind fun v h => (o C e h).bind fun x h => (i C e h).bind fun y h => (f x y v h).bind fun _ h => .ok (.nx e) h
def putD (f : Str) (v : D) : List (Str × D) → List (Str × D)
  | [] => [(f, v)]
  | (g, x) :: r => if g = f then (g, v) :: r else (g, x) :: putD f v r
/-- o.f = a -/
def sFl (cs : List Nat) (o : ME) (f : Str) (a : ME) : MS := fun C e h => (a C e h).bind fun v h => (o C e h).bind fun x h => match x with
  | .ref i => match h[i]? with
    | some (.ins c fs) => if c ∈ cs ∧ fs.length < 1000 then .ok (.nx e) (h.set i (.ins c (putD f v fs))) else .no
    | _ => .no
  | _ => .no
def whileN (t : MT) (b : MS) : Nat → MS
  | 0 => fun _ _ _ => .no
  | n + 1 => fun C e h => (t C e h).bind fun x h => if x = true then (b C e h).bind fun f h => match f with
      | .nx e => whileN t b n C e h
      | .ct e => whileN t b n C e h
      | .bk e => .ok (.nx e) h
      | .rt d => .ok (.rt d) h
    else .ok (.nx e) h
def sWh (t : MT) (b : MS) : MS := fun C e h => whileN t b C.fuel C e h
def forN (it : Itr) (g : Tg) (b : MS) : Nat → Nat → MS
  | 0, _ => fun _ _ _ => .no
  | n + 1, j => fun C e h => match it j h with
    | some none => .ok (.nx e) h
    | some (some d) => match g e d with
      | some e => (b C e h).bind fun f h => match f with
        | .nx e => forN it g b n (j + 1) C e h
        | .ct e => forN it g b n (j + 1) C e h
        | .bk e => .ok (.nx e) h
        | .rt d => .ok (.rt d) h
      | none => .no
    | none => .no
def sFo (g : Tg) (it : MI) (b : MS) : MS := fun C e h => (it C e h).bind fun i h => forN i g b C.fuel 0 C e h
/-- what can't be told: a raise that is never come to -/
def sNo : MS := fun _ _ _ => .no

/-! ### comprehensions: the items of the new list -/
def cmpN (it : Itr) (g : Tg) (t : MT) (a : ME) (e0 : Ev) (C : Ctx) : Nat → Nat → List D → HP → R (List D)
  | 0, _, _, _ => .no
  | n + 1, j, acc, h => match it j h with
    | some none => .ok acc h
    | some (some d) => match g e0 d with
      | some e => (t C e h).bind fun x h => if x = true then (a C e h).bind fun y h => if acc.length < sizeLine then cmpN it g t a e0 C n (j + 1) (acc ++ [y]) h else .no
          else cmpN it g t a e0 C n (j + 1) acc h
      | none => .no
    | none => .no
def wipeE (e : Ev) : List Nat → Ev
  | [] => e
  | v :: vs => (wipeE e vs).set v none
def tY : MT := fun _ _ h => .ok true h
def eLc (vs : List Nat) (g : Tg) (it : MI) (t : MT) (a : ME) : ME := fun C e h => (it C e h).bind fun i h => (cmpN i g t a (wipeE e vs) C C.fuel 0 [] h).bind fun xs h => .ok (.ref h.length) (h ++ [.lst xs])

/-! ### a text's defs -/
structure Fn where
  np : Nat
  nn : Nat
  body : MS
def runFn (C : Ctx) (fn : Fn) (ds : List D) (h : HP) : R D :=
  if ds.length = fn.np then (fn.body C (ds.map some ++ List.replicate (fn.nn - ds.length) none) h).bind fun f h => match f with
    | .rt d => .ok d h
    | .nx _ => .ok .non h
    | _ => .no
  else .no
structure Tbl where
  fn : Nat → Option Fn
  me : Nat → Nat → Option Fn
  fuel : Nat
def ctx (T : Tbl) : Nat → Ctx
  | 0 => ⟨fun _ _ _ => .no, fun _ _ _ _ => .no, fun _ _ _ => .no, T.fuel⟩
  | n + 1 => ⟨fun f ds h => match T.fn f with
      | some fn => runFn (ctx T n) fn ds h
      | none => .no,
    fun c m ds h => match T.me c m with
      | some fn => runFn (ctx T n) fn ds h
      | none => .no,
    mkBy (ctx T n).meth, T.fuel⟩
end Z
/-! Z1: what the plain evaluator's values, heaps and results stand for in the hand layer. -/
namespace Z
open PySem L2

/-! ### values -/
mutual
def RV (φ : Nat → Addr) (n : Nat) (H : Hp) : D → V → Prop
  | .non, v => v = .non
  | .bl b, v => v = .bl b
  | .int i, v => v = .int i
  | .str x, v => v = .str x
  | .ref i, v => i < n ∧ v = .ref (φ i)
  | .tup ds, v => ∃ p vs, v = .ref p ∧ H p = some (.tup vs) ∧ RVs φ n H ds vs
def RVs (φ : Nat → Addr) (n : Nat) (H : Hp) : List D → List V → Prop
  | [], vs => vs = []
  | d :: ds, vs => ∃ v r, vs = v :: r ∧ RV φ n H d v ∧ RVs φ n H ds r
end
def RKs {κ : Type} (φ : Nat → Addr) (n : Nat) (H : Hp) : List (κ × D) → List (κ × V) → Prop
  | [], vs => vs = []
  | (k, d) :: ds, vs => ∃ v r, vs = (k, v) :: r ∧ RV φ n H d v ∧ RKs φ n H ds r
section
variable {φ φ' : Nat → Addr} {n m : Nat} {H H' : Hp}
theorem RVs.len : ∀ {ds : List D} {vs : List V}, RVs φ n H ds vs → vs.length = ds.length
  | [], vs, h => by simp only [RVs] at h; subst h; rfl
  | d :: ds, vs, h => by
    simp only [RVs] at h
    obtain ⟨v, r, rfl, _, h⟩ := h
    simp [RVs.len h]
theorem RVs.get : ∀ {ds : List D} {vs : List V} {i : Nat} {d : D}, RVs φ n H ds vs → ds[i]? = some d → ∃ v, vs[i]? = some v ∧ RV φ n H d v
  | [], vs, i, d, h, e => by simp at e
  | d :: ds, vs, 0, d', h, e => by
    simp only [RVs] at h
    obtain ⟨v, r, rfl, h1, h⟩ := h
    simp at e; subst e
    exact ⟨v, rfl, h1⟩
  | d :: ds, vs, i + 1, d', h, e => by
    simp only [RVs] at h
    obtain ⟨v, r, rfl, h1, h⟩ := h
    obtain ⟨v', e1, e2⟩ := RVs.get (i := i) (d := d') h (by simpa using e)
    exact ⟨v', by simpa using e1, e2⟩
theorem RVs.append : ∀ {ds es : List D} {vs us : List V}, RVs φ n H ds vs → RVs φ n H es us → RVs φ n H (ds ++ es) (vs ++ us)
  | [], es, vs, us, h, q => by simp only [RVs] at h; subst h; exact q
  | d :: ds, es, vs, us, h, q => by
    simp only [RVs] at h
    obtain ⟨v, r, rfl, h1, h⟩ := h
    simp only [List.cons_append, RVs]
    exact ⟨v, r ++ us, rfl, h1, RVs.append h q⟩
theorem RVs.set : ∀ {ds : List D} {vs : List V} (i : Nat) {d : D} {v : V}, RVs φ n H ds vs → RV φ n H d v → RVs φ n H (ds.set i d) (vs.set i v)
  | [], vs, i, d, v, h, q => by simp only [RVs] at h; subst h; simp [RVs]
  | d :: ds, vs, 0, d', v', h, q => by
    simp only [RVs] at h
    obtain ⟨v, r, rfl, h1, h⟩ := h
    simp only [List.set_cons_zero, RVs]
    exact ⟨v', r, rfl, q, h⟩
  | d :: ds, vs, i + 1, d', v', h, q => by
    simp only [RVs] at h
    obtain ⟨v, r, rfl, h1, h⟩ := h
    simp only [List.set_cons_succ, RVs]
    exact ⟨v, r.set i v', rfl, h1, RVs.set i h q⟩
theorem RVs.take : ∀ {ds : List D} {vs : List V} (i : Nat), RVs φ n H ds vs → RVs φ n H (ds.take i) (vs.take i)
  | [], vs, i, h => by simp only [RVs] at h; subst h; simp [RVs]
  | d :: ds, vs, 0, h => by simp [RVs]
  | d :: ds, vs, i + 1, h => by
    simp only [RVs] at h
    obtain ⟨v, r, rfl, h1, h⟩ := h
    simp only [List.take_succ_cons, RVs]
    exact ⟨v, r.take i, rfl, h1, RVs.take i h⟩
theorem RVs.drop : ∀ {ds : List D} {vs : List V} (i : Nat), RVs φ n H ds vs → RVs φ n H (ds.drop i) (vs.drop i)
  | [], vs, i, h => by simp only [RVs] at h; subst h; simp [RVs]
  | d :: ds, vs, 0, h => by simpa using h
  | d :: ds, vs, i + 1, h => by
    simp only [RVs] at h
    obtain ⟨v, r, rfl, h1, h⟩ := h
    simpa using RVs.drop i h
theorem RVs.nil_iff {vs : List V} : RVs φ n H [] vs ↔ vs = [] := by simp [RVs]
theorem RVs.one {d : D} {v : V} (h : RV φ n H d v) : RVs φ n H [d] [v] := by
  simp only [RVs]; exact ⟨v, [], rfl, h, rfl⟩
theorem RVs.cons {d : D} {v : V} {ds : List D} {vs : List V} (h : RV φ n H d v) (q : RVs φ n H ds vs) : RVs φ n H (d :: ds) (v :: vs) := by
  simp only [RVs]; exact ⟨v, vs, rfl, h, q⟩
theorem RVs.reverse : ∀ {ds : List D} {vs : List V}, RVs φ n H ds vs → RVs φ n H ds.reverse vs.reverse
  | [], vs, h => by simp only [RVs] at h; subst h; simp [RVs]
  | d :: ds, vs, h => by
    simp only [RVs] at h
    obtain ⟨v, r, rfl, h1, h⟩ := h
    simp only [List.reverse_cons]
    exact RVs.append (RVs.reverse h) (RVs.one h1)
/-- all values of a list of ints -/
theorem RVs.ints : ∀ {ns : List Int} {vs : List V}, RVs φ n H (ns.map D.int) vs → vs = ns.map V.int
  | [], vs, h => by simpa [RVs] using h
  | i :: ns, vs, h => by
    simp only [List.map_cons, RVs] at h
    obtain ⟨v, r, rfl, h1, h⟩ := h
    simp only [RV] at h1
    subst h1
    rw [RVs.ints h]; rfl
theorem RVs.of_ints : ∀ {ns : List Int}, RVs φ n H (ns.map D.int) (ns.map V.int)
  | [] => by simp [RVs]
  | i :: ns => by
    simp only [List.map_cons, RVs]
    exact ⟨_, _, rfl, by simp [RV], RVs.of_ints⟩
end

/-! ### objects, heaps -/
def RO (K : PySem.W.Frag) (κ : Nat → Addr) (φ : Nat → Addr) (n : Nat) (H : Hp) (a : Addr) : O → Prop
  | .lst ds => ∃ vs, H a = some (.lst vs) ∧ RVs φ n H ds vs
  | .fz ds => ∃ vs, ((∃ o, H a = some (.frz o (.lst vs))) ∨ ∃ (o : Obj) (its : Array Value) (n : Nat), K.lookup a = some o ∧ o.cls = .type "list" ∧ o.dict = none ∧ o.data = .seq its n ∧ its.size ≤ sizeLine ∧ Vals vs its.toList) ∧ RVs φ n H ds vs
  | .dic kvs => ∃ us, H a = some (.dK us) ∧ RKs φ n H kvs us
  | .dct kvs => ∃ us, H a = some (.dT us) ∧ RKs φ n H kvs us
  | .ins c fs => ∃ dx us, H a = some (.ins (κ c) dx us) ∧ RKs φ n H fs us
def Own (φ : Nat → Addr) (h : HP) (b : Addr) : Prop := ∃ i o, h[i]? = some o ∧ o.mu = true ∧ φ i = b
structure Sim (K : PySem.W.Frag) (κ : Nat → Addr) (φ : Nat → Addr) (h : HP) (H : Hp) : Prop where
  inj : ∀ i j o o', h[i]? = some o → h[j]? = some o' → o.mu = true → o'.mu = true → φ i = φ j → i = j
  obj : ∀ i o, h[i]? = some o → RO K κ φ h.length H (φ i) o
structure Step (φ : Nat → Addr) (h : HP) (H : Hp) (φ' : Nat → Addr) (h' : HP) (H' : Hp) : Prop where
  len : h.length ≤ h'.length
  agree : ∀ i, i < h.length → φ' i = φ i
  frame : ∀ b, H b ≠ none → ¬ Own φ h b → H' b = H b ∧ ¬ Own φ' h' b
def isMut : HO → Bool
  | .lst _ => true
  | .dK _ => true
  | .dT _ => true
  | .ins _ _ _ => true
  | _ => false
section
variable {K : PySem.W.Frag} {κ φ φ' φ2 : Nat → Addr} {h h' h2 : HP} {H H' H2 : Hp}
theorem Sim.own (S : Sim K κ φ h H) {b : Addr} (o : Own φ h b) : ∃ u, H b = some u ∧ isMut u = true := by
  obtain ⟨i, o, e, m, rfl⟩ := o
  have q := S.obj i o e
  cases o with
  | lst ds => obtain ⟨vs, e, _⟩ := q; exact ⟨_, e, rfl⟩
  | fz ds => cases m
  | dic ds => obtain ⟨vs, e, _⟩ := q; exact ⟨_, e, rfl⟩
  | dct ds => obtain ⟨vs, e, _⟩ := q; exact ⟨_, e, rfl⟩
  | ins c fs => obtain ⟨dx, vs, e, _⟩ := q; exact ⟨_, e, rfl⟩
theorem Step.refl : Step φ h H φ h H := ⟨Nat.le_refl _, fun _ _ => rfl, fun _ _ q => ⟨rfl, q⟩⟩
theorem Step.trans (a : Step φ h H φ' h' H') (b : Step φ' h' H' φ2 h2 H2) : Step φ h H φ2 h2 H2 :=
  ⟨Nat.le_trans a.len b.len, fun i hi => (b.agree i (Nat.lt_of_lt_of_le hi a.len)).trans (a.agree i hi), fun x e q => by
    obtain ⟨e1, q1⟩ := a.frame x e q
    obtain ⟨e2, q2⟩ := b.frame x (by rw [e1]; exact e) q1
    exact ⟨e2.trans e1, q2⟩⟩
theorem Sim.tup (S : Sim K κ φ h H) (st : Step φ h H φ' h' H') {p : Addr} {vs : List V} (e : H p = some (.tup vs)) : H' p = some (.tup vs) := by
  have n : ¬ Own φ h p := fun o => by
    obtain ⟨u, e', m⟩ := S.own o
    rw [e] at e'; cases e'; cases m
  rw [(st.frame p (by rw [e]; simp) n).1, e]
mutual
theorem RV.step (S : Sim K κ φ h H) (st : Step φ h H φ' h' H') : ∀ {d : D} {v : V}, RV φ h.length H d v → RV φ' h'.length H' d v
  | .non, v, q => by simpa only [RV] using q
  | .bl b, v, q => by simpa only [RV] using q
  | .int i, v, q => by simpa only [RV] using q
  | .str x, v, q => by simpa only [RV] using q
  | .ref i, v, q => by
    simp only [RV] at q ⊢
    exact ⟨Nat.lt_of_lt_of_le q.1 st.len, by rw [st.agree i q.1]; exact q.2⟩
  | .tup ds, v, q => by
    simp only [RV] at q ⊢
    obtain ⟨p, vs, e, e2, r⟩ := q
    exact ⟨p, vs, e, S.tup st e2, RVs.step S st r⟩
theorem RVs.step (S : Sim K κ φ h H) (st : Step φ h H φ' h' H') : ∀ {ds : List D} {vs : List V}, RVs φ h.length H ds vs → RVs φ' h'.length H' ds vs
  | [], vs, q => by simpa only [RVs] using q
  | d :: ds, vs, q => by
    simp only [RVs] at q ⊢
    obtain ⟨v, r, e, q1, q2⟩ := q
    exact ⟨v, r, e, RV.step S st q1, RVs.step S st q2⟩
end
theorem RKs.step {κ' : Type} (S : Sim K κ φ h H) (st : Step φ h H φ' h' H') : ∀ {ds : List (κ' × D)} {vs : List (κ' × V)}, RKs φ h.length H ds vs → RKs φ' h'.length H' ds vs
  | [], vs, q => by simpa only [RKs] using q
  | (k, d) :: ds, vs, q => by
    simp only [RKs] at q ⊢
    obtain ⟨v, r, e, q1, q2⟩ := q
    exact ⟨v, r, e, RV.step S st q1, RKs.step S st q2⟩
/-- objects other than the one changed -/
theorem RO.step (S : Sim K κ φ h H) (st : Step φ h H φ' h' H') {i : Nat} {o : O} (hi : h[i]? = some o) (e : H' (φ i) = H (φ i)) : RO K κ φ' h'.length H' (φ' i) o := by
  have q := S.obj i o hi
  have hl : i < h.length := (List.getElem?_eq_some_iff.mp hi).1
  rw [st.agree i hl]
  cases o with
  | lst ds => obtain ⟨vs, e1, r⟩ := q; exact ⟨vs, by rw [e]; exact e1, r.step S st⟩
  | fz ds =>
    obtain ⟨vs, e1, r⟩ := q
    refine ⟨vs, ?_, r.step S st⟩
    rcases e1 with ⟨o, e1⟩ | e1
    · exact .inl ⟨o, by rw [e]; exact e1⟩
    · exact .inr e1
  | dic ds => obtain ⟨vs, e1, r⟩ := q; exact ⟨vs, by rw [e]; exact e1, r.step S st⟩
  | dct ds => obtain ⟨vs, e1, r⟩ := q; exact ⟨vs, by rw [e]; exact e1, r.step S st⟩
  | ins c fs => obtain ⟨dx, vs, e1, r⟩ := q; exact ⟨dx, vs, by rw [e]; exact e1, r.step S st⟩
theorem RO.stepF (S : Sim K κ φ h H) (st : Step φ h H φ' h' H') {i : Nat} {ds : List D} (hi : h[i]? = some (.fz ds)) (e : ∀ o vs, H (φ i) = some (.frz o (.lst vs)) → H' (φ i) = some (.frz o (.lst vs))) : RO K κ φ' h'.length H' (φ' i) (.fz ds) := by
  obtain ⟨vs, e1, r⟩ := S.obj i _ hi
  have hl : i < h.length := (List.getElem?_eq_some_iff.mp hi).1
  rw [st.agree i hl]
  refine ⟨vs, ?_, r.step S st⟩
  rcases e1 with ⟨o, e1⟩ | e1
  · exact .inl ⟨o, e _ _ e1⟩
  · exact .inr e1
/-- a new thing that the evaluator does not name (a tuple, an instance's dict) -/
theorem step_temp (S : Sim K κ φ h H) {p : Addr} {u : HO} (hp : H p = none) : Step φ h H φ h (upd H p u) :=
  ⟨Nat.le_refl _, fun _ _ => rfl, fun b e q => ⟨upd_ne (fun z => by subst z; exact e hp), q⟩⟩
theorem Sim.temp (S : Sim K κ φ h H) {p : Addr} {u : HO} (hp : H p = none) : Sim K κ φ h (upd H p u) := by
  refine ⟨S.inj, fun i o hi => ?_⟩
  have st := step_temp S (u := u) hp
  by_cases m : o.mu = true
  · obtain ⟨u', e, _⟩ := S.own ⟨i, o, hi, m, rfl⟩
    exact RO.step S st hi (upd_ne (ne_of_none e hp))
  · cases o with
    | fz ds => exact RO.stepF S st hi fun o vs e => by rw [upd_ne (ne_of_none e hp)]; exact e
    | lst _ => exact absurd rfl m
    | dic _ => exact absurd rfl m
    | dct _ => exact absurd rfl m
    | ins _ _ => exact absurd rfl m
/-- a new object of the evaluator's -/
def ext (φ : Nat → Addr) (n : Nat) (p : Addr) : Nat → Addr := fun i => if i = n then p else φ i
theorem ext_at {n : Nat} {p : Addr} : ext φ n p n = p := by unfold ext; rw [if_pos rfl]
theorem ext_lt {n i : Nat} {p : Addr} (h : i < n) : ext φ n p i = φ i := by unfold ext; rw [if_neg (Nat.ne_of_lt h)]
theorem get_snoc {h : HP} {o o' : O} {i : Nat} (e : (h ++ [o])[i]? = some o') : (i < h.length ∧ h[i]? = some o') ∨ (i = h.length ∧ o' = o) := by
  by_cases hi : i < h.length
  · rw [List.getElem?_append_left hi] at e
    exact .inl ⟨hi, e⟩
  · rw [List.getElem?_append_right (by omega)] at e
    have : i - h.length = 0 := by
      cases q : i - h.length with
      | zero => rfl
      | succ k => rw [q] at e; simp at e
    rw [this] at e
    simp at e
    exact .inr ⟨by omega, e.symm⟩
theorem step_new (S : Sim K κ φ h H) {p : Addr} {o : O} {u : HO} (hp : H p = none) : Step φ h H (ext φ h.length p) (h ++ [o]) (upd H p u) := by
  refine ⟨by simp, fun i hi => ext_lt hi, fun b e q => ⟨upd_ne (fun z => by subst z; exact e hp), fun z => ?_⟩⟩
  obtain ⟨i, o', hi, m, rfl⟩ := z
  rcases get_snoc hi with ⟨hl, hi⟩ | ⟨rfl, rfl⟩
  · exact q ⟨i, o', hi, m, (ext_lt hl).symm⟩
  · rw [ext_at] at e; exact e hp
theorem Sim.new (S : Sim K κ φ h H) {p : Addr} {o : O} {u : HO} (hp : H p = none) (new : ∀ st : Step φ h H (ext φ h.length p) (h ++ [o]) (upd H p u), RO K κ (ext φ h.length p) (h ++ [o]).length (upd H p u) p o) : Sim K κ (ext φ h.length p) (h ++ [o]) (upd H p u) := by
  have st := step_new S (o := o) (u := u) hp
  refine ⟨fun i j oi oj hi hj mi mj e => ?_, fun i o' hi => ?_⟩
  · rcases get_snoc hi with ⟨li, hi2⟩ | ⟨ei, eoi⟩ <;> rcases get_snoc hj with ⟨lj, hj2⟩ | ⟨ej, eoj⟩
    · rw [ext_lt li, ext_lt lj] at e
      exact S.inj i j oi oj hi2 hj2 mi mj e
    · rw [ext_lt li, ej, ext_at] at e
      obtain ⟨u', e', _⟩ := S.own ⟨i, oi, hi2, mi, rfl⟩
      rw [e, hp] at e'; cases e'
    · rw [ext_lt lj, ei, ext_at] at e
      obtain ⟨u', e', _⟩ := S.own ⟨j, oj, hj2, mj, rfl⟩
      rw [← e, hp] at e'; cases e'
    · rw [ei, ej]
  · rcases get_snoc hi with ⟨li, hi⟩ | ⟨rfl, rfl⟩
    · by_cases m : o'.mu = true
      · obtain ⟨u', e, _⟩ := S.own ⟨i, o', hi, m, rfl⟩
        exact RO.step S st hi (upd_ne (ne_of_none e hp))
      · cases o' with
        | fz ds => exact RO.stepF S st hi fun o vs e => by rw [upd_ne (ne_of_none e hp)]; exact e
        | lst _ => exact absurd rfl m
        | dic _ => exact absurd rfl m
        | dct _ => exact absurd rfl m
        | ins _ _ => exact absurd rfl m
    · rw [ext_at]; exact new st
/-- an object of the evaluator's changed -/
theorem step_set (S : Sim K κ φ h H) {i : Nat} {o o' : O} {u : HO} (hi : h[i]? = some o) (m : o.mu = true) (m' : o'.mu = true) : Step φ h H φ (h.set i o') (upd H (φ i) u) := by
  refine ⟨by simp, fun _ _ => rfl, fun b e q => ⟨upd_ne (fun z => q ⟨i, o, hi, m, z.symm⟩), fun z => ?_⟩⟩
  obtain ⟨j, oj, hj, mj, rfl⟩ := z
  by_cases hij : i = j
  · subst hij; exact q ⟨i, o, hi, m, rfl⟩
  · rw [List.getElem?_set_ne hij] at hj
    exact q ⟨j, oj, hj, mj, rfl⟩
theorem Sim.set (S : Sim K κ φ h H) {i : Nat} {o o' : O} {u : HO} (hi : h[i]? = some o) (m : o.mu = true) (m' : o'.mu = true)
    (new : ∀ st : Step φ h H φ (h.set i o') (upd H (φ i) u), RO K κ φ (h.set i o').length (upd H (φ i) u) (φ i) o') : Sim K κ φ (h.set i o') (upd H (φ i) u) := by
  have st := step_set S (u := u) hi m m'
  have hl : i < h.length := (List.getElem?_eq_some_iff.mp hi).1
  have mu_of : ∀ (j : Nat) (oj : O), (h.set i o')[j]? = some oj → oj.mu = true → ∃ ob : O, h[j]? = some ob ∧ ob.mu = true := fun j oj hj mj => by
    by_cases hij : i = j
    · subst hij; exact ⟨o, hi, m⟩
    · rw [List.getElem?_set_ne hij] at hj; exact ⟨oj, hj, mj⟩
  refine ⟨fun j k oj ok hj hk mj mk e => ?_, fun j oj hj => ?_⟩
  · obtain ⟨o1, e1, m1⟩ := mu_of j oj hj mj
    obtain ⟨o2, e2, m2⟩ := mu_of k ok hk mk
    exact S.inj j k o1 o2 e1 e2 m1 m2 e
  · by_cases hij : i = j
    · subst hij
      rw [List.getElem?_set_self hl] at hj
      cases hj
      exact new st
    · rw [List.getElem?_set_ne hij] at hj
      by_cases mj : oj.mu = true
      · have ne : φ j ≠ φ i := fun e => hij (S.inj j i oj o hj hi mj m e).symm
        exact RO.step S st hj (upd_ne ne)
      · obtain ⟨u', e', mu'⟩ := S.own ⟨i, o, hi, m, rfl⟩
        cases oj with
        | fz ds =>
          refine RO.stepF S st hj fun ob vs e => ?_
          have ne : φ j ≠ φ i := fun z => by
            rw [z, e'] at e
            cases e
            cases mu'
          rw [upd_ne ne]
          exact e
        | lst _ => exact absurd rfl mj
        | dic _ => exact absurd rfl mj
        | dct _ => exact absurd rfl mj
        | ins _ _ => exact absurd rfl mj
end

/-! ### results -/
def Post (K : PySem.W.Frag) (κ φ : Nat → Addr) (h : HP) (H : Hp) (r : R D) (Q : VK) : Prop := match r with
  | .ok d h' => ∀ φ' H' v, Step φ h H φ' h' H' → Sim K κ φ' h' H' → RV φ' h'.length H' d v → Q v H'
  | _ => False
def PostA (K : PySem.W.Frag) (κ φ : Nat → Addr) (h : HP) (H : Hp) (r : R (List D)) (Q : List V → Hp → Prop) : Prop := match r with
  | .ok ds h' => ∀ φ' H' vs, Step φ h H φ' h' H' → Sim K κ φ' h' H' → RVs φ' h'.length H' ds vs → Q vs H'
  | _ => False
def PostT (K : PySem.W.Frag) (κ φ : Nat → Addr) (h : HP) (H : Hp) (r : R Bool) (Q : Bool → Hp → Prop) : Prop := match r with
  | .ok b h' => ∀ φ' H', Step φ h H φ' h' H' → Sim K κ φ' h' H' → Q b H'
  | _ => False
def PostO (K : PySem.W.Frag) (κ φ : Nat → Addr) (h : HP) (H : Hp) (r : R (Option Int)) (Q : Option Int → Hp → Prop) : Prop := match r with
  | .ok b h' => ∀ φ' H', Step φ h H φ' h' H' → Sim K κ φ' h' H' → Q b H'
  | _ => False
/-- the frame's slots -/
structure EnvR (φ : Nat → Addr) (n : Nat) (H : Hp) (e : Ev) (σ : L2.St) : Prop where
  len : e.length = σ.length
  get : ∀ (i : Nat) (d : D), e[i]? = some (some d) → ∃ v, σ[i]? = some (some v) ∧ RV φ n H d v
def PostS (K : PySem.W.Frag) (κ φ : Nat → Addr) (h : HP) (H : Hp) (r : R FL) (Dn : Ends) : Prop := match r with
  | .ok (.nx e) h' => ∀ φ' H' σ', Step φ h H φ' h' H' → Sim K κ φ' h' H' → EnvR φ' h'.length H' e σ' → Dn.nx σ' H'
  | .ok (.bk e) h' => ∀ φ' H' σ', Step φ h H φ' h' H' → Sim K κ φ' h' H' → EnvR φ' h'.length H' e σ' → Dn.bk σ' H'
  | .ok (.ct e) h' => ∀ φ' H' σ', Step φ h H φ' h' H' → Sim K κ φ' h' H' → EnvR φ' h'.length H' e σ' → Dn.ct σ' H'
  | .ok (.rt d) h' => ∀ φ' H' v, Step φ h H φ' h' H' → Sim K κ φ' h' H' → RV φ' h'.length H' d v → Dn.rt v H'
  | _ => False
section
variable {K : PySem.W.Frag} {κ φ φ' φ2 : Nat → Addr} {h h' h2 : HP} {H H' H2 : Hp}
theorem EnvR.step {e : Ev} {σ : L2.St} (r : EnvR φ h.length H e σ) (S : Sim K κ φ h H) (st : Step φ h H φ' h' H') : EnvR φ' h'.length H' e σ :=
  ⟨r.len, fun i d q => by obtain ⟨v, e, rv⟩ := r.get i d q; exact ⟨v, e, rv.step S st⟩⟩
theorem EnvR.set {n : Nat} {e : Ev} {σ : L2.St} (r : EnvR φ n H e σ) {d : D} {v : V} (q : RV φ n H d v) (i : Nat) : EnvR φ n H (e.set i (some d)) (σ.set i (some v)) := by
  refine ⟨by simpa using r.len, fun j d' e' => ?_⟩
  by_cases hij : i = j
  · subst hij
    by_cases hl : i < e.length
    · rw [List.getElem?_set_self hl] at e'
      cases e'
      exact ⟨v, by rw [List.getElem?_set_self (by rw [← r.len]; exact hl)], q⟩
    · rw [List.getElem?_eq_none (by simpa using hl)] at e'; cases e'
  · rw [List.getElem?_set_ne hij] at e'
    obtain ⟨v', e1, q1⟩ := r.get j d' e'
    exact ⟨v', by rw [List.getElem?_set_ne hij]; exact e1, q1⟩
theorem EnvR.wipe {n : Nat} {e : Ev} {σ : L2.St} (r : EnvR φ n H e σ) : ∀ vs : List Nat, EnvR φ n H (wipeE e vs) (wipe σ vs)
  | [] => r
  | i :: vs => by
    have q := EnvR.wipe r vs
    refine ⟨by simpa [wipeE, L2.wipe] using q.len, fun j d e' => ?_⟩
    show ∃ v, ((L2.wipe σ vs).set i none)[j]? = some (some v) ∧ _
    have e' : ((wipeE e vs).set i none)[j]? = some (some d) := e'
    by_cases hij : i = j
    · subst hij
      by_cases hl : i < (wipeE e vs).length
      · rw [List.getElem?_set_self hl] at e'; cases e'
      · rw [List.getElem?_eq_none (by simpa using hl)] at e'; cases e'
    · rw [List.getElem?_set_ne hij] at e' ⊢
      exact q.get j d e'
theorem Post.step {r : R D} {Q : VK} (p : Post K κ φ h H r Q) (st : Step φ h H φ' h' H') : Post K κ φ' h' H' r Q := by
  cases r with
  | ok d h2 => exact fun φ2 H2 v s2 => p φ2 H2 v (st.trans s2)
  | ex c fs h2 => exact p
  | no => exact p
theorem PostA.step {r : R (List D)} {Q : List V → Hp → Prop} (p : PostA K κ φ h H r Q) (st : Step φ h H φ' h' H') : PostA K κ φ' h' H' r Q := by
  cases r with
  | ok d h2 => exact fun φ2 H2 v s2 => p φ2 H2 v (st.trans s2)
  | ex c fs h2 => exact p
  | no => exact p
theorem PostT.step {r : R Bool} {Q : Bool → Hp → Prop} (p : PostT K κ φ h H r Q) (st : Step φ h H φ' h' H') : PostT K κ φ' h' H' r Q := by
  cases r with
  | ok d h2 => exact fun φ2 H2 s2 => p φ2 H2 (st.trans s2)
  | ex c fs h2 => exact p
  | no => exact p
theorem PostO.step {r : R (Option Int)} {Q : Option Int → Hp → Prop} (p : PostO K κ φ h H r Q) (st : Step φ h H φ' h' H') : PostO K κ φ' h' H' r Q := by
  cases r with
  | ok d h2 => exact fun φ2 H2 s2 => p φ2 H2 (st.trans s2)
  | ex c fs h2 => exact p
  | no => exact p
theorem PostS.step {r : R FL} {Dn : Ends} (p : PostS K κ φ h H r Dn) (st : Step φ h H φ' h' H') : PostS K κ φ' h' H' r Dn := by
  cases r with
  | ok f h2 => cases f <;> exact fun φ2 H2 v s2 => p φ2 H2 v (st.trans s2)
  | ex c fs h2 => exact p
  | no => exact p
theorem Post.of {d : D} {h' : HP} {Q : VK} (p : Post K κ φ h H (.ok d h') Q) {v : V} (st : Step φ h H φ' h' H') (S : Sim K κ φ' h' H') (r : RV φ' h'.length H' d v) : Q v H' := p φ' H' v st S r
theorem Post.of0 {d : D} {Q : VK} (p : Post K κ φ h H (.ok d h) Q) {v : V} (S : Sim K κ φ h H) (r : RV φ h.length H d v) : Q v H := p φ H v Step.refl S r
end
end Z
/-! Z2: the hand layer's judgements with the plain evaluator as reading: expressions. -/
namespace Z
open PySem L2 PyProof.Rows

section
variable {K : PySem.W.Frag} {κ φ φ' φ2 : Nat → Addr} {h h' h2 : HP} {H H' H2 : Hp}
theorem Post.bind {α : Type} {r : R α} {f : α → HP → R D} {Q : VK} (p : Post K κ φ h H (r.bind f) Q) : ∃ a h1, r = .ok a h1 ∧ Post K κ φ h H (f a h1) Q := by
  cases r with
  | ok a h1 => exact ⟨a, h1, rfl, p⟩
  | ex c fs h1 => exact False.elim p
  | no => exact False.elim p
theorem PostA.bind {α : Type} {r : R α} {f : α → HP → R (List D)} {Q : List V → Hp → Prop} (p : PostA K κ φ h H (r.bind f) Q) : ∃ a h1, r = .ok a h1 ∧ PostA K κ φ h H (f a h1) Q := by
  cases r with
  | ok a h1 => exact ⟨a, h1, rfl, p⟩
  | ex c fs h1 => exact False.elim p
  | no => exact False.elim p
theorem PostT.bind {α : Type} {r : R α} {f : α → HP → R Bool} {Q : Bool → Hp → Prop} (p : PostT K κ φ h H (r.bind f) Q) : ∃ a h1, r = .ok a h1 ∧ PostT K κ φ h H (f a h1) Q := by
  cases r with
  | ok a h1 => exact ⟨a, h1, rfl, p⟩
  | ex c fs h1 => exact False.elim p
  | no => exact False.elim p
theorem PostO.bind {α : Type} {r : R α} {f : α → HP → R (Option Int)} {Q : Option Int → Hp → Prop} (p : PostO K κ φ h H (r.bind f) Q) : ∃ a h1, r = .ok a h1 ∧ PostO K κ φ h H (f a h1) Q := by
  cases r with
  | ok a h1 => exact ⟨a, h1, rfl, p⟩
  | ex c fs h1 => exact False.elim p
  | no => exact False.elim p
theorem PostS.bind {α : Type} {r : R α} {f : α → HP → R FL} {Dn : Ends} (p : PostS K κ φ h H (r.bind f) Dn) : ∃ a h1, r = .ok a h1 ∧ PostS K κ φ h H (f a h1) Dn := by
  cases r with
  | ok a h1 => exact ⟨a, h1, rfl, p⟩
  | ex c fs h1 => exact False.elim p
  | no => exact False.elim p
end

/-! ### readings -/
def tD (K : PySem.W.Frag) (κ : Nat → Addr) (C : Ctx) (m : ME) : TE := fun σ H Q => ∃ φ e h, Sim K κ φ h H ∧ EnvR φ h.length H e σ ∧ Post K κ φ h H (m C e h) Q
def tQ (K : PySem.W.Frag) (κ : Nat → Addr) (C : Ctx) (m : MT) : TT := fun σ H Q => ∃ φ e h, Sim K κ φ h H ∧ EnvR φ h.length H e σ ∧ PostT K κ φ h H (m C e h) Q
def tA (K : PySem.W.Frag) (κ : Nat → Addr) (C : Ctx) (m : MA) : TA := fun σ H Q => ∃ φ e h, Sim K κ φ h H ∧ EnvR φ h.length H e σ ∧ PostA K κ φ h H (m C e h) Q
def tO (K : PySem.W.Frag) (κ : Nat → Addr) (C : Ctx) (m : MO) : TO := fun σ H Q => ∃ φ e h, Sim K κ φ h H ∧ EnvR φ h.length H e σ ∧ PostO K κ φ h H (m C e h) Q
def tS (K : PySem.W.Frag) (κ : Nat → Addr) (C : Ctx) (m : MS) : TS := fun Dn σ H => ∃ φ e h, Sim K κ φ h H ∧ EnvR φ h.length H e σ ∧ PostS K κ φ h H (m C e h) Dn

structure SE (X : Cx) (κ : Nat → Addr) (C : Ctx) (e : Expr) (m : ME) : Prop where
  pe : PE X e (tD X.K κ C m)
structure ST (X : Cx) (κ : Nat → Addr) (C : Ctx) (e : Expr) (m : MT) : Prop where
  pt : PT X e (tQ X.K κ C m)
/-- a chain of and, or -/
structure SW (X : Cx) (κ : Nat → Addr) (C : Ctx) (e : Expr) (m : MT) : Prop where
  pw : PW X e (tQ X.K κ C m)
structure SA (X : Cx) (κ : Nat → Addr) (C : Ctx) (es : List Expr) (m : MA) : Prop where
  pa : PA X es (tA X.K κ C m)
structure SO (X : Cx) (κ : Nat → Addr) (C : Ctx) (e : Option Expr) (m : MO) : Prop where
  po : PO X e (tO X.K κ C m)
structure SS (X : Cx) (κ : Nat → Addr) (C : Ctx) (s : Stmt) (m : MS) : Prop where
  ps : PS X s (tS X.K κ C m)
structure SSs (X : Cx) (κ : Nat → Addr) (C : Ctx) (s : List Stmt) (m : MS) : Prop where
  pss : PSs X s (tS X.K κ C m)

section
variable {K : PySem.W.Frag} {κ φ : Nat → Addr} {h h1 : HP} {H : Hp} {C : Ctx} {e : Ev} {σ : L2.St}
theorem td_of {m : ME} {d : D} {Q : VK} (S : Sim K κ φ h H) (r : EnvR φ h.length H e σ) (q : m C e h = .ok d h1)
    (k : ∀ φ1 H1 v, Step φ h H φ1 h1 H1 → Sim K κ φ1 h1 H1 → EnvR φ1 h1.length H1 e σ → RV φ1 h1.length H1 d v → Q v H1) : tD K κ C m σ H Q :=
  ⟨φ, e, h, S, r, by rw [q]; exact fun φ1 H1 v st S1 rv => k φ1 H1 v st S1 (r.step S st) rv⟩
theorem tq_of {m : MT} {b : Bool} {Q : Bool → Hp → Prop} (S : Sim K κ φ h H) (r : EnvR φ h.length H e σ) (q : m C e h = .ok b h1)
    (k : ∀ φ1 H1, Step φ h H φ1 h1 H1 → Sim K κ φ1 h1 H1 → EnvR φ1 h1.length H1 e σ → Q b H1) : tQ K κ C m σ H Q :=
  ⟨φ, e, h, S, r, by rw [q]; exact fun φ1 H1 st S1 => k φ1 H1 st S1 (r.step S st)⟩
theorem ta_of {m : MA} {ds : List D} {Q : List V → Hp → Prop} (S : Sim K κ φ h H) (r : EnvR φ h.length H e σ) (q : m C e h = .ok ds h1)
    (k : ∀ φ1 H1 vs, Step φ h H φ1 h1 H1 → Sim K κ φ1 h1 H1 → EnvR φ1 h1.length H1 e σ → RVs φ1 h1.length H1 ds vs → Q vs H1) : tA K κ C m σ H Q :=
  ⟨φ, e, h, S, r, by rw [q]; exact fun φ1 H1 v st S1 rv => k φ1 H1 v st S1 (r.step S st) rv⟩
theorem to_of {m : MO} {b : Option Int} {Q : Option Int → Hp → Prop} (S : Sim K κ φ h H) (r : EnvR φ h.length H e σ) (q : m C e h = .ok b h1)
    (k : ∀ φ1 H1, Step φ h H φ1 h1 H1 → Sim K κ φ1 h1 H1 → EnvR φ1 h1.length H1 e σ → Q b H1) : tO K κ C m σ H Q :=
  ⟨φ, e, h, S, r, by rw [q]; exact fun φ1 H1 st S1 => k φ1 H1 st S1 (r.step S st)⟩
end

section
variable {X : Cx} {κ : Nat → Addr} {C : Ctx} {a b : Expr} {ma mb : ME} {pos : Pos}
theorem SE.mk' {e : Expr} {m : ME} {t : TE} (hp : PE X e t) (k : ∀ φ ev h σ H Q, Sim X.K κ φ h H → EnvR φ h.length H ev σ → Post X.K κ φ h H (m C ev h) Q → t σ H Q) : SE X κ C e m :=
  ⟨⟨fun pins s σ H Q I ⟨φ, ev, h, S, r, p⟩ => hp.run pins s σ H Q I (k φ ev h σ H Q S r p)⟩⟩
theorem ST.mk' {e : Expr} {m : MT} {t : TT} (hp : PT X e t) (k : ∀ φ ev h σ H Q, Sim X.K κ φ h H → EnvR φ h.length H ev σ → PostT X.K κ φ h H (m C ev h) Q → t σ H Q) : ST X κ C e m :=
  ⟨⟨fun pins s σ H Q I ⟨φ, ev, h, S, r, p⟩ => hp.run pins s σ H Q I (k φ ev h σ H Q S r p)⟩⟩
theorem SW.mk' {e : Expr} {m : MT} {t : TT} (hp : PW X e t) (k : ∀ φ ev h σ H Q, Sim X.K κ φ h H → EnvR φ h.length H ev σ → PostT X.K κ φ h H (m C ev h) Q → t σ H Q) : SW X κ C e m :=
  ⟨⟨fun whole pins s σ H Q I ⟨φ, ev, h, S, r, p⟩ => hp.run whole pins s σ H Q I (k φ ev h σ H Q S r p)⟩⟩
theorem SA.mk' {es : List Expr} {m : MA} {t : TA} (hp : PA X es t) (k : ∀ φ ev h σ H Q, Sim X.K κ φ h H → EnvR φ h.length H ev σ → PostA X.K κ φ h H (m C ev h) Q → t σ H Q) : SA X κ C es m :=
  ⟨⟨fun pos pins s σ H Q I ⟨φ, ev, h, S, r, p⟩ => hp.run pos pins s σ H Q I (k φ ev h σ H Q S r p)⟩⟩
theorem SO.mk' {e : Option Expr} {m : MO} {t : TO} (hp : PO X e t) (k : ∀ φ ev h σ H Q, Sim X.K κ φ h H → EnvR φ h.length H ev σ → PostO X.K κ φ h H (m C ev h) Q → t σ H Q) : SO X κ C e m := by
  constructor
  constructor
  intro pins s σ H Q I ⟨φ, ev, h, S, r, p⟩
  exact hp.run pins s σ H Q I (k φ ev h σ H Q S r p)
theorem SS.mk' {st : Stmt} {m : MS} {t : TS} (hp : PS X st t) (k : ∀ φ ev h σ H Dn, Sim X.K κ φ h H → EnvR φ h.length H ev σ → PostS X.K κ φ h H (m C ev h) Dn → t Dn σ H) : SS X κ C st m :=
  ⟨⟨fun pins s σ H Dn I ⟨φ, ev, h, S, r, p⟩ => hp.run pins s σ H Dn I (k φ ev h σ H Dn S r p)⟩⟩
theorem SSs.mk' {st : List Stmt} {m : MS} {t : TS} (hp : PSs X st t) (k : ∀ φ ev h σ H Dn, Sim X.K κ φ h H → EnvR φ h.length H ev σ → PostS X.K κ φ h H (m C ev h) Dn → t Dn σ H) : SSs X κ C st m :=
  ⟨⟨fun pins s σ H Dn I ⟨φ, ev, h, S, r, p⟩ => hp.run pins s σ H Dn I (k φ ev h σ H Dn S r p)⟩⟩

/-! ### names, constants -/
theorem se_v (i : Nat) {x : Str} {pos : Pos} (hN : X.N[i]? = some x := by rfl) (hv : Vis X.env.scope x := by first | exact Or.inl rfl | exact Or.inr (Or.inl rfl) | exact Or.inr (Or.inr rfl)) (hd : (x == ("__debug__" : Str)) = false := by decide)
    (hcd : (x == ("__classdict__" : Str)) = false := by decide) : SE X κ C (.Name x pos) (eV i) :=
  SE.mk' (pe_var hN hv hd hcd) fun φ ev h σ H Q S r p => by
    unfold eV at p
    split at p
    · rename_i d e
      obtain ⟨v, e1, q⟩ := r.get i d e
      exact ⟨v, e1, p.of0 S q⟩
    · exact False.elim p
theorem se_int {i : Int} {j : Nat} {pos : Pos} : SE X κ C (.Constant (.int i) j pos) (eC (.int i)) := SE.mk' pe_int fun φ ev h σ H Q S r p => p.of0 S (by simp [RV])
theorem se_bl {b : Bool} {j : Nat} {pos : Pos} : SE X κ C (.Constant (.bool b) j pos) (eC (.bl b)) := SE.mk' pe_bl fun φ ev h σ H Q S r p => p.of0 S (by simp [RV])
theorem se_non {j : Nat} {pos : Pos} : SE X κ C (.Constant .none j pos) (eC .non) := SE.mk' pe_non fun φ ev h σ H Q S r p => p.of0 S (by simp [RV])
theorem se_str {x : Str} {j : Nat} {pos : Pos} : SE X κ C (.Constant (.str x) j pos) (eC (.str x)) := SE.mk' pe_str fun φ ev h σ H Q S r p => p.of0 S (by simp [RV])
theorem se_gi {x : Str} {i : Int} {pos : Pos} {t : Tok} (hm : X.mg x = some (.int i t)) (hg : Gl X x := by rfl) (hd : (x == ("__debug__" : Str)) = false := by decide) : SE X κ C (.Name x pos) (eC (.int i)) :=
  SE.mk' (pe_glob (v := .int i) hg hm ⟨_, rfl⟩ hd) fun φ ev h σ H Q S r p => p.of0 S (by simp [RV])
/-! ### operators -/
def rD (K : PySem.W.Frag) (κ : Nat → Addr) (op : D → D → HP → R D) : R2 := fun x y H Q => ∃ φ h dx dy, Sim K κ φ h H ∧ RV φ h.length H dx x ∧ RV φ h.length H dy y ∧ Post K κ φ h H (op dx dy h) Q
def rDU (K : PySem.W.Frag) (κ : Nat → Addr) (op : D → HP → R D) : V → Hp → VK → Prop := fun x H Q => ∃ φ h dx, Sim K κ φ h H ∧ RV φ h.length H dx x ∧ Post K κ φ h H (op dx h) Q
theorem se_op {o : Operator} {op : D → D → HP → R D} (ho : OpR X (binaryOp o) (rD X.K κ op)) (ha : SE X κ C a ma) (hb : SE X κ C b mb) : SE X κ C (.BinOp a o b pos) (eOp op ma mb) :=
  SE.mk' (pe_op ho ha.pe hb.pe) fun φ ev h σ H Q S r p => by
    obtain ⟨dx, h1, e1, p⟩ := Post.bind p
    obtain ⟨dy, h2, e2, p⟩ := Post.bind p
    exact td_of S r e1 fun φ1 H1 v st S1 r1 q1 => td_of S1 r1 e2 fun φ2 H2 w st2 S2 r2 q2 => ⟨φ2, h2, dx, dy, S2, q1.step S1 st2, q2, p.step (st.trans st2)⟩
theorem se_un {o : UnaryOp} {op : D → HP → R D} (ho : UnR X (unaryOp o) (rDU X.K κ op)) (ha : SE X κ C a ma) : SE X κ C (.UnaryOp o a pos) (eUn op ma) :=
  SE.mk' (pe_un ho ha.pe) fun φ ev h σ H Q S r p => by
    obtain ⟨dx, h1, e1, p⟩ := Post.bind p
    exact td_of S r e1 fun φ1 H1 v st S1 r1 q1 => ⟨φ1, h1, dx, S1, q1, p.step st⟩
theorem se_cmp {o : CmpOp} {op : D → D → HP → R D} (ho : OpR X (compareOp o) (rD X.K κ op)) (ha : SE X κ C a ma) (hb : SE X κ C b mb) (hm : behindInMarks o b = false) : SE X κ C (.Compare a [o] [b] pos) (eOp op ma mb) :=
  SE.mk' (pe_cmpR ho ha.pe hb.pe hm) fun φ ev h σ H Q S r p => by
    obtain ⟨dx, h1, e1, p⟩ := Post.bind p
    obtain ⟨dy, h2, e2, p⟩ := Post.bind p
    exact td_of S r e1 fun φ1 H1 v st S1 r1 q1 => td_of S1 r1 e2 fun φ2 H2 w st2 S2 r2 q2 => ⟨φ2, h2, dx, dy, S2, q1.step S1 st2, q2, p.step (st.trans st2)⟩
end

/-! ### what the operators do -/
def opAdd : D → D → HP → R D := fun x y h => match x, y with
  | .int i, .int j => .ok (.int (i + j)) h
  | .str a, .str b => if a.length + b.length ≤ sizeLine then .ok (.str (a ++ b)) h else .no
  | .tup a, .tup b => if a.length + b.length ≤ sizeLine then .ok (.tup (a ++ b)) h else .no
  | .ref i, .ref j => match h[i]?, h[j]? with
    | some (.lst a), some (.lst b) => if a.length + b.length ≤ sizeLine then .ok (.ref h.length) (h ++ [.lst (a ++ b)]) else .no
    | _, _ => .no
  | _, _ => .no
def opSub : D → D → HP → R D := fun x y h => match x, y with
  | .int i, .int j => .ok (.int (i - j)) h
  | _, _ => .no
def mulOk (i j : Int) : Bool := decide (i.natAbs.log2 + j.natAbs.log2 < 100000000)
def opMul : D → D → HP → R D := fun x y h => match x, y with
  | .int i, .int j => if mulOk i j = true then .ok (.int (i * j)) h else .no
  | .ref i, .int k => match h[i]? with
    | some (.lst a) => if -(2 ^ 63) ≤ k ∧ k < 2 ^ 63 ∧ a.length * k.toNat ≤ sizeLine then .ok (.ref h.length) (h ++ [.lst (List.replicate k.toNat a).flatten]) else .no
    | _ => .no
  | .str a, .int k => if a.length ≤ 1000 ∧ k.natAbs ≤ 1000 then .ok (.str (Txt.mul a k)) h else .no
  | _, _ => .no
def divOk (j : Int) : Bool := decide (j ≠ 0) && decide (j.natAbs.log2 < 9000)
def opDiv : D → D → HP → R D := fun x y h => match x, y with
  | .int i, .int j => if divOk j = true then .ok (.int (i.fdiv j)) h else .no
  | _, _ => .no
def opMod : D → D → HP → R D := fun x y h => match x, y with
  | .int i, .int j => if j ≠ 0 then .ok (.int (i.fmod j)) h else .no
  | _, _ => .no
def opPow : D → D → HP → R D := fun x y h => match x, y with
  | .int i, .int j => if 0 ≤ j ∧ j ≤ 1000000 ∧ i.natAbs < 2 ^ 64 then .ok (.int (i ^ j.toNat)) h else .no
  | _, _ => .no
def opNeg : D → HP → R D := fun x h => match x with
  | .int i => .ok (.int (-i)) h
  | _ => .no
def opLt : D → D → HP → R D := fun x y h => match x, y with
  | .int i, .int j => .ok (.bl (decide (i < j))) h
  | _, _ => .no
def opLe : D → D → HP → R D := fun x y h => match x, y with
  | .int i, .int j => .ok (.bl (decide (i ≤ j))) h
  | _, _ => .no
def opGt : D → D → HP → R D := fun x y h => match x, y with
  | .int i, .int j => .ok (.bl (decide (j < i))) h
  | _, _ => .no
def opGe : D → D → HP → R D := fun x y h => match x, y with
  | .int i, .int j => .ok (.bl (decide (j ≤ i))) h
  | _, _ => .no
def isNon : D → Bool
  | .non => true
  | _ => false
def opIsN : D → D → HP → R D := fun x y h => match y with
  | .non => .ok (.bl (isNon x)) h
  | _ => .no
def opNotN : D → D → HP → R D := fun x y h => match y with
  | .non => .ok (.bl (!isNon x)) h
  | _ => .no

section
variable {X : Cx} {κ : Nat → Addr}
theorem RV.int_iff {φ : Nat → Addr} {n : Nat} {H : Hp} {i : Int} {v : V} : RV φ n H (.int i) v ↔ v = .int i := by simp [RV]
theorem RV.bl_iff {φ : Nat → Addr} {n : Nat} {H : Hp} {i : Bool} {v : V} : RV φ n H (.bl i) v ↔ v = .bl i := by simp [RV]
theorem RV.str_iff {φ : Nat → Addr} {n : Nat} {H : Hp} {i : Str} {v : V} : RV φ n H (.str i) v ↔ v = .str i := by simp [RV]
theorem RV.non_iff {φ : Nat → Addr} {n : Nat} {H : Hp} {v : V} : RV φ n H .non v ↔ v = .non := by simp [RV]
theorem RV.ref_iff {φ : Nat → Addr} {n i : Nat} {H : Hp} {v : V} : RV φ n H (.ref i) v ↔ i < n ∧ v = .ref (φ i) := by simp [RV]
theorem RV.tup_iff {φ : Nat → Addr} {n : Nat} {H : Hp} {ds : List D} {v : V} : RV φ n H (.tup ds) v ↔ ∃ p vs, v = .ref p ∧ H p = some (.tup vs) ∧ RVs φ n H ds vs := by simp [RV]
/-- a new list is laid -/
theorem Post.newL {K : PySem.W.Frag} {φ : Nat → Addr} {h : HP} {H : Hp} {ds : List D} {vs : List V} {Q : VK} {p : Addr} (q : Post K κ φ h H (.ok (.ref h.length) (h ++ [.lst ds])) Q) (S : Sim K κ φ h H) (hp : H p = none) (r : RVs φ h.length H ds vs) : Q (.ref p) (upd H p (.lst vs)) := by
  have st := step_new S (o := .lst ds) (u := .lst vs) hp
  exact q _ _ _ st (S.new hp fun st => ⟨vs, upd_same, r.step S st⟩) (RV.ref_iff.mpr ⟨by simp, by rw [ext_at]⟩)
/-- a new tuple is laid -/
theorem Post.newT {K : PySem.W.Frag} {φ : Nat → Addr} {h : HP} {H : Hp} {ds : List D} {vs : List V} {Q : VK} {p : Addr} (q : Post K κ φ h H (.ok (.tup ds) h) Q) (S : Sim K κ φ h H) (hp : H p = none) (r : RVs φ h.length H ds vs) : Q (.ref p) (upd H p (.tup vs)) := by
  have st := step_temp S (u := .tup vs) hp
  exact q _ _ _ st (S.temp hp) (RV.tup_iff.mpr ⟨p, vs, rfl, upd_same, r.step S st⟩)
theorem Sim.lst {K : PySem.W.Frag} {φ : Nat → Addr} {h : HP} {H : Hp} {i : Nat} {ds : List D} (S : Sim K κ φ h H) (e : h[i]? = some (.lst ds)) : ∃ vs, H (φ i) = some (.lst vs) ∧ RVs φ h.length H ds vs := S.obj i _ e
theorem Sim.dic {K : PySem.W.Frag} {φ : Nat → Addr} {h : HP} {H : Hp} {i : Nat} {ds : List (Key × D)} (S : Sim K κ φ h H) (e : h[i]? = some (.dic ds)) : ∃ vs, H (φ i) = some (.dK vs) ∧ RKs φ h.length H ds vs := S.obj i _ e
theorem Sim.dct {K : PySem.W.Frag} {φ : Nat → Addr} {h : HP} {H : Hp} {i : Nat} {ds : List (List Key × D)} (S : Sim K κ φ h H) (e : h[i]? = some (.dct ds)) : ∃ vs, H (φ i) = some (.dT vs) ∧ RKs φ h.length H ds vs := S.obj i _ e
theorem Sim.ins {K : PySem.W.Frag} {φ : Nat → Addr} {h : HP} {H : Hp} {i c : Nat} {ds : List (Str × D)} (S : Sim K κ φ h H) (e : h[i]? = some (.ins c ds)) : ∃ dx vs, H (φ i) = some (.ins (κ c) dx vs) ∧ RKs φ h.length H ds vs := S.obj i _ e
theorem Sim.isL {K : PySem.W.Frag} {φ : Nat → Addr} {h : HP} {H : Hp} {i : Nat} {ds : List D} (S : Sim K κ φ h H) (e : isL i h = some ds) : ∃ vs, SqL K H (φ i) vs ∧ RVs φ h.length H ds vs := by
  unfold Z.isL at e
  split at e
  · rename_i xs e1
    cases e
    obtain ⟨vs, e2, r⟩ := S.lst e1
    exact ⟨vs, SqL.of e2, r⟩
  · rename_i xs e1
    cases e
    obtain ⟨vs, e2, r⟩ := S.obj i _ e1
    refine ⟨vs, ?_, r⟩
    rcases e2 with ⟨o, e2⟩ | e2
    · exact .inl (.inr ⟨o, e2⟩)
    · exact .inr e2
  · cases e
theorem od_add : OpR X (binaryOp .Add) (rD X.K κ opAdd) := by
  intro pins s σ H x y v u Q I rx ry ⟨φ, h, dx, dy, S, qx, qy, p⟩
  unfold opAdd at p
  split at p
  · rw [RV.int_iff] at qx qy
    exact op_add pins s σ H _ _ v u Q I rx ry ⟨_, _, qx, qy, p.of0 S (RV.int_iff.mpr rfl)⟩
  · split at p
    · rename_i hz
      rw [RV.str_iff] at qx qy
      exact op_add_str pins s σ H _ _ v u Q I rx ry ⟨_, _, qx, qy, hz, p.of0 S (RV.str_iff.mpr rfl)⟩
    · exact False.elim p
  · split at p
    · rename_i hz
      rw [RV.tup_iff] at qx qy
      obtain ⟨a, vs, rfl, ha, ra⟩ := qx
      obtain ⟨b, us, rfl, hb, rb⟩ := qy
      have la := ra.len
      have lb := rb.len
      refine op_catA pins s σ H _ _ v u Q I rx ry ⟨a, b, vs, us, rfl, rfl, SqT.of ha, SqT.of hb, by omega, fun z => ?_, fun _ z => ?_, fun _ _ q hq => ?_⟩
      · subst z
        refine p.of0 S (RV.tup_iff.mpr ⟨b, us, rfl, hb, ?_⟩)
        have : RVs φ h.length H _ ([] ++ us) := ra.append rb
        simpa using this
      · subst z
        refine p.of0 S (RV.tup_iff.mpr ⟨a, vs, rfl, ha, ?_⟩)
        have : RVs φ h.length H _ (vs ++ []) := ra.append rb
        simpa using this
      · exact p.newT S hq (ra.append rb)
    · exact False.elim p
  · rw [RV.ref_iff] at qx qy
    split at p
    · rename_i e1 e2
      split at p
      · rename_i hz
        obtain ⟨vs, ha, ra⟩ := S.lst e1
        obtain ⟨us, hb, rb⟩ := S.lst e2
        have la := ra.len
        have lb := rb.len
        exact op_cat pins s σ H _ _ v u Q I rx ry ⟨_, _, vs, us, qx.2, qy.2, ha, hb, by omega, fun q hq => p.newL S hq (ra.append rb)⟩
      · exact False.elim p
    · exact False.elim p
  · exact False.elim p
theorem od_sub : OpR X (binaryOp .Sub) (rD X.K κ opSub) := by
  intro pins s σ H x y v u Q I rx ry ⟨φ, h, dx, dy, S, qx, qy, p⟩
  unfold opSub at p
  split at p
  · rw [RV.int_iff] at qx qy
    exact op_sub pins s σ H _ _ v u Q I rx ry ⟨_, _, qx, qy, p.of0 S (RV.int_iff.mpr rfl)⟩
  · exact False.elim p
theorem mul_ok {i j : Int} (h : mulOk i j = true) : IntMulOk i j := by
  have b : ∀ x : Int, Builtin.Int.intBits x ≤ x.natAbs.log2 + 1 := fun x => by
    unfold Builtin.Int.intBits
    split <;> omega
  have h1 := b i
  have h2 := b j
  have h3 : i.natAbs.log2 + j.natAbs.log2 < 100000000 := of_decide_eq_true h
  have e : bitsLine = 134217728 := by decide
  unfold IntMulOk
  intro z
  rw [Bool.and_eq_true] at z
  have z2 := z.2
  unfold Builtin.Int.intTooBig at z2
  have z3 := of_decide_eq_true z2
  rw [e] at z3
  omega
theorem RVs.flat {φ : Nat → Addr} {n : Nat} {H : Hp} {ds : List D} {vs : List V} (r : RVs φ n H ds vs) : ∀ k : Nat, RVs φ n H (List.replicate k ds).flatten (List.replicate k vs).flatten
  | 0 => by simp [RVs]
  | k + 1 => by
    simp only [List.replicate_succ, List.flatten_cons]
    exact r.append (RVs.flat r k)
theorem mulS_ok {a : Str} {k : Int} (h1 : a.length ≤ 1000) (h2 : k.natAbs ≤ 1000) : PySem.MulOk a k := by
  refine ⟨?_, fun h3 _ h4 => ?_, fun h3 _ => ?_⟩
  · rw [Bool.or_eq_false_iff]
    exact ⟨decide_eq_false (by omega), decide_eq_false (by omega)⟩
  · have h5 : (a.length : Int) ≤ (2 ^ 63 - 1) / k := by
      rw [Int.le_ediv_iff_mul_le (by omega)]
      have : (a.length : Int) * k ≤ 1000 * 1000 := Int.mul_le_mul (by omega) (by omega) (by omega) (by decide)
      omega
    omega
  · have h5 : a.length * k.toNat ≤ 1000 * 1000 := Nat.mul_le_mul h1 (by omega)
    unfold Builtin.Str.tooLong
    rw [decide_eq_false_iff_not, sizeLine_eq]
    omega
theorem od_mul : OpR X (binaryOp .Mult) (rD X.K κ opMul) := by
  intro pins s σ H x y v u Q I rx ry ⟨φ, h, dx, dy, S, qx, qy, p⟩
  unfold opMul at p
  split at p
  · split at p
    · rename_i hz
      rw [RV.int_iff] at qx qy
      exact (opI (C := fun i j => mulOk i j = true) (g := fun i j => i * j) fun _ _ _ _ _ _ _ hc q => mul_int q (mul_ok hc)) pins s σ H _ _ v u Q I rx ry ⟨_, _, qx, qy, hz, p.of0 S (RV.int_iff.mpr rfl)⟩
    · exact False.elim p
  · split at p
    · rename_i e1
      split at p
      · rename_i hz
        rw [RV.ref_iff] at qx
        rw [RV.int_iff] at qy
        obtain ⟨vs, ha, ra⟩ := S.lst e1
        have la := ra.len
        exact op_rep pins s σ H _ _ v u Q I rx ry ⟨_, _, vs, qx.2, qy, ha, hz.1, hz.2.1, by rw [la]; exact hz.2.2, fun q hq => p.newL S hq (ra.flat _)⟩
      · exact False.elim p
    · exact False.elim p
  · rename_i a k
    split at p
    · rename_i hz
      rw [RV.str_iff] at qx
      rw [RV.int_iff] at qy
      subst qx qy
      obtain ⟨t1, rfl⟩ := rx
      obtain ⟨t2, rfl⟩ := ry
      exact PySem.SB.mul (mulS_ok hz.1 hz.2) fun t' kk => ⟨.str (Txt.mul a k), H, I.tok _, ⟨_, rfl⟩, p.of0 S (RV.str_iff.mpr rfl)⟩
    · exact False.elim p
  · exact False.elim p
theorem od_div : OpR X (binaryOp .FloorDiv) (rD X.K κ opDiv) := by
  intro pins s σ H x y v u Q I rx ry ⟨φ, h, dx, dy, S, qx, qy, p⟩
  unfold opDiv at p
  split at p
  · split at p
    · rename_i hz
      rw [RV.int_iff] at qx qy
      exact (opI (C := fun _ j => divOk j = true) (g := fun i j => i.fdiv j) fun _ _ _ _ _ _ _ hc q => by
        unfold divOk at hc
        rw [Bool.and_eq_true] at hc
        exact floordiv_int (of_decide_eq_true hc.1) q (.inl (PyProof.noPylong_of_log2 (of_decide_eq_true hc.2)))) pins s σ H _ _ v u Q I rx ry ⟨_, _, qx, qy, hz, p.of0 S (RV.int_iff.mpr rfl)⟩
    · exact False.elim p
  · exact False.elim p
theorem od_mod : OpR X (binaryOp .Mod) (rD X.K κ opMod) := by
  intro pins s σ H x y v u Q I rx ry ⟨φ, h, dx, dy, S, qx, qy, p⟩
  unfold opMod at p
  split at p
  · split at p
    · rename_i hz
      rw [RV.int_iff] at qx qy
      exact op_modN pins s σ H _ _ v u Q I rx ry ⟨_, _, qx, qy, hz, p.of0 S (RV.int_iff.mpr rfl)⟩
    · exact False.elim p
  · exact False.elim p
theorem od_pow : OpR X (binaryOp .Pow) (rD X.K κ opPow) := by
  intro pins s σ H x y v u Q I rx ry ⟨φ, h, dx, dy, S, qx, qy, p⟩
  unfold opPow at p
  split at p
  · split at p
    · rename_i hz
      rw [RV.int_iff] at qx qy
      exact op_pow pins s σ H _ _ v u Q I rx ry ⟨_, _, qx, qy, hz, p.of0 S (RV.int_iff.mpr rfl)⟩
    · exact False.elim p
  · exact False.elim p
theorem od_neg : UnR X (unaryOp .USub) (rDU X.K κ opNeg) := by
  intro pins s σ H x v Q I rx ⟨φ, h, dx, S, qx, p⟩
  unfold opNeg at p
  split at p
  · rw [RV.int_iff] at qx
    exact un_neg pins s σ H _ v Q I rx ⟨_, qx, p.of0 S (RV.int_iff.mpr rfl)⟩
  · exact False.elim p
theorem od_lt : OpR X (compareOp .Lt) (rD X.K κ opLt) := by
  intro pins s σ H x y v u Q I rx ry ⟨φ, h, dx, dy, S, qx, qy, p⟩
  unfold opLt at p
  split at p
  · rw [RV.int_iff] at qx qy
    exact op_lt pins s σ H _ _ v u Q I rx ry ⟨_, _, qx, qy, p.of0 S (RV.bl_iff.mpr rfl)⟩
  · exact False.elim p
theorem od_le : OpR X (compareOp .LtE) (rD X.K κ opLe) := by
  intro pins s σ H x y v u Q I rx ry ⟨φ, h, dx, dy, S, qx, qy, p⟩
  unfold opLe at p
  split at p
  · rw [RV.int_iff] at qx qy
    exact op_le pins s σ H _ _ v u Q I rx ry ⟨_, _, qx, qy, p.of0 S (RV.bl_iff.mpr rfl)⟩
  · exact False.elim p
theorem od_gt : OpR X (compareOp .Gt) (rD X.K κ opGt) := by
  intro pins s σ H x y v u Q I rx ry ⟨φ, h, dx, dy, S, qx, qy, p⟩
  unfold opGt at p
  split at p
  · rw [RV.int_iff] at qx qy
    exact op_gt pins s σ H _ _ v u Q I rx ry ⟨_, _, qx, qy, p.of0 S (RV.bl_iff.mpr rfl)⟩
  · exact False.elim p
theorem od_ge : OpR X (compareOp .GtE) (rD X.K κ opGe) := by
  intro pins s σ H x y v u Q I rx ry ⟨φ, h, dx, dy, S, qx, qy, p⟩
  unfold opGe at p
  split at p
  · rw [RV.int_iff] at qx qy
    exact op_ge pins s σ H _ _ v u Q I rx ry ⟨_, _, qx, qy, p.of0 S (RV.bl_iff.mpr rfl)⟩
  · exact False.elim p
theorem isNon_eq {φ : Nat → Addr} {n : Nat} {H : Hp} {d : D} {v : V} (q : RV φ n H d v) : decide (v = .non) = isNon d := by
  cases d with
  | non => rw [RV.non_iff] at q; subst q; rfl
  | bl b => rw [RV.bl_iff] at q; subst q; rfl
  | int b => rw [RV.int_iff] at q; subst q; rfl
  | str b => rw [RV.str_iff] at q; subst q; rfl
  | ref b => rw [RV.ref_iff] at q; rw [q.2]; rfl
  | tup b => rw [RV.tup_iff] at q; obtain ⟨p, vs, rfl, _⟩ := q; rfl
theorem od_isN : OpR X (compareOp .Is) (rD X.K κ opIsN) := by
  intro pins s σ H x y v u Q I rx ry ⟨φ, h, dx, dy, S, qx, qy, p⟩
  unfold opIsN at p
  split at p
  · rw [RV.non_iff] at qy
    exact op_isN pins s σ H _ _ v u Q I rx ry ⟨qy, p.of0 S (RV.bl_iff.mpr (by rw [isNon_eq qx]))⟩
  · exact False.elim p
theorem od_notN : OpR X (compareOp .IsNot) (rD X.K κ opNotN) := by
  intro pins s σ H x y v u Q I rx ry ⟨φ, h, dx, dy, S, qx, qy, p⟩
  unfold opNotN at p
  split at p
  · rw [RV.non_iff] at qy
    exact op_notN pins s σ H _ _ v u Q I rx ry ⟨qy, p.of0 S (RV.bl_iff.mpr (by rw [isNon_eq qx]))⟩
  · exact False.elim p
end
end Z
/-! Z3: equality, tests, displays, subscripts, calls. -/
namespace Z
open PySem L2 PyProof.Rows

/-! ### data of any depth -/
def seqO {α : Type} : List (Option α) → Option (List α)
  | [] => some []
  | none :: _ => none
  | some a :: r => (seqO r).map fun l => a :: l
def toPy : Nat → HP → D → Option PyData
  | _, _, .non => some .none
  | _, _, .bl b => some (.bool b)
  | _, _, .int i => some (.int i)
  | _, _, .str x => some (.str x)
  | 0, _, _ => none
  | n + 1, h, .tup ds => (seqO (ds.map (toPy n h))).map .tuple
  | n + 1, h, .ref i => match isL i h with
    | some ds => (seqO (ds.map (toPy n h))).map .list
    | none => none
def deepN : Nat := 70
def eqFlat : D → D → Option Bool
  | .int i, .int j => some (decide (i = j))
  | .str a, .str b => some (decide (a = b))
  | .bl a, .bl b => some (decide (a = b))
  | .non, .non => some true
  | .non, .int _ => some false
  | .int _, .non => some false
  | .non, .str _ => some false
  | .str _, .non => some false
  | .non, .bl _ => some false
  | .bl _, .non => some false
  | .int _, .str _ => some false
  | .str _, .int _ => some false
  | _, _ => none
def deepEq (x y : D) (h : HP) : Option Bool := match toPy deepN h x, toPy deepN h y with
  | some a, some b => if SeqAt.shaped a = true ∧ SeqAt.shaped b = true then some (PyData.eqv a b) else none
  | _, _ => none
def eqD (x y : D) (h : HP) : Option Bool := match eqFlat x y with
  | some b => some b
  | none => deepEq x y h
def opEq : D → D → HP → R D := fun x y h => match eqD x y h with
  | some b => .ok (.bl b) h
  | none => .no
def opNe : D → D → HP → R D := fun x y h => match eqD x y h with
  | some b => .ok (.bl (!b)) h
  | none => .no
/-- x in a list, a tuple of flat things, one sign in a text, a key in a dict -/
def flatD : D → Bool
  | .non => true
  | .bl _ => true
  | .int _ => true
  | .str _ => true
  | _ => false
def keyD : D → Option Key
  | .int i => some (.inl i)
  | .str x => some (.inr x)
  | _ => none
def keysD : List D → Option (List Key) := fun ds => seqO (ds.map keyD)
section
variable {κ : Type} [DecidableEq κ]
def valD (kvs : List (κ × D)) (k : κ) : Option D := (kvs.find? fun kv => decide (kv.1 = k)).map (·.2)
def putKD (kvs : List (κ × D)) (k : κ) (v : D) : List (κ × D) := if (kvs.any fun kv => decide (kv.1 = k)) = true then kvs.map (fun kv => if kv.1 = k then (kv.1, v) else kv) else kvs ++ [(k, v)]
end
def inFlat (x : D) : List D → Option Bool
  | [] => some false
  | y :: r => match eqFlat y x with
    | some true => some true
    | some false => inFlat x r
    | none => none
def inDeep (x : D) (ds : List D) (h : HP) : Option Bool := match toPy deepN h x, seqO (ds.map (toPy deepN h)) with
  | some a, some bs => if SeqAt.shaped a = true ∧ SeqAt.shaped (.list bs) = true then some (bs.any fun z => PyData.eqv z a) else none
  | _, _ => none
def inD (x y : D) (h : HP) : Option Bool := match y with
  | .ref i => match h[i]? with
    | some (.dic kvs) => match keyD x with
      | some k => some (valD kvs k).isSome
      | none => none
    | some (.dct kvs) => match x with
      | .tup ds => match keysD ds with
        | some k => some (valD kvs k).isSome
        | none => none
      | _ => none
    | _ => match isL i h with
      | some ds => if flatD x = true ∧ ds.all flatD = true then inFlat x ds else inDeep x ds h
      | none => none
  | .tup ds => if flatD x = true ∧ ds.all flatD = true then inFlat x ds else none
  | .str z => match x with
    | .str c => match c.cps.toList with
      | [k] => some (decide (k ∈ z.cps.toList))
      | _ => none
    | _ => none
  | _ => none
def opIn : D → D → HP → R D := fun x y h => match inD x y h with
  | some b => .ok (.bl b) h
  | none => .no
def opNin : D → D → HP → R D := fun x y h => match inD x y h with
  | some b => .ok (.bl (!b)) h
  | none => .no

section
variable {K : PySem.W.Frag} {κ φ : Nat → Addr} {h : HP} {H : Hp}
theorem dpAll_of {n : Nat} (ih : ∀ d v a, toPy n h d = some a → RV φ h.length H d v → Dp K H v a) : ∀ {ds : List D} {vs : List V} {as : List PyData}, seqO (ds.map (toPy n h)) = some as → RVs φ h.length H ds vs → DpAll K H vs as
  | [], vs, as, e, r => by
    simp only [List.map_nil, seqO, Option.some.injEq] at e
    simp only [RVs] at r
    subst e r
    exact .nil
  | d :: ds, vs, as, e, r => by
    simp only [List.map_cons] at e
    simp only [RVs] at r
    obtain ⟨v, r', rfl, q1, q2⟩ := r
    cases e1 : toPy n h d with
    | none => rw [e1] at e; simp [seqO] at e
    | some a =>
      rw [e1] at e
      simp only [seqO] at e
      cases e2 : seqO (ds.map (toPy n h)) with
      | none => rw [e2] at e; simp at e
      | some as' =>
        rw [e2] at e
        simp only [Option.map_some, Option.some.injEq] at e
        subst e
        exact .cons (ih d v a e1 q1) (dpAll_of ih e2 q2)
theorem dp_of (S : Sim K κ φ h H) : ∀ (n : Nat) (d : D) (v : V) (a : PyData), toPy n h d = some a → RV φ h.length H d v → Dp K H v a
  | n, .non, v, a, e, r => by
    rw [RV.non_iff] at r; subst r
    cases n <;> (simp only [toPy, Option.some.injEq] at e; subst e; exact .non)
  | n, .bl b, v, a, e, r => by
    rw [RV.bl_iff] at r; subst r
    cases n <;> (simp only [toPy, Option.some.injEq] at e; subst e; exact .bl b)
  | n, .int b, v, a, e, r => by
    rw [RV.int_iff] at r; subst r
    cases n <;> (simp only [toPy, Option.some.injEq] at e; subst e; exact .int b)
  | n, .str b, v, a, e, r => by
    rw [RV.str_iff] at r; subst r
    cases n <;> (simp only [toPy, Option.some.injEq] at e; subst e; exact .str b)
  | 0, .tup ds, v, a, e, r => by simp [toPy] at e
  | 0, .ref i, v, a, e, r => by simp [toPy] at e
  | n + 1, .tup ds, v, a, e, r => by
    rw [RV.tup_iff] at r
    obtain ⟨p, vs, rfl, hp, r⟩ := r
    simp only [toPy] at e
    cases e2 : seqO (ds.map (toPy n h)) with
    | none => rw [e2] at e; simp at e
    | some as =>
      rw [e2] at e
      simp only [Option.map_some, Option.some.injEq] at e
      subst e
      exact .tup (SqT.of hp) (dpAll_of (fun d v a => dp_of S n d v a) e2 r)
  | n + 1, .ref i, v, a, e, r => by
    rw [RV.ref_iff] at r
    obtain ⟨hi, rfl⟩ := r
    simp only [toPy] at e
    split at e
    · rename_i ds hl
      obtain ⟨vs, hs, r⟩ := S.isL hl
      cases e2 : seqO (ds.map (toPy n h)) with
      | none => rw [e2] at e; simp at e
      | some as =>
        rw [e2] at e
        simp only [Option.map_some, Option.some.injEq] at e
        subst e
        exact .lst hs (dpAll_of (fun d v a => dp_of S n d v a) e2 r)
    · cases e
theorem eqFlat_of {n : Nat} {x y : D} {v u : V} {b : Bool} (e : eqFlat x y = some b) (rx : RV φ n H x v) (ry : RV φ n H y u) : scal v u = true ∧ decide (v = u) = b := by
  unfold eqFlat at e
  split at e <;> first
    | (simp only [RV.int_iff, RV.str_iff, RV.bl_iff, RV.non_iff] at rx ry
       subst rx ry
       cases e
       simp [scal])
    | cases e
theorem flat_eq {n : Nat} {x y : D} {v u : V} {b : Bool} (e : eqFlat x y = some b) (rx : RV φ n H x v) (ry : RV φ n H y u) : eqV v u = b := by
  unfold eqFlat at e
  split at e <;> first
    | (simp only [RV.int_iff, RV.str_iff, RV.bl_iff, RV.non_iff] at rx ry
       subst rx ry
       cases e
       simp [eqV, Bool.beq_eq_decide_eq])
    | cases e
theorem flat_of {n : Nat} {x : D} {v : V} (f : flatD x = true) (rx : RV φ n H x v) : flatV v = true := by
  cases x with
  | non => rw [RV.non_iff] at rx; subst rx; rfl
  | bl _ => rw [RV.bl_iff] at rx; subst rx; rfl
  | int _ => rw [RV.int_iff] at rx; subst rx; rfl
  | str _ => rw [RV.str_iff] at rx; subst rx; rfl
  | tup _ => cases f
  | ref _ => cases f
theorem flat_all {n : Nat} : ∀ {ds : List D} {vs : List V}, ds.all flatD = true → RVs φ n H ds vs → vs.all flatV = true
  | [], vs, f, r => by simp only [RVs] at r; subst r; rfl
  | d :: ds, vs, f, r => by
    simp only [RVs] at r
    obtain ⟨v, r', rfl, q1, q2⟩ := r
    simp only [List.all_cons, Bool.and_eq_true] at f ⊢
    exact ⟨flat_of f.1 q1, flat_all f.2 q2⟩
theorem inFlat_of {n : Nat} {x : D} {v : V} (rx : RV φ n H x v) : ∀ {ds : List D} {vs : List V} {b : Bool}, inFlat x ds = some b → RVs φ n H ds vs → inV v vs = b
  | [], vs, b, e, r => by
    simp only [RVs] at r
    subst r
    simp only [inFlat, Option.some.injEq] at e
    subst e; rfl
  | d :: ds, vs, b, e, r => by
    simp only [RVs] at r
    obtain ⟨u, r', rfl, q1, q2⟩ := r
    simp only [inFlat] at e
    split at e
    · rename_i e1
      cases e
      have := flat_eq e1 q1 rx
      simp [inV, this]
    · rename_i e1
      have h1 := flat_eq e1 q1 rx
      have h2 := inFlat_of rx e q2
      simp only [inV, List.any_cons, h1, Bool.false_or]
      exact h2
    · cases e
theorem key_of' {n : Nat} {x : D} {v : V} {k : Key} (e : keyD x = some k) (rx : RV φ n H x v) : v = kV k := by
  cases x with
  | int i => simp only [keyD, Option.some.injEq] at e; subst e; rw [RV.int_iff] at rx; exact rx
  | str i => simp only [keyD, Option.some.injEq] at e; subst e; rw [RV.str_iff] at rx; exact rx
  | non => cases e
  | bl _ => cases e
  | tup _ => cases e
  | ref _ => cases e
theorem keys_of' {n : Nat} : ∀ {ds : List D} {vs : List V} {k : List Key}, keysD ds = some k → RVs φ n H ds vs → vs = k.map kV
  | [], vs, k, e, r => by
    simp only [keysD, List.map_nil, seqO, Option.some.injEq] at e
    simp only [RVs] at r
    subst e r; rfl
  | d :: ds, vs, k, e, r => by
    simp only [RVs] at r
    obtain ⟨v, r', rfl, q1, q2⟩ := r
    simp only [keysD, List.map_cons] at e
    cases e1 : keyD d with
    | none => rw [e1] at e; simp [seqO] at e
    | some a =>
      rw [e1] at e
      simp only [seqO] at e
      cases e2 : seqO (ds.map keyD) with
      | none => rw [e2] at e; simp at e
      | some as =>
        rw [e2] at e
        simp only [Option.map_some, Option.some.injEq] at e
        subst e
        rw [key_of' e1 q1, keys_of' (ds := ds) (k := as) e2 q2]; rfl
theorem RKs.val {κ' : Type} [DecidableEq κ'] {n : Nat} : ∀ {kvs : List (κ' × D)} {us : List (κ' × V)} (k : κ'), RKs φ n H kvs us → match valD kvs k with
    | some d => ∃ v, valV us k = some v ∧ RV φ n H d v
    | none => valV us k = none
  | [], us, k, r => by simp only [RKs] at r; subst r; rfl
  | (k', d) :: kvs, us, k, r => by
    simp only [RKs] at r
    obtain ⟨v, r', rfl, q1, q2⟩ := r
    by_cases hk : k' = k
    · simp only [valD, valV, List.find?_cons, hk, decide_true, Option.map_some]
      exact ⟨v, rfl, q1⟩
    · have := RKs.val k q2
      simpa only [valD, valV, List.find?_cons, hk, decide_false] using this
theorem RKs.len {κ' : Type} {n : Nat} : ∀ {kvs : List (κ' × D)} {us : List (κ' × V)}, RKs φ n H kvs us → us.length = kvs.length
  | [], us, r => by simp only [RKs] at r; subst r; rfl
  | (k', d) :: kvs, us, r => by
    simp only [RKs] at r
    obtain ⟨v, r', rfl, q1, q2⟩ := r
    simp [RKs.len q2]
theorem RKs.any {κ' : Type} [DecidableEq κ'] {n : Nat} (k : κ') : ∀ {kvs : List (κ' × D)} {us : List (κ' × V)}, RKs φ n H kvs us → (us.any fun kv => decide (kv.1 = k)) = kvs.any fun kv => decide (kv.1 = k)
  | [], us, r => by simp only [RKs] at r; subst r; rfl
  | (k', d) :: kvs, us, r => by
    simp only [RKs] at r
    obtain ⟨v, r', rfl, q1, q2⟩ := r
    simp only [List.any_cons, RKs.any k q2]
theorem RKs.repl {κ' : Type} [DecidableEq κ'] {n : Nat} (k : κ') {d : D} {v : V} (q : RV φ n H d v) : ∀ {kvs : List (κ' × D)} {us : List (κ' × V)}, RKs φ n H kvs us →
    RKs φ n H (kvs.map fun kv => if kv.1 = k then (kv.1, d) else kv) (us.map fun kv => if kv.1 = k then (kv.1, v) else kv)
  | [], us, r => by simp only [RKs] at r; subst r; simp [RKs]
  | (k', d') :: kvs, us, r => by
    simp only [RKs] at r
    obtain ⟨v', r', rfl, q1, q2⟩ := r
    have ih := RKs.repl k q q2
    by_cases hk : k' = k
    · simp only [List.map_cons, hk, if_true, RKs]
      exact ⟨v, _, rfl, q, ih⟩
    · simp only [List.map_cons, hk, if_false, RKs]
      exact ⟨v', _, rfl, q1, ih⟩
theorem RKs.snoc {κ' : Type} {n : Nat} (k : κ') {d : D} {v : V} (q : RV φ n H d v) : ∀ {kvs : List (κ' × D)} {us : List (κ' × V)}, RKs φ n H kvs us → RKs φ n H (kvs ++ [(k, d)]) (us ++ [(k, v)])
  | [], us, r => by simp only [RKs] at r; subst r; simp only [List.nil_append, RKs]; exact ⟨v, [], rfl, q, rfl⟩
  | (k', d') :: kvs, us, r => by
    simp only [RKs] at r
    obtain ⟨v', r', rfl, q1, q2⟩ := r
    simp only [List.cons_append, RKs]
    exact ⟨v', _, rfl, q1, RKs.snoc k q q2⟩
theorem RKs.put {κ' : Type} [DecidableEq κ'] {n : Nat} {kvs : List (κ' × D)} {us : List (κ' × V)} (r : RKs φ n H kvs us) (k : κ') {d : D} {v : V} (q : RV φ n H d v) : RKs φ n H (putKD kvs k d) (putK us k v) := by
  unfold putKD putK
  rw [RKs.any k r]
  split
  · exact RKs.repl k q r
  · exact RKs.snoc k q r
theorem RKs.look {n : Nat} : ∀ {kvs : List (Str × D)} {us : List (Str × V)} {f : Str} {d : D}, RKs φ n H kvs us → kvs.lookup f = some d → ∃ v, us.lookup f = some v ∧ RV φ n H d v
  | [], us, f, d, r, e => by cases e
  | (k', d') :: kvs, us, f, d, r, e => by
    simp only [RKs] at r
    obtain ⟨v', r', rfl, q1, q2⟩ := r
    rw [List.lookup_cons] at e ⊢
    cases hb : f == k' with
    | true => rw [hb] at e; simp only [Option.some.injEq] at e; subst e; exact ⟨v', rfl, q1⟩
    | false => rw [hb] at e; exact RKs.look q2 e
theorem RKs.look0 {n : Nat} : ∀ {kvs : List (Str × D)} {us : List (Str × V)} {f : Str}, RKs φ n H kvs us → kvs.lookup f = none → us.lookup f = none
  | [], us, f, r, e => by simp only [RKs] at r; subst r; rfl
  | (k', d') :: kvs, us, f, r, e => by
    simp only [RKs] at r
    obtain ⟨v', r', rfl, q1, q2⟩ := r
    rw [List.lookup_cons] at e ⊢
    cases hb : f == k' with
    | true => rw [hb] at e; cases e
    | false => rw [hb] at e; exact RKs.look0 q2 e
theorem RKs.putF {n : Nat} {f : Str} {d : D} {v : V} (q : RV φ n H d v) : ∀ {kvs : List (Str × D)} {us : List (Str × V)}, RKs φ n H kvs us → RKs φ n H (putD f d kvs) (L2.putF f v us)
  | [], us, r => by simp only [RKs] at r; subst r; simp only [putD, L2.putF, RKs]; exact ⟨v, [], rfl, q, rfl⟩
  | (k', d') :: kvs, us, r => by
    simp only [RKs] at r
    obtain ⟨v', r', rfl, q1, q2⟩ := r
    simp only [putD, L2.putF]
    split
    · simp only [RKs]; exact ⟨v, _, rfl, q, q2⟩
    · simp only [RKs]; exact ⟨v', _, rfl, q1, RKs.putF q q2⟩
end

section
variable {X : Cx} {κ : Nat → Addr}
theorem od_eq (hu : X.A.units + 64 < cLine) : OpR X (compareOp .Eq) (rD X.K κ opEq) := by
  intro pins s σ H x y v u Q I rx ry ⟨φ, h, dx, dy, S, qx, qy, p⟩
  unfold opEq at p
  split at p
  · rename_i b e
    unfold eqD at e
    split at e
    · rename_i b' e1
      cases e
      obtain ⟨h1, h2⟩ := eqFlat_of e1 qx qy
      exact op_eq pins s σ H _ _ v u Q I rx ry ⟨h1, p.of0 S (RV.bl_iff.mpr (by rw [h2]))⟩
    · unfold deepEq at e
      split at e
      · rename_i a b2 e1 e2
        split at e
        · rename_i hs
          cases e
          exact op_eqD hu pins s σ H _ _ v u Q I rx ry ⟨a, b2, dp_of S _ _ _ _ e1 qx, dp_of S _ _ _ _ e2 qy, hs.1, hs.2, p.of0 S (RV.bl_iff.mpr rfl)⟩
        · cases e
      · cases e
  · exact False.elim p
theorem od_ne (hu : X.A.units + 64 < cLine) : OpR X (compareOp .NotEq) (rD X.K κ opNe) := by
  intro pins s σ H x y v u Q I rx ry ⟨φ, h, dx, dy, S, qx, qy, p⟩
  unfold opNe at p
  split at p
  · rename_i b e
    unfold eqD at e
    split at e
    · rename_i b' e1
      cases e
      obtain ⟨h1, h2⟩ := eqFlat_of e1 qx qy
      exact op_ne pins s σ H _ _ v u Q I rx ry ⟨h1, p.of0 S (RV.bl_iff.mpr (by rw [h2]))⟩
    · unfold deepEq at e
      split at e
      · rename_i a b2 e1 e2
        split at e
        · rename_i hs
          cases e
          exact op_neD hu pins s σ H _ _ v u Q I rx ry ⟨a, b2, dp_of S _ _ _ _ e1 qx, dp_of S _ _ _ _ e2 qy, hs.1, hs.2, p.of0 S (RV.bl_iff.mpr rfl)⟩
        · cases e
      · cases e
  · exact False.elim p
/-- what in is asked of, by its kinds -/
inductive InK (K : PySem.W.Frag) (H : Hp) (x y : V) (b : Bool) : Prop where
  | flat {p : Addr} {vs : List V} (hy : y = .ref p) (hs : SqL K H p vs ∨ SqT K H p vs) (fx : flatV x = true) (fs : vs.all flatV = true) (e : inV x vs = b)
  | deep {d : PyData} {ds : List PyData} (hx : Dp K H x d) (hy : Dp K H y (.list ds)) (s1 : SeqAt.shaped d = true) (s2 : SeqAt.shaped (.list ds) = true) (e : (ds.any fun z => PyData.eqv z d) = b)
  | sign {c : Nat} {z : Str} (hx : x = .str ⟨#[c]⟩) (hy : y = .str z) (e : decide (c ∈ z.cps.toList) = b)
  | dict {a : Addr} {o : Option V} (hy : y = .ref a) (g : DGet H a x o) (e : o.isSome = b)
theorem inK_of {K : PySem.W.Frag} {φ : Nat → Addr} {h : HP} {H : Hp} {dx dy : D} {x y : V} {b : Bool} (S : Sim K κ φ h H) (qx : RV φ h.length H dx x) (qy : RV φ h.length H dy y) (e : inD dx dy h = some b) : InK K H x y b := by
  unfold inD at e
  split at e
  · rename_i i
    rw [RV.ref_iff] at qy
    split at e
    · rename_i kvs hk
      obtain ⟨us, hd, r⟩ := S.dic hk
      split at e
      · rename_i k ek
        cases e
        have := RKs.val k r
        have kx := key_of' ek qx
        subst kx
        refine .dict qy.2 (DGet.k hd) ?_
        cases e3 : valD kvs k with
        | some d => rw [e3] at this; obtain ⟨v, e4, _⟩ := this; rw [e4]; rfl
        | none => rw [e3] at this; rw [this]; rfl
      · cases e
    · rename_i kvs hk
      obtain ⟨us, hd, r⟩ := S.dct hk
      split at e
      · rename_i ds
        split at e
        · rename_i k ek
          cases e
          have := RKs.val k r
          rw [RV.tup_iff] at qx
          obtain ⟨p, vs, rfl, hp, rr⟩ := qx
          have kx := keys_of' ek rr
          subst kx
          refine .dict qy.2 (DGet.t hd hp) ?_
          cases e3 : valD kvs k with
          | some d => rw [e3] at this; obtain ⟨v, e4, _⟩ := this; rw [e4]; rfl
          | none => rw [e3] at this; rw [this]; rfl
        · cases e
      · cases e
    · split at e
      · rename_i ds hl
        obtain ⟨vs, hs, r⟩ := S.isL hl
        split at e
        · rename_i hf
          exact .flat qy.2 (.inl hs) (flat_of hf.1 qx) (flat_all hf.2 r) (inFlat_of qx e r)
        · unfold inDeep at e
          split at e
          · rename_i a bs e1 e2
            split at e
            · rename_i hh
              cases e
              refine .deep (dp_of S _ _ _ _ e1 qx) ?_ hh.1 hh.2 rfl
              rw [qy.2]
              exact .lst hs (dpAll_of (fun d v a => dp_of S _ d v a) e2 r)
            · cases e
          · cases e
      · cases e
  · rename_i ds
    rw [RV.tup_iff] at qy
    obtain ⟨p, vs, rfl, hp, r⟩ := qy
    split at e
    · rename_i hf
      exact .flat rfl (.inr (SqT.of hp)) (flat_of hf.1 qx) (flat_all hf.2 r) (inFlat_of qx e r)
    · cases e
  · rename_i z
    rw [RV.str_iff] at qy
    split at e
    · rename_i c
      rw [RV.str_iff] at qx
      split at e
      · rename_i k hk
        cases e
        refine .sign (c := k) ?_ qy rfl
        rw [qx]
        congr 1
        exact TL.ext_tl (by show c.cps.toList = [k]; exact hk)
      · cases e
    · cases e
  · cases e
theorem od_in (hu : X.A.units + 65 < cLine) : OpR X (compareOp .In) (rD X.K κ opIn) := by
  intro pins s σ H x y v u Q I rx ry ⟨φ, h, dx, dy, S, qx, qy, p⟩
  unfold opIn at p
  split at p
  · rename_i b e
    have q := p.of0 S (v := .bl b) (RV.bl_iff.mpr rfl)
    cases inK_of S qx qy e with
    | flat hy hs fx fs e =>
      subst hy e
      exact op_in_seq pins s σ H _ _ v u Q I rx ry ⟨_, _, rfl, hs, fx, fs, q⟩
    | deep hx hy s1 s2 e =>
      subst e
      exact op_inD hu pins s σ H _ _ v u Q I rx ry ⟨_, _, hx, hy, s1, s2, q⟩
    | sign hx hy e =>
      subst hx hy e
      exact op_in_sign pins s σ H _ _ v u Q I rx ry ⟨_, _, rfl, rfl, q⟩
    | dict hy g e =>
      subst hy e
      obtain rfl : u = Value.ref _ := ry
      exact d_in (by omega) I g rx fun s' I' => ⟨.bl _, H, I', rfl, q⟩
  · exact False.elim p
theorem od_nin (hu : X.A.units + 65 < cLine) : OpR X (compareOp .NotIn) (rD X.K κ opNin) := by
  intro pins s σ H x y v u Q I rx ry ⟨φ, h, dx, dy, S, qx, qy, p⟩
  unfold opNin at p
  split at p
  · rename_i b e
    have q := p.of0 S (v := .bl (!b)) (RV.bl_iff.mpr rfl)
    cases inK_of S qx qy e with
    | flat hy hs fx fs e =>
      subst hy e
      exact op_notIn_seq pins s σ H _ _ v u Q I rx ry ⟨_, _, rfl, hs, fx, fs, q⟩
    | deep hx hy s1 s2 e =>
      subst e
      exact op_notInD hu pins s σ H _ _ v u Q I rx ry ⟨_, _, hx, hy, s1, s2, q⟩
    | sign hx hy e =>
      subst hx hy e
      exact op_notIn_sign pins s σ H _ _ v u Q I rx ry ⟨_, _, rfl, rfl, q⟩
    | dict hy g e =>
      subst hy e
      obtain rfl : u = Value.ref _ := ry
      exact d_notIn (by omega) I g rx fun s' I' => ⟨.bl _, H, I', rfl, q⟩
  · exact False.elim p
end
end Z
/-! Z4: tests, arguments, displays, subscripts, fields, calls. -/
namespace Z
open PySem L2 PyProof.Rows
section
variable {X : Cx} {κ : Nat → Addr} {C : Ctx} {a b c e : Expr} {es : List Expr} {ma mb mc : ME} {ta tb : MT} {mas : MA} {pos : Pos}

/-! ### tests -/
theorem st_v (ha : SE X κ C a ma) (he : ∀ whole, isTrue a X.env whole = (do let v ← whole; standAt a.pos; holding [v] (truthy v)) := by intro _; rfl) : ST X κ C a (tV ma) :=
  ST.mk' (pt_val ha.pe he) fun φ ev h σ H Q S r p => by
    obtain ⟨dx, h1, e1, p⟩ := PostT.bind p
    refine td_of S r e1 fun φ1 H1 v st S1 r1 q1 => ?_
    cases dx with
    | bl k => rw [RV.bl_iff] at q1; exact ⟨k, q1, p φ1 H1 st S1⟩
    | non => exact False.elim p
    | int _ => exact False.elim p
    | str _ => exact False.elim p
    | tup _ => exact False.elim p
    | ref _ => exact False.elim p
theorem st_cmp {o : CmpOp} {op : D → D → HP → R D} (ho : OpR X (compareOp o) (rD X.K κ op)) (ha : SE X κ C a ma) (hb : SE X κ C b mb) (hm : behindInMarks o b = false) : ST X κ C (.Compare a [o] [b] pos) (tV (eOp op ma mb)) :=
  ST.mk' (pt_cmpR ho ha.pe hb.pe hm) fun φ ev h σ H Q S r p => by
    obtain ⟨dz, h3, e3, p⟩ := PostT.bind p
    cases ea : ma C ev h with
    | ok dx h1 =>
      cases eb : mb C ev h1 with
      | ok dy h2 =>
        have e4 : op dx dy h2 = .ok dz h3 := by
          have := e3
          unfold eOp at this
          rw [ea] at this
          simp only [R.bind_ok] at this
          rw [eb] at this
          exact this
        refine td_of S r ea fun φ1 H1 v st S1 r1 q1 => td_of S1 r1 eb fun φ2 H2 w st2 S2 r2 q2 => ⟨φ2, h2, dx, dy, S2, q1.step S1 st2, q2, ?_⟩
        rw [e4]
        intro φ3 H3 z st3 S3 q3
        cases dz with
        | bl k => rw [RV.bl_iff] at q3; exact ⟨k, q3, p φ3 H3 ((st.trans st2).trans st3) S3⟩
        | non => exact False.elim p
        | int _ => exact False.elim p
        | str _ => exact False.elim p
        | tup _ => exact False.elim p
        | ref _ => exact False.elim p
      | ex _ _ _ => unfold eOp at e3; rw [ea] at e3; simp only [R.bind_ok] at e3; rw [eb] at e3; cases e3
      | no => unfold eOp at e3; rw [ea] at e3; simp only [R.bind_ok] at e3; rw [eb] at e3; cases e3
    | ex _ _ _ => unfold eOp at e3; rw [ea] at e3; cases e3
    | no => unfold eOp at e3; rw [ea] at e3; cases e3
theorem st_w (h : SW X κ C a ta) : ST X κ C a ta := ⟨h.pw.pt⟩
theorem sw_and1 (h : ST X κ C a ta) : SW X κ C (.BoolOp .And [a] pos) ta := ⟨pw_and1 h.pt⟩
theorem sw_or1 (h : ST X κ C a ta) : SW X κ C (.BoolOp .Or [a] pos) ta := ⟨pw_or1 h.pt⟩
theorem sw_and {rest : List Expr} (ha : ST X κ C a ta) (hb : SW X κ C (.BoolOp .And (b :: rest) pos) tb) : SW X κ C (.BoolOp .And (a :: b :: rest) pos) (tAn ta tb) :=
  SW.mk' (pw_and ha.pt hb.pw) fun φ ev h σ H Q S r p => by
    obtain ⟨k, h1, e1, p⟩ := PostT.bind p
    refine tq_of S r e1 fun φ1 H1 st S1 r1 => ?_
    cases k with
    | true => rw [if_pos rfl] at p ⊢; exact ⟨φ1, ev, h1, S1, r1, p.step st⟩
    | false => rw [if_neg Bool.false_ne_true] at p ⊢; exact p φ1 H1 st S1
theorem sw_or {rest : List Expr} (ha : ST X κ C a ta) (hb : SW X κ C (.BoolOp .Or (b :: rest) pos) tb) : SW X κ C (.BoolOp .Or (a :: b :: rest) pos) (tOr ta tb) :=
  SW.mk' (pw_or ha.pt hb.pw) fun φ ev h σ H Q S r p => by
    obtain ⟨k, h1, e1, p⟩ := PostT.bind p
    refine tq_of S r e1 fun φ1 H1 st S1 r1 => ?_
    cases k with
    | true => rw [if_pos rfl] at p ⊢; exact p φ1 H1 st S1
    | false => rw [if_neg Bool.false_ne_true] at p ⊢; exact ⟨φ1, ev, h1, S1, r1, p.step st⟩
theorem st_not (ha : ST X κ C a ta) : ST X κ C (.UnaryOp .Not a pos) (tNt ta) :=
  ST.mk' (pt_not ha.pt) fun φ ev h σ H Q S r p => by
    obtain ⟨k, h1, e1, p⟩ := PostT.bind p
    exact tq_of S r e1 fun φ1 H1 st S1 r1 => p φ1 H1 st S1

/-! ### and, or, not, if as values -/
/-! ### arguments, displays -/
theorem sa_nil : SA X κ C [] aN := SA.mk' pa_nil fun φ ev h σ H Q S r p => p φ H [] Step.refl S (by simp [RVs])
theorem sa_cons (ha : SE X κ C e ma) (hr : SA X κ C es mas) (hs : starEach (e :: es) X.env = (false, eval e X.env) :: starEach es X.env := by rfl) : SA X κ C (e :: es) (aC ma mas) :=
  SA.mk' (pa_cons ha.pe hr.pa hs) fun φ ev h σ H Q S r p => by
    obtain ⟨dx, h1, e1, p⟩ := PostA.bind p
    obtain ⟨ds, h2, e2, p⟩ := PostA.bind p
    exact td_of S r e1 fun φ1 H1 v st S1 r1 q1 => ta_of S1 r1 e2 fun φ2 H2 vs st2 S2 r2 q2 => p φ2 H2 _ (st.trans st2) S2 (RVs.cons (q1.step S1 st2) q2)
theorem se_tup {x1 : Nat} (h : SA X κ C es mas) : SE X κ C (.Tuple es x1 pos) (eTup mas) :=
  SE.mk' (pe_tup h.pa) fun φ ev h σ H Q S r p => by
    obtain ⟨ds, h1, e1, p⟩ := Post.bind p
    split at p
    · rename_i hz
      exact ta_of S r e1 fun φ1 H1 vs st S1 r1 q1 => ⟨by rw [q1.len]; exact hz, fun q hq => (p.step st).newT S1 hq q1⟩
    · exact False.elim p
theorem se_lst (h : SA X κ C es mas) : SE X κ C (.List es pos) (eLst mas) :=
  SE.mk' (pe_lst h.pa) fun φ ev h σ H Q S r p => by
    obtain ⟨ds, h1, e1, p⟩ := Post.bind p
    split at p
    · rename_i hz
      exact ta_of S r e1 fun φ1 H1 vs st S1 r1 q1 => ⟨by rw [q1.len]; exact hz, fun q hq => (p.step st).newL S1 hq q1⟩
    · exact False.elim p

/-! ### subscripts -/
end
def opIx : D → D → HP → R D := fun x y h => match x with
  | .tup ds => match y with
    | .int i => match atI ds i with
      | some d => .ok d h
      | none => .no
    | _ => .no
  | .str z => match y with
    | .int i => if z.length ≤ sizeLine then match atI z.cps.toList i with
        | some c => .ok (.str ⟨#[c]⟩) h
        | none => .no
      else .no
    | _ => .no
  | .ref j => match h[j]? with
    | some (.dic kvs) => match keyD y with
      | some k => match valD kvs k with
        | some d => .ok d h
        | none => .no
      | none => .no
    | some (.dct kvs) => match y with
      | .tup ds => match keysD ds with
        | some k => match valD kvs k with
          | some d => .ok d h
          | none => .no
        | none => .no
      | _ => .no
    | _ => match isL j h with
      | some ds => match y with
        | .int i => match atI ds i with
          | some d => .ok d h
          | none => .no
        | _ => .no
      | none => .no
  | _ => .no
def cutD (xs : List D) (lo hi : Option Int) : List D := (xs.drop (HT.sIx xs.length 0 lo)).take (HT.sIx xs.length xs.length hi - HT.sIx xs.length 0 lo)
def opSl : D → Option Int → Option Int → HP → R D := fun x lo hi h => match x with
  | .tup ds => .ok (.tup (cutD ds lo hi)) h
  | .str z => if z.length ≤ sizeLine then .ok (.str (cutS z lo hi)) h else .no
  | .ref j => match isL j h with
    | some ds => .ok (.ref h.length) (h ++ [.lst (cutD ds lo hi)])
    | none => .no
  | _ => .no
section
variable {X : Cx} {κ : Nat → Addr} {C : Ctx} {a b c e : Expr} {es : List Expr} {ma mb mc : ME} {ta tb : MT} {mas : MA} {pos p2 : Pos}
theorem atI_rv {φ : Nat → Addr} {n : Nat} {H : Hp} {ds : List D} {vs : List V} {i : Int} {d : D} (r : RVs φ n H ds vs) (e : atI ds i = some d) : ∃ v, atI vs i = some v ∧ RV φ n H d v := by
  unfold atI at e ⊢
  rw [r.len]
  cases q : ixN ds.length i with
  | none => rw [q] at e; cases e
  | some j =>
    rw [q] at e
    exact r.get (by simpa using e)
theorem cut_rv {φ : Nat → Addr} {n : Nat} {H : Hp} {ds : List D} {vs : List V} {lo hi : Option Int} (r : RVs φ n H ds vs) : RVs φ n H (cutD ds lo hi) (cutV vs lo hi) := by
  unfold cutD cutV
  rw [r.len]
  exact (r.drop _).take _
/-- d[k] -/
theorem ix_dic : X.A.units + 1 < cLine → IxR X (fun x y H Q => ∃ a v, x = .ref a ∧ DGet H a y (some v) ∧ Q v H) := by
  intro hu value slice pins s σ H x y v u Q I rx ry h hs
  obtain ⟨a, w, rfl, g, q⟩ := h
  obtain rfl : v = Value.ref a := rx
  exact tail_any (dict_typeIs I g) PySem.F.slot_dict_getitem.lookup (d_getItem hu I g ry fun w' s3 I3 rw' => ⟨w, H, I3, rw', q⟩) hs
theorem ixd (hu : X.A.units + 1 < cLine) : IxR X (rD X.K κ opIx) := by
  intro value slice pins s σ H x y v u Q I rx ry ⟨φ, h, dx, dy, S, qx, qy, p⟩ hs
  unfold opIx at p
  split at p
  · rename_i ds
    split at p
    · rename_i i
      split at p
      · rename_i d e
        rw [RV.int_iff] at qy
        rw [RV.tup_iff] at qx
        obtain ⟨pp, vs, rfl, hp, r⟩ := qx
        obtain ⟨w, e1, q1⟩ := atI_rv r e
        exact ix_tup value slice pins s σ H _ _ v u Q I rx ry ⟨pp, vs, i, w, rfl, qy, SqT.of hp, e1, p.of0 S q1⟩ hs
      · exact False.elim p
    · exact False.elim p
  · rename_i z
    split at p
    · rename_i i
      split at p
      · rename_i hz
        split at p
        · rename_i d e
          rw [RV.int_iff] at qy
          rw [RV.str_iff] at qx
          exact ix_str value slice pins s σ H _ _ v u Q I rx ry ⟨z, i, d, qx, qy, hz, e, p.of0 S (RV.str_iff.mpr rfl)⟩ hs
        · exact False.elim p
      · exact False.elim p
    · exact False.elim p
  · rename_i j
    rw [RV.ref_iff] at qx
    obtain ⟨hj, rfl⟩ := qx
    split at p
    · rename_i kvs e
      obtain ⟨us, hd, r⟩ := S.dic e
      split at p
      · rename_i k ek
        split at p
        · rename_i d ed
          have kx := key_of' ek qy
          subst kx
          have := RKs.val k r
          rw [ed] at this
          obtain ⟨w, e1, q1⟩ := this
          refine ix_dic hu value slice pins s σ H _ _ v u Q I rx ry ⟨_, w, rfl, ?_, p.of0 S q1⟩ hs
          rw [← e1]
          exact DGet.k hd
        · exact False.elim p
      · exact False.elim p
    · rename_i kvs e
      obtain ⟨us, hd, r⟩ := S.dct e
      split at p
      · split at p
        · rename_i k ek
          split at p
          · rename_i d ed
            rw [RV.tup_iff] at qy
            obtain ⟨pp, vs, rfl, hp, rr⟩ := qy
            have kx := keys_of' ek rr
            subst kx
            have := RKs.val k r
            rw [ed] at this
            obtain ⟨w, e1, q1⟩ := this
            refine ix_dic hu value slice pins s σ H _ _ v u Q I rx ry ⟨_, w, rfl, ?_, p.of0 S q1⟩ hs
            rw [← e1]
            exact DGet.t hd hp
          · exact False.elim p
        · exact False.elim p
      · exact False.elim p
    · split at p
      · rename_i ds hl
        obtain ⟨vs, hs', r⟩ := S.isL hl
        split at p
        · rename_i i
          split at p
          · rename_i d ed
            rw [RV.int_iff] at qy
            obtain ⟨w, e1, q1⟩ := atI_rv r ed
            exact ix_list value slice pins s σ H _ _ v u Q I rx ry ⟨_, vs, i, w, rfl, qy, hs', e1, p.of0 S q1⟩ hs
          · exact False.elim p
        · exact False.elim p
      · exact False.elim p
  · exact False.elim p
theorem se_ix (hu : X.A.units + 1 < cLine) (ha : SE X κ C a ma) (hb : SE X κ C b mb) (hs : PlainIx b := by intro _ _; rfl) : SE X κ C (.Subscript a b pos) (eOp opIx ma mb) :=
  SE.mk' (pe_ix (ixd (κ := κ) hu) ha.pe hb.pe hs) fun φ ev h σ H Q S r p => by
    obtain ⟨dx, h1, e1, p⟩ := Post.bind p
    obtain ⟨dy, h2, e2, p⟩ := Post.bind p
    exact td_of S r e1 fun φ1 H1 v st S1 r1 q1 => td_of S1 r1 e2 fun φ2 H2 w st2 S2 r2 q2 => ⟨φ2, h2, dx, dy, S2, q1.step S1 st2, q2, p.step (st.trans st2)⟩
theorem so_n : SO X κ C none oN := SO.mk' po_none fun φ ev h σ H Q S r p => p φ H Step.refl S
theorem so_s (ha : SE X κ C a ma) : SO X κ C (some a) (oS ma) :=
  SO.mk' (po_some ha.pe) fun φ ev h σ H Q S r p => by
    obtain ⟨dx, h1, e1, p⟩ := PostO.bind p
    refine td_of S r e1 fun φ1 H1 v st S1 r1 q1 => ?_
    cases dx with
    | int k => rw [RV.int_iff] at q1; exact ⟨k, q1, p φ1 H1 st S1⟩
    | non => exact False.elim p
    | bl _ => exact False.elim p
    | str _ => exact False.elim p
    | tup _ => exact False.elim p
    | ref _ => exact False.elim p
def rSl (K : PySem.W.Frag) (κ : Nat → Addr) : V → Option Int → Option Int → Hp → VK → Prop := fun x lo hi H Q => ∃ φ h dx, Sim K κ φ h H ∧ RV φ h.length H dx x ∧ Post K κ φ h H (opSl dx lo hi h) Q
theorem sld : SlR X (rSl X.K κ) := by
  intro pins s σ H x v vl vu lo hi sl Q I rx hs pl pu ⟨φ, h, dx, S, qx, p⟩
  unfold opSl at p
  split at p
  · rename_i ds
    rw [RV.tup_iff] at qx
    obtain ⟨pp, vs, rfl, hp, r⟩ := qx
    refine sl_tupA pins s σ H _ v vl vu lo hi sl Q I rx hs pl pu ⟨pp, vs, rfl, SqT.of hp, fun hw => ?_, fun _ q hq => p.newT S hq (cut_rv r)⟩
    refine p.of0 S (RV.tup_iff.mpr ⟨pp, vs, rfl, hp, ?_⟩)
    have e : cutV vs lo hi = vs := by
      unfold cutV
      rw [hw.1, hw.2]
      simp
    have q := cut_rv (lo := lo) (hi := hi) r
    rw [e] at q
    exact q
  · rename_i z
    split at p
    · rename_i hz
      rw [RV.str_iff] at qx
      exact sl_str pins s σ H _ v vl vu lo hi sl Q I rx hs pl pu ⟨z, qx, hz, p.of0 S (RV.str_iff.mpr rfl)⟩
    · exact False.elim p
  · rename_i j
    split at p
    · rename_i ds hl
      rw [RV.ref_iff] at qx
      obtain ⟨vs, hs', r⟩ := S.isL hl
      exact sl_list pins s σ H _ v vl vu lo hi sl Q I rx hs pl pu ⟨_, vs, qx.2, hs', fun q hq => p.newL S hq (cut_rv r)⟩
    · exact False.elim p
  · exact False.elim p
theorem se_sl {lo hi : Option Expr} {ml mh : MO} (ha : SE X κ C a ma) (hl : SO X κ C lo ml) (hh : SO X κ C hi mh) : SE X κ C (.Subscript a (.Slice lo hi none p2) pos) (eSl opSl ma ml mh) :=
  SE.mk' (pe_slice (sld (κ := κ)) ha.pe hl.po hh.po) fun φ ev h σ H Q S r p => by
    obtain ⟨dx, h1, e1, p⟩ := Post.bind p
    obtain ⟨l, h2, e2, p⟩ := Post.bind p
    obtain ⟨u, h3, e3, p⟩ := Post.bind p
    exact td_of S r e1 fun φ1 H1 v st S1 r1 q1 => to_of S1 r1 e2 fun φ2 H2 st2 S2 r2 => to_of S2 r2 e3 fun φ3 H3 st3 S3 r3 =>
      ⟨φ3, h3, dx, S3, (q1.step S1 st2).step S2 st3, p.step ((st.trans st2).trans st3)⟩

/-! ### calls of built-in functions -/
def rB (K : PySem.W.Frag) (κ : Nat → Addr) (f : List D → HP → R D) : List V → Hp → VK → Prop := fun vs H Q => ∃ φ h ds, Sim K κ φ h H ∧ RVs φ h.length H ds vs ∧ Post K κ φ h H (f ds h) Q
theorem se_bf {x : Str} {id : String} {f : List D → HP → R D} {p : Pos} (hc : CallR X (.builtin id) (rB X.K κ f)) (hm : X.mg x = none) (hv : bootBuiltins x = some (.builtin id)) (ha : SA X κ C (e :: es) mas) (hg : Gl X x := by rfl) (hn : x ≠ "__name__" := by decide) (hdb : (x == ("__debug__" : Str)) = false := by decide)
    (he : starEach (e :: es) X.env = (false, eval e X.env) :: starEach es X.env := by rfl) (hpl : (backTo pos (starEach es X.env)).any (·.1) = false := by rfl) : SE X κ C (.Call (.Name x p) (e :: es) [] pos) (eBf f mas) :=
  SE.mk' (pe_callB hc hg hm hv ha.pa hn hdb he hpl) fun φ ev h σ H Q S r p => by
    obtain ⟨ds, h1, e1, p⟩ := Post.bind p
    exact ta_of S r e1 fun φ1 H1 vs st S1 r1 q1 => ⟨φ1, h1, ds, S1, q1, p.step st⟩
theorem se_bt {x : Str} {T : String} {f : List D → HP → R D} {p : Pos} (hc : CallR X (.type T) (rB X.K κ f)) (hm : X.mg x = none) (hv : bootBuiltins x = some (.type T)) (ha : SA X κ C (e :: es) mas) (hg : Gl X x := by rfl) (hn : x ≠ "__name__" := by decide) (hdb : (x == ("__debug__" : Str)) = false := by decide)
    (he : starEach (e :: es) X.env = (false, eval e X.env) :: starEach es X.env := by rfl) (hpl : (backTo pos (starEach es X.env)).any (·.1) = false := by rfl) : SE X κ C (.Call (.Name x p) (e :: es) [] pos) (eBf f mas) :=
  SE.mk' (pe_callTy hc hg hm hv ha.pa hn hdb he hpl) fun φ ev h σ H Q S r p => by
    obtain ⟨ds, h1, e1, p⟩ := Post.bind p
    exact ta_of S r e1 fun φ1 H1 vs st S1 r1 q1 => ⟨φ1, h1, ds, S1, q1, p.step st⟩
end
end Z
/-! Z5: built-in functions, fields, own defs, methods, comprehensions. -/
namespace Z
open PySem L2 PyProof.Rows

def intsD : List D → Option (List Int) := fun ds => seqO (ds.map fun d => match d with
  | .int i => some i
  | _ => none)
def bLen : List D → HP → R D := fun xs h => match xs with
  | [.str z] => if z.length ≤ sizeLine then .ok (.int z.length) h else .no
  | [.tup ds] => .ok (.int ds.length) h
  | [.ref i] => match h[i]? with
    | some (.dic kvs) => .ok (.int kvs.length) h
    | _ => match isL i h with
      | some ds => .ok (.int ds.length) h
      | none => .no
  | _ => .no
def bAbs : List D → HP → R D := fun xs h => match xs with
  | [.int i] => .ok (.int (if i < 0 then -i else i)) h
  | _ => .no
def maxL : List Int → Option Int
  | [] => none
  | i :: r => some (r.foldl (fun a b => if b > a then b else a) i)
def minL : List Int → Option Int
  | [] => none
  | i :: r => some (r.foldl (fun a b => if b < a then b else a) i)
def bMax : List D → HP → R D := fun xs h => match xs with
  | [.int i, .int j] => .ok (.int (if j > i then j else i)) h
  | [.int i, .int j, .int k] => .ok (.int (if j > i then (if k > j then k else j) else (if k > i then k else i))) h
  | [.ref i] => match isL i h with
    | some ds => match intsD ds with
      | some ns => match maxL ns with
        | some m => .ok (.int m) h
        | none => .no
      | none => .no
    | none => .no
  | _ => .no
def bMin : List D → HP → R D := fun xs h => match xs with
  | [.int i, .int j] => .ok (.int (if j < i then j else i)) h
  | [.ref i] => match isL i h with
    | some ds => match intsD ds with
      | some ns => match minL ns with
        | some m => .ok (.int m) h
        | none => .no
      | none => .no
    | none => .no
  | _ => .no
def bSum : List D → HP → R D := fun xs h => match xs with
  | [.ref i] => match isL i h with
    | some ds => match intsD ds with
      | some ns => .ok (.int ns.sum) h
      | none => .no
    | none => .no
  | _ => .no
def bDvm : List D → HP → R D := fun xs h => match xs with
  | [.int i, .int j] => if 0 < j ∧ divOk j = true then .ok (.tup [.int (i / j), .int (i % j)]) h else .no
  | _ => .no
section
variable {K : PySem.W.Frag} {κ φ : Nat → Addr} {h : HP} {H : Hp}
theorem intsD_of : ∀ {ds : List D} {ns : List Int}, intsD ds = some ns → ds = ns.map D.int
  | [], ns, e => by simp only [intsD, List.map_nil, seqO, Option.some.injEq] at e; subst e; rfl
  | d :: ds, ns, e => by
    simp only [intsD, List.map_cons] at e
    cases d with
    | int i =>
      simp only [seqO] at e
      cases e2 : intsD ds with
      | none => unfold intsD at e2; rw [e2] at e; cases e
      | some as =>
        have e3 := e2
        unfold intsD at e3
        rw [e3] at e
        simp only [Option.map_some, Option.some.injEq] at e
        subst e
        rw [List.map_cons, intsD_of e2]
    | non => simp [seqO] at e
    | bl _ => simp [seqO] at e
    | str _ => simp [seqO] at e
    | tup _ => simp [seqO] at e
    | ref _ => simp [seqO] at e
theorem Sim.intsL (S : Sim K κ φ h H) {i : Nat} {ds : List D} {ns : List Int} (e : Z.isL i h = some ds) (en : intsD ds = some ns) : SqL K H (φ i) (ns.map V.int) := by
  obtain ⟨vs, hs, r⟩ := S.isL e
  rw [intsD_of en] at r
  rw [r.ints] at hs
  exact hs
theorem foldl_max : ∀ (r : List Int) (i : Int), (∀ y ∈ i :: r, y ≤ r.foldl (fun a b => if b > a then b else a) i) ∧ r.foldl (fun a b => if b > a then b else a) i ∈ i :: r
  | [], i => by simp
  | b :: r, i => by
    obtain ⟨h1, h2⟩ := foldl_max r (if b > i then b else i)
    simp only [List.foldl_cons]
    refine ⟨fun y hy => ?_, ?_⟩
    · have h0 := h1 (if b > i then b else i) List.mem_cons_self
      have h3 := fun y hy => h1 y (List.mem_cons_of_mem _ hy)
      generalize List.foldl (fun a b => if b > a then b else a) (if b > i then b else i) r = m at h0 h3 ⊢
      rcases List.mem_cons.mp hy with hy | hy
      · split at h0 <;> omega
      · rcases List.mem_cons.mp hy with hy | hy
        · split at h0 <;> omega
        · exact h3 y hy
    · rcases List.mem_cons.mp h2 with e | h2
      · rw [e]
        split
        · exact List.mem_cons_of_mem _ List.mem_cons_self
        · exact List.mem_cons_self
      · exact List.mem_cons_of_mem _ (List.mem_cons_of_mem _ h2)
theorem foldl_min : ∀ (r : List Int) (i : Int), (∀ y ∈ i :: r, r.foldl (fun a b => if b < a then b else a) i ≤ y) ∧ r.foldl (fun a b => if b < a then b else a) i ∈ i :: r
  | [], i => by simp
  | b :: r, i => by
    obtain ⟨h1, h2⟩ := foldl_min r (if b < i then b else i)
    simp only [List.foldl_cons]
    refine ⟨fun y hy => ?_, ?_⟩
    · have h0 := h1 (if b < i then b else i) List.mem_cons_self
      have h3 := fun y hy => h1 y (List.mem_cons_of_mem _ hy)
      generalize List.foldl (fun a b => if b < a then b else a) (if b < i then b else i) r = m at h0 h3 ⊢
      rcases List.mem_cons.mp hy with hy | hy
      · split at h0 <;> omega
      · rcases List.mem_cons.mp hy with hy | hy
        · split at h0 <;> omega
        · exact h3 y hy
    · rcases List.mem_cons.mp h2 with e | h2
      · rw [e]
        split
        · exact List.mem_cons_of_mem _ List.mem_cons_self
        · exact List.mem_cons_self
      · exact List.mem_cons_of_mem _ (List.mem_cons_of_mem _ h2)
theorem maxL_of {ns : List Int} {m k : Int} (e : maxL ns = some m) (hk : k ∈ ns) (hy : ∀ y, y ∈ ns → y ≤ k) : k = m := by
  cases ns with
  | nil => cases e
  | cons i r =>
    simp only [maxL, Option.some.injEq] at e
    subst e
    obtain ⟨h1, h2⟩ := foldl_max r i
    exact Int.le_antisymm (h1 k hk) (hy _ h2)
theorem minL_of {ns : List Int} {m k : Int} (e : minL ns = some m) (hk : k ∈ ns) (hy : ∀ y, y ∈ ns → k ≤ y) : k = m := by
  cases ns with
  | nil => cases e
  | cons i r =>
    simp only [minL, Option.some.injEq] at e
    subst e
    obtain ⟨h1, h2⟩ := foldl_min r i
    exact Int.le_antisymm (hy _ h2) (h1 k hk)
theorem RVs.one_inv {n : Nat} {d : D} {vs : List V} (r : RVs φ n H [d] vs) : ∃ v, vs = [v] ∧ RV φ n H d v := by
  simp only [RVs] at r
  obtain ⟨v, r', rfl, q, rfl⟩ := r
  exact ⟨v, rfl, q⟩
theorem RVs.two_inv {n : Nat} {d d' : D} {vs : List V} (r : RVs φ n H [d, d'] vs) : ∃ v v', vs = [v, v'] ∧ RV φ n H d v ∧ RV φ n H d' v' := by
  simp only [RVs] at r
  obtain ⟨v, r', rfl, q, v', r2, rfl, q2, rfl⟩ := r
  exact ⟨v, v', rfl, q, q2⟩
theorem RVs.three_inv {n : Nat} {d d' d2 : D} {vs : List V} (r : RVs φ n H [d, d', d2] vs) : ∃ v v' v2, vs = [v, v', v2] ∧ RV φ n H d v ∧ RV φ n H d' v' ∧ RV φ n H d2 v2 := by
  simp only [RVs] at r
  obtain ⟨v, r', rfl, q, v', r2, rfl, q2, v3, r3, rfl, q3, rfl⟩ := r
  exact ⟨v, v', v3, rfl, q, q2, q3⟩
end
section
variable {X : Cx} {κ : Nat → Addr}
theorem cd_len : CallR X (.builtin "len") (rB X.K κ bLen) := by
  intro pins s σ H xs us Q I r ⟨φ, h, ds, S, q, p⟩
  unfold bLen at p
  split at p
  · (replace q := q.one_inv); obtain ⟨v, rfl, q⟩ := q
    split at p
    · rename_i hz
      rw [RV.str_iff] at q
      subst q
      exact call_len pins s σ H _ us Q I r ⟨_, _, rfl, ⟨hz, rfl⟩, p.of0 S (RV.int_iff.mpr rfl)⟩
    · exact False.elim p
  · (replace q := q.one_inv); obtain ⟨v, rfl, q⟩ := q
    rw [RV.tup_iff] at q
    obtain ⟨pp, vs, rfl, hp, q2⟩ := q
    exact call_len pins s σ H _ us Q I r ⟨_, _, rfl, .inr ⟨vs, SqT.of hp, q2.len.symm⟩, p.of0 S (RV.int_iff.mpr rfl)⟩
  · (replace q := q.one_inv); obtain ⟨v, rfl, q⟩ := q
    rw [RV.ref_iff] at q
    obtain ⟨hi, rfl⟩ := q
    split at p
    · rename_i e
      obtain ⟨us', hd, rr⟩ := S.dic e
      obtain ⟨u, rfl, ru⟩ := vals1 r
      obtain rfl : u = Value.ref _ := ru
      exact d_len I (.inl hd) fun t s' I' => ⟨.int us'.length, H, I', ⟨t, rfl⟩, by rw [rr.len]; exact p.of0 S (RV.int_iff.mpr rfl)⟩
    · split at p
      · rename_i ds' hl
        obtain ⟨vs, hs, rr⟩ := S.isL hl
        exact call_len pins s σ H _ us Q I r ⟨_, _, rfl, .inl ⟨vs, hs, rr.len.symm⟩, p.of0 S (RV.int_iff.mpr rfl)⟩
      · exact False.elim p
  · exact False.elim p
theorem cd_abs : CallR X (.builtin "abs") (rB X.K κ bAbs) := by
  intro pins s σ H xs us Q I r ⟨φ, h, ds, S, q, p⟩
  unfold bAbs at p
  split at p
  · (replace q := q.one_inv); obtain ⟨v, rfl, q⟩ := q
    rw [RV.int_iff] at q
    subst q
    exact call_abs pins s σ H _ us Q I r ⟨_, rfl, p.of0 S (RV.int_iff.mpr rfl)⟩
  · exact False.elim p
theorem cd_max (hc : X.calm = true) : CallR X (.builtin "max") (rB X.K κ bMax) := by
  intro pins s σ H xs us Q I r ⟨φ, h, ds, S, q, p⟩
  unfold bMax at p
  split at p
  · (replace q := q.two_inv); obtain ⟨v, v', rfl, q, q'⟩ := q
    rw [RV.int_iff] at q q'
    subst q q'
    exact call_max2 hc pins s σ H _ us Q I r ⟨_, _, rfl, p.of0 S (RV.int_iff.mpr rfl)⟩
  · rename_i i j k
    (replace q := q.three_inv); obtain ⟨v, v', v2, rfl, q, q', q2⟩ := q
    rw [RV.int_iff] at q q' q2
    subst q q' q2
    cases r with
    | cons r1 r =>
      cases r with
      | cons r2 r =>
        cases r with
        | cons r3 r =>
          cases r
          obtain ⟨t1, rfl⟩ := r1
          obtain ⟨t2, rfl⟩ := r2
          obtain ⟨t3, rfl⟩ := r3
          refine max_three_ints (I.ok.hd hc) fun h' tk k' => ⟨.int (if j > i then (if k > j then k else j) else (if k > i then k else i)), H, I.kept k', ?_, p.of0 S (RV.int_iff.mpr rfl)⟩
          by_cases h1 : j > i
          · rw [if_pos h1, if_pos h1]
            by_cases h2 : k > j
            · rw [if_pos h2, if_pos h2]; exact ⟨_, rfl⟩
            · rw [if_neg h2, if_neg h2]; exact ⟨_, rfl⟩
          · rw [if_neg h1, if_neg h1]
            by_cases h2 : k > i
            · rw [if_pos h2, if_pos h2]; exact ⟨_, rfl⟩
            · rw [if_neg h2, if_neg h2]; exact ⟨_, rfl⟩
  · (replace q := q.one_inv); obtain ⟨v, rfl, q⟩ := q
    rw [RV.ref_iff] at q
    obtain ⟨hi, rfl⟩ := q
    split at p
    · rename_i ds' hl
      split at p
      · rename_i ns en
        split at p
        · rename_i m em
          have hne : 0 < ns.length := by
            cases ns with
            | nil => cases em
            | cons _ _ => simp
          exact cr_max hc pins s σ H _ us Q I r ⟨_, ns, rfl, S.intsL hl en, hne, fun k hk hy => by rw [maxL_of em hk hy]; exact p.of0 S (RV.int_iff.mpr rfl)⟩
        · exact False.elim p
      · exact False.elim p
    · exact False.elim p
  · exact False.elim p
theorem cd_min (hc : X.calm = true) : CallR X (.builtin "min") (rB X.K κ bMin) := by
  intro pins s σ H xs us Q I r ⟨φ, h, ds, S, q, p⟩
  unfold bMin at p
  split at p
  · (replace q := q.two_inv); obtain ⟨v, v', rfl, q, q'⟩ := q
    rw [RV.int_iff] at q q'
    subst q q'
    exact call_min2 hc pins s σ H _ us Q I r ⟨_, _, rfl, p.of0 S (RV.int_iff.mpr rfl)⟩
  · (replace q := q.one_inv); obtain ⟨v, rfl, q⟩ := q
    rw [RV.ref_iff] at q
    obtain ⟨hi, rfl⟩ := q
    split at p
    · rename_i ds' hl
      split at p
      · rename_i ns en
        split at p
        · rename_i m em
          have hne : 0 < ns.length := by
            cases ns with
            | nil => cases em
            | cons _ _ => simp
          exact cr_min hc pins s σ H _ us Q I r ⟨_, ns, rfl, S.intsL hl en, hne, fun k hk hy => by rw [minL_of em hk hy]; exact p.of0 S (RV.int_iff.mpr rfl)⟩
        · exact False.elim p
      · exact False.elim p
    · exact False.elim p
  · exact False.elim p
theorem cd_sum (hc : X.calm = true) : CallR X (.builtin "sum") (rB X.K κ bSum) := by
  intro pins s σ H xs us Q I r ⟨φ, h, ds, S, q, p⟩
  unfold bSum at p
  split at p
  · (replace q := q.one_inv); obtain ⟨v, rfl, q⟩ := q
    rw [RV.ref_iff] at q
    obtain ⟨hi, rfl⟩ := q
    split at p
    · rename_i ds' hl
      split at p
      · rename_i ns en
        exact cr_sum hc pins s σ H _ us Q I r ⟨_, ns, rfl, S.intsL hl en, p.of0 S (RV.int_iff.mpr rfl)⟩
      · exact False.elim p
    · exact False.elim p
  · exact False.elim p
theorem cd_dvm : CallR X (.builtin "divmod") (rB X.K κ bDvm) := by
  intro pins s σ H xs us Q I r ⟨φ, h, ds, S, q, p⟩
  unfold bDvm at p
  split at p
  · rename_i i j
    (replace q := q.two_inv); obtain ⟨v, v', rfl, q, q'⟩ := q
    split at p
    · rename_i hz
      rw [RV.int_iff] at q q'
      subst q q'
      have h2 := hz.2
      unfold divOk at h2
      rw [Bool.and_eq_true] at h2
      exact call_divmodW pins s σ H _ us Q I r ⟨_, _, rfl, ⟨hz.1, PyProof.noPylong_of_log2 (of_decide_eq_true h2.2)⟩, fun t ht => p.newT S ht (RVs.cons (RV.int_iff.mpr rfl) (RVs.one (RV.int_iff.mpr rfl)))⟩
    · exact False.elim p
  · exact False.elim p
end

/-! ### isinstance -/
section
variable {X : Cx} {κ : Nat → Addr} {C : Ctx} {a b c e : Expr} {es : List Expr} {ma mb mc : ME} {ta tb : MT} {mas : MA} {pos p2 p3 : Pos}
/-! ### fields -/
/-- what is known of the field f of own classes -/
def FldOk (K : PySem.W.Frag) (κ : Nat → Addr) (cs : List Nat) (f : Str) : Prop := ∀ c ∈ cs, Cls K (κ c) ∧ NoAttr K (κ c) f
theorem se_fld {cs : List Nat} {f : Str} (hf : FldOk X.K κ cs f) (ha : SE X κ C a ma) (hb : attributeBase a f X.env (eval a X.env) = eval a X.env := by rfl) : SE X κ C (.Attribute a f pos) (eFld cs ma f) :=
  SE.mk' (pe_fld ha.pe hb) fun φ ev h σ H Q S r p => by
    obtain ⟨dx, h1, e1, p⟩ := Post.bind p
    refine td_of S r e1 fun φ1 H1 v st S1 r1 q1 => ?_
    split at p
    · rw [RV.ref_iff] at q1
      obtain ⟨hi, rfl⟩ := q1
      split at p
      · rename_i c fs e
        obtain ⟨dx, us, hu, rr⟩ := S1.ins e
        split at p
        · rename_i hc
          split at p
          · rename_i d ed
            obtain ⟨w, e2, q2⟩ := rr.look ed
            exact ⟨_, _, dx, us, w, rfl, hu, (hf c hc).1, (hf c hc).2, e2, p φ1 H1 w st S1 q2⟩
          · exact False.elim p
        · exact False.elim p
      · exact False.elim p
    · exact False.elim p
end

/-! ### own defs -/
/-- what a call of a def is worth -/
def spD (K : PySem.W.Frag) (κ : Nat → Addr) (np : Nat) (f : List D → HP → R D) : Sp := fun vs H Q _ => vs.length = np ∧ ∃ φ h ds, Sim K κ φ h H ∧ RVs φ h.length H ds vs ∧ Post K κ φ h H (f ds h) Q
/-- the def answers to so many arguments alone -/
def Ary (np : Nat) (f : List D → HP → R D) : Prop := ∀ ds h, ds.length ≠ np → f ds h = .no
structure FnF (P : Program) (w : World) (K : PySem.W.Frag) (mg : Str → Option Value) (base : Heap) (κ : Nat → Addr) (k : Nat) (nm : Str) (dfs : List Int) (f : List D → HP → R D) : Prop where
  ex : ∃ (fa : Addr) (fd : FuncData) (ps : List Str) (us : List Value), mg nm = some (.ref fa) ∧ PySem.W.keepIn K (.ref fa) = true ∧ Binds K fd ps [] ∧ Binds K fd ps us ∧ Vals (dfs.map V.int) us ∧ Ary ps.length f ∧ FnOk P w K mg base CX0 k fa fd ps (spD K κ ps.length f)
structure MeF (P : Program) (w : World) (K : PySem.W.Frag) (mg : Str → Option Value) (base : Heap) (κ : Nat → Addr) (k : Nat) (c : Nat) (nm : Str) (f : List D → HP → R D) : Prop where
  ex : ∃ (fa : Addr) (fd : FuncData) (ps : List Str), Cls K (κ c) ∧ Meth K (κ c) nm fa ∧ Binds K fd ps [] ∧ Ary ps.length f ∧ FnOk P w K mg base CX0 k fa fd ps (spD K κ ps.length f)
structure MkF (P : Program) (w : World) (K : PySem.W.Frag) (mg : Str → Option Value) (base : Heap) (κ : Nat → Addr) (k : Nat) (c : Nat) (nm : Str) (f : List D → HP → R D) : Prop where
  ex : ∃ (fa : Addr) (fd : FuncData) (ps : List Str), mg nm = some (.ref (κ c)) ∧ Mk K (κ c) fa ∧ Binds K fd ps [] ∧ Ary ps.length f ∧ FnOk P w K mg base CX0 k fa fd ps (spD K κ ps.length f)
/-- a new instance is laid -/
theorem Sim.make {K : PySem.W.Frag} {κ φ : Nat → Addr} {h : HP} {H : Hp} {x dx : Addr} {c : Nat} (S : Sim K κ φ h H) (hx : H x = none) (hd : H dx = none) (ne : dx ≠ x) :
    Step φ h H (ext φ h.length x) (h ++ [.ins c []]) (upd (upd H dx (.own x)) x (.ins (κ c) dx [])) ∧ Sim K κ (ext φ h.length x) (h ++ [.ins c []]) (upd (upd H dx (.own x)) x (.ins (κ c) dx [])) := by
  have S1 : Sim K κ φ h (upd H dx (.own x)) := S.temp hd
  have t1 : Step φ h H φ h (upd H dx (.own x)) := step_temp S hd
  have hx1 : upd H dx (.own x) x = none := by rw [upd_ne (Ne.symm ne)]; exact hx
  exact ⟨t1.trans (step_new S1 hx1), S1.new hx1 fun st => ⟨dx, [], upd_same, by simp [RKs]⟩⟩
theorem Ary.len {np : Nat} {f : List D → HP → R D} (a : Ary np f) {ds : List D} {h h' : HP} {d : D} (e : f ds h = .ok d h') : ds.length = np := by
  by_cases hn : ds.length = np
  · exact hn
  · rw [a ds h hn] at e; cases e
theorem Post.ok {K : PySem.W.Frag} {κ φ : Nat → Addr} {h : HP} {H : Hp} {r : R D} {Q : VK} (p : Post K κ φ h H r Q) : ∃ d h', r = .ok d h' := by
  cases r with
  | ok d h' => exact ⟨d, h', rfl⟩
  | ex _ _ _ => exact False.elim p
  | no => exact False.elim p
section
variable {X : Cx} {κ : Nat → Addr} {C : Ctx} {a b c e o : Expr} {es : List Expr} {ma mb mc mo : ME} {ta tb : MT} {mas : MA} {pos p2 p3 apos : Pos} {j k : Nat}
/-- f(e, ..), every argument given -/
theorem se_call {x : Str} {n : Nat} {dfs : List Int} (F : FnF X.prog X.w X.K X.mg X.base κ k x dfs (C.call n)) (hr : Room k X.A) (ha : SA X κ C (e :: es) mas) (hg : Gl X x := by rfl) (hdb : (x == ("__debug__" : Str)) = false := by decide)
    (he : starEach (e :: es) X.env = (false, eval e X.env) :: starEach es X.env := by rfl) (hpl : (backTo pos (starEach es X.env)).any (·.1) = false := by rfl) : SE X κ C (.Call (.Name x p2) (e :: es) [] pos) (eCall n mas []) := by
  obtain ⟨fa, fd, ps, us, hm, hk, hb, _, _, ar, G⟩ := F.ex
  refine SE.mk' (pe_call G hr hg hm hk hb .nil pass0 ha.pa hdb he hpl) fun φ ev h σ H Q S r p => ?_
  obtain ⟨ds, h1, e1, p⟩ := Post.bind p
  refine ta_of S r e1 fun φ1 H1 vs st S1 r1 q1 => ?_
  rw [List.append_nil] at p ⊢
  obtain ⟨d, h', ed⟩ := p.ok
  exact ⟨by rw [q1.len]; exact ar.len ed, φ1, h1, ds, S1, q1, p.step st⟩
/-- o.m(e, ..), o of one of the classes cs -/
theorem se_meth {cs : List Nat} {m : Str} {n : Nat} {pl : Sem Bool} (F : ∀ c ∈ cs, MeF X.prog X.w X.K X.mg X.base κ k c m (C.meth c n)) (hr : Room k X.A) (ho : SE X κ C o mo) (ha : SA X κ C (e :: es) mas)
    (hst : starEach (e :: es) X.env = (false, eval e X.env) :: starEach es X.env := by rfl) (hpl : (backTo pos (starEach es X.env)).any (·.1) = false := by rfl)
    (ht : eval (.Call (.Attribute o m apos) (e :: es) [] pos) X.env = (do { let ov ← eval o X.env; standAt apos.atName; let (f, first) ← holding [ov] (getMethod ov m pl); callWith pos f first (backTo pos (starEach (e :: es) X.env)) (backToKw pos (keywordEach [] X.env)) }) := by rfl) : SE X κ C (.Call (.Attribute o m apos) (e :: es) [] pos) (eMeth cs mo n m mas) := by
  refine ⟨⟨fun pins s σ H Q I ⟨φ, ev, h, S, r, p⟩ => ?_⟩⟩
  obtain ⟨dx, h1, e1, p⟩ := Post.bind p
  split at p
  · rename_i i
    split at p
    · rename_i c fs ei
      split at p
      · rename_i hc
        obtain ⟨ds, h2, e2, p⟩ := Post.bind p
        obtain ⟨d, h', ed⟩ := p.ok
        obtain ⟨fa, fd, ps, hcl, hme, hb, ar, G⟩ := (F c hc.1).ex
        refine (pe_meth ho.pe hcl hme G hr hb .nil pass0 ha.pa hst hpl ht).run pins s σ H Q I ?_
        refine td_of S r e1 fun φ1 H1 v st S1 r1 q1 => ?_
        have q0 := q1
        rw [RV.ref_iff] at q1
        obtain ⟨hi, rfl⟩ := q1
        obtain ⟨dx, us, hu, rr⟩ := S1.ins ei
        refine ⟨_, dx, us, rfl, hu, rr.look0 (Option.isNone_iff_eq_none.mp hc.2), ?_⟩
        refine ta_of S1 r1 e2 fun φ2 H2 vs st2 S2 r2 q2 => ?_
        rw [List.append_nil]
        have q3 := RVs.cons (q0.step S1 st2) q2
        exact ⟨by rw [q3.len]; exact ar.len ed, φ2, h2, _, S2, q3, p.step (st.trans st2)⟩
      · exact False.elim p
    · exact False.elim p
  · exact False.elim p
/-- C(e, ..), an own class with an __init__ -/
theorem se_make {x : Str} {c : Nat} {me : Nat → Nat → List D → HP → R D} (hC : C.make = mkBy me) (F : MkF X.prog X.w X.K X.mg X.base κ k c x (me c 0)) (hr : Room (k + 1) X.A) (ha : SA X κ C (e :: es) mas) (hg : Gl X x := by rfl) (hdb : (x == ("__debug__" : Str)) = false := by decide)
    (he : starEach (e :: es) X.env = (false, eval e X.env) :: starEach es X.env := by rfl) (hpl : (backTo pos (starEach es X.env)).any (·.1) = false := by rfl) : SE X κ C (.Call (.Name x p2) (e :: es) [] pos) (eMake c mas) := by
  obtain ⟨fa, fd, ps, hm, M, hb, ar, G⟩ := F.ex
  refine SE.mk' (pe_make M G hr hg hm hb .nil pass0 ha.pa hdb he hpl) fun φ ev h σ H Q S r p => ?_
  obtain ⟨ds, h1, e1, p⟩ := Post.bind p
  rw [hC] at p
  obtain ⟨d, h', ed, p⟩ := Post.bind p
  refine ta_of S r e1 fun φ1 H1 vs st S1 r1 q1 => ?_
  intro x dx hx hdx ne
  obtain ⟨t2, S2⟩ := S1.make (c := c) hx hdx ne
  rw [List.append_nil]
  have q3 : RVs (Z.ext φ1 h1.length x) (h1 ++ [O.ins c []]).length (upd (upd H1 dx (.own x)) x (.ins (κ c) dx [])) (.ref h1.length :: ds) (.ref x :: vs) := RVs.cons (RV.ref_iff.mpr ⟨by simp, by rw [ext_at]⟩) (q1.step S1 t2)
  refine ⟨by rw [q3.len]; exact ar.len ed, _, _, _, S2, q3, ?_⟩
  rw [ed]
  intro φ3 H3 v st3 S3 rv
  split at p
  · rw [RV.non_iff] at rv
    have hl : h1.length < (h1 ++ [O.ins c []]).length := by simp
    exact ⟨rv, p φ3 H3 _ ((st.trans t2).trans st3) S3 (RV.ref_iff.mpr ⟨Nat.lt_of_lt_of_le hl st3.len, by rw [st3.agree _ hl, ext_at]⟩)⟩
  · exact False.elim p
end
end Z
/-! Z6: targets, statements, loops, comprehensions, a def by its body. -/
namespace Z
open PySem L2 PyProof.Rows

/-! ### targets -/
def gsN : List Nat → TGs
  | [] => gNil
  | i :: r => gCons (gName i) (gsN r)
structure SGs (X : Cx) (es : List Expr) (is : List Nat) : Prop where
  pgs : PGs X es (gsN is)
def tG (K : PySem.W.Frag) (κ : Nat → Addr) (g : Tg) : TG := fun v σ H Q => ∃ φ e h d, Sim K κ φ h H ∧ EnvR φ h.length H e σ ∧ RV φ h.length H d v ∧ ∃ e', g e d = some e' ∧ ∀ σ', EnvR φ h.length H e' σ' → Q σ' H
structure SG (X : Cx) (κ : Nat → Addr) (t : Expr) (g : Tg) : Prop where
  pg : PG X t (tG X.K κ g)
section
variable {K : PySem.W.Frag} {κ φ φ' : Nat → Addr} {h h' : HP} {H H' : Hp}
theorem gsN_of {n : Nat} {Q : L2.St → Hp → Prop} : ∀ {is : List Nat} {ds : List D} {vs : List V} {e : Ev} {σ : L2.St}, ds.length = is.length → EnvR φ n H e σ → RVs φ n H ds vs →
    (∀ σ', EnvR φ n H ((is.zip ds).foldl (fun e p => e.set p.1 (some p.2)) e) σ' → Q σ' H) → gsN is vs σ H Q
  | [], [], vs, e, σ, _, r, q, k => by
    simp only [RVs] at q
    exact ⟨q, k σ r⟩
  | i :: is, d :: ds, vs, e, σ, hl, r, q, k => by
    simp only [RVs] at q
    obtain ⟨v, vr, rfl, q1, q2⟩ := q
    exact ⟨v, vr, rfl, gsN_of (is := is) (ds := ds) (by simpa using hl) (r.set q1 i) q2 k⟩
  | [], _ :: _, _, _, _, hl, _, _, _ => by simp at hl
  | _ :: _, [], _, _, _, hl, _, _, _ => by simp at hl
end
section
variable {X : Cx} {κ : Nat → Addr} {C : Ctx} {a b c e o : Expr} {es : List Expr} {ma mb mc mo : ME} {ta tb : MT} {mas : MA} {pos p2 p3 apos : Pos} {g : Tg}
theorem sgs_nil : SGs X [] [] := ⟨pgs_nil⟩
theorem sgs_cons {i : Nat} {x : Str} {is : List Nat} (hN : X.N.Nodup) (r : SGs X es is) (hi : X.N[i]? = some x := by rfl) (hx : Loc X.env.scope x := by first | exact Or.inl rfl | exact Or.inr rfl)
    (hf : X.fn x = true ∨ X.env.scope.names.lookup x = some .local := by first | exact .inl rfl | exact .inr rfl | assumption)
    (hs : (assignEach (Expr.Name x pos :: es) X.env).map (·.2) = assign (Expr.Name x pos) X.env :: (assignEach es X.env).map (·.2) := by rfl) : SGs X (.Name x pos :: es) (i :: is) := ⟨pgs_cons (pg_name hN hi hx hf) r.pgs hs⟩
theorem sg_n {i : Nat} {x : Str} (hN : X.N.Nodup) (hi : X.N[i]? = some x := by rfl) (hx : Loc X.env.scope x := by first | exact Or.inl rfl | exact Or.inr rfl)
    (hf : X.fn x = true ∨ X.env.scope.names.lookup x = some .local := by first | exact .inl rfl | exact .inr rfl | assumption) : SG X κ (.Name x pos) (gN i) := by
  refine ⟨⟨fun pins s σ H v u Q I r ⟨φ, ev, h, d, S, er, q, e', ge, k⟩ => ?_⟩⟩
  unfold gN at ge
  cases ge
  exact (pg_name hN hi hx hf).run pins s σ H v u Q I r (k _ (er.set q i))
theorem sg_t {is : List Nat} {k : Nat} {n : Nat} (hc : X.calm = true) (hs : SGs X es is) (hn : (assignEach es X.env).length = n := by rfl) (hst : (assignEach es X.env).findIdx? (·.1) = none := by rfl) (hn2 : is.length = n := by rfl) : SG X κ (.Tuple es k pos) (gT is) := by
  refine ⟨⟨fun pins s σ H v u Q I r ⟨φ, ev, h, d, S, er, q, e', ge, kk⟩ => ?_⟩⟩
  unfold gT at ge
  cases d with
  | tup ds =>
    simp only at ge
    split at ge
    · rename_i hl
      cases ge
      rw [RV.tup_iff] at q
      obtain ⟨p, vs, rfl, hp, q⟩ := q
      exact (pg_tup hc hs.pgs hn hst).run pins s σ H _ u Q I r ⟨p, vs, rfl, SqT.of hp, by rw [q.len, hl, hn2], gsN_of hl er q kk⟩
    · cases ge
  | non => cases ge
  | bl _ => cases ge
  | int _ => cases ge
  | str _ => cases ge
  | ref _ => cases ge

/-! ### plain statements -/
variable {ms mr : MS} {st : Stmt} {sts : List Stmt}
theorem ss_ex (ha : SE X κ C a ma) (hs : swapsWith a none pos.line X.env = pure false := by rfl) : SS X κ C (.Expr a pos) (sEx ma) :=
  SS.mk' (ps_expr ha.pe hs) fun φ ev h σ H Dn S r p => by
    obtain ⟨d, h1, e1, p⟩ := PostS.bind p
    exact td_of S r e1 fun φ1 H1 v st S1 r1 q1 => p φ1 H1 σ st S1 r1
theorem ss_ps : SS X κ C (.Pass pos) sSk := SS.mk' ps_pass fun φ ev h σ H Dn S r p => p φ H σ Step.refl S r
theorem ss_rt (ha : SE X κ C a ma) : SS X κ C (.Return (some a) pos) (sRt ma) :=
  SS.mk' (ps_ret ha.pe) fun φ ev h σ H Dn S r p => by
    obtain ⟨d, h1, e1, p⟩ := PostS.bind p
    exact td_of S r e1 fun φ1 H1 v st S1 r1 q1 => p φ1 H1 v st S1 q1
theorem ss_rn : SS X κ C (.Return none pos) sRN := SS.mk' ps_retN fun φ ev h σ H Dn S r p => p φ H .non Step.refl S (RV.non_iff.mpr rfl)
theorem ss_no : SS X κ C st sNo := SS.mk' ps_never fun φ ev h σ H Dn S r p => p
/-- name = a -/
theorem ss_as {i : Nat} {x : Str} (hN : X.N.Nodup) (ha : SE X κ C a ma) (hi : X.N[i]? = some x := by rfl) (hx : Loc X.env.scope x := by first | exact Or.inl rfl | exact Or.inr rfl) (hs : swapsWith a (some (.Name x p2)) pos.line X.env = pure false := by rfl)
    (hf : X.fn x = true ∨ X.env.scope.names.lookup x = some .local := by first | exact .inl rfl | exact .inr rfl | assumption) : SS X κ C (.Assign [.Name x p2] a pos) (sAs (gN i) ma) :=
  SS.mk' (ps_set hN hi hx ha.pe hs hf) fun φ ev h σ H Dn S r p => by
    obtain ⟨d, h1, e1, p⟩ := PostS.bind p
    exact td_of S r e1 fun φ1 H1 v st S1 r1 q1 => p φ1 H1 _ st S1 (r1.set q1 i)
/-- target = a -/
theorem ss_at {tg : Expr} (hg : SG X κ tg g) (ha : SE X κ C a ma) (hs : swapsWithSole [tg] a pos.line X.env = pure false := by rfl) (hw : swappedStores [tg] a X.env = pure none := by rfl) (h1 : (assignEach [tg] X.env).map (·.2) = [assign tg X.env] := by rfl) : SS X κ C (.Assign [tg] a pos) (sAs g ma) :=
  SS.mk' (ps_asg ha.pe hg.pg hs hw h1) fun φ ev h σ H Dn S r p => by
    obtain ⟨d, h1, e1, p⟩ := PostS.bind p
    refine td_of S r e1 fun φ1 H1 v st S1 r1 q1 => ?_
    split at p
    · rename_i e' ge
      exact ⟨φ1, ev, h1, d, S1, r1, q1, e', ge, fun σ' r2 => p φ1 H1 σ' st S1 r2⟩
    · exact False.elim p
theorem ss_if {p q : List Stmt} (hc : ST X κ C c ta) (ha : SSs X κ C p ms) (hb : SSs X κ C q mr) : SS X κ C (.If c p q pos) (sIf ta ms mr) :=
  SS.mk' (ps_if hc.pt ha.pss hb.pss) fun φ ev h σ H Dn S r p => by
    obtain ⟨k, h1, e1, p⟩ := PostS.bind p
    refine tq_of S r e1 fun φ1 H1 st S1 r1 => ?_
    cases k with
    | true => rw [if_pos rfl] at p ⊢; exact ⟨φ1, ev, h1, S1, r1, p.step st⟩
    | false => rw [if_neg Bool.false_ne_true] at p ⊢; exact ⟨φ1, ev, h1, S1, r1, p.step st⟩
theorem ss_nil : SSs X κ C [] sSk := SSs.mk' pss_nil fun φ ev h σ H Dn S r p => p φ H σ Step.refl S r
theorem ss_one (h : SS X κ C st ms) : SSs X κ C [st] ms := ⟨pss_one h.ps⟩
theorem ss_cons (h1 : SS X κ C st ms) (h2 : SSs X κ C sts mr) : SSs X κ C (st :: sts) (sSq ms mr) :=
  SSs.mk' (pss_cons h1.ps h2.pss) fun φ ev h σ H Dn S r p => by
    refine ⟨φ, ev, h, S, r, ?_⟩
    obtain ⟨f, h1, e1, p⟩ := PostS.bind p
    rw [e1]
    cases f with
    | nx e2 => exact fun φ' H' σ' st S' r' => ⟨φ', e2, h1, S', r', p.step st⟩
    | rt d => exact p
    | bk e2 => exact p
    | ct e2 => exact p
end

/-! ### op= -/
def opIAdd : D → D → HP → R D := fun x y h => match x, y with
  | .int i, .int j => .ok (.int (i + j)) h
  | .str a, .str b => if a.length + b.length ≤ sizeLine then .ok (.str (a ++ b)) h else .no
  | _, _ => .no
section
variable {X : Cx} {κ : Nat → Addr} {C : Ctx} {a b c e o : Expr} {es : List Expr} {ma mb mc mo : ME} {ta tb : MT} {mas : MA} {pos p2 p3 apos : Pos} {g : Tg} {ms mr : MS} {st : Stmt} {sts : List Stmt}
theorem iod_add : OpR X (inplaceOp .Add) (rD X.K κ opIAdd) := by
  intro pins s σ H x y v u Q I rx ry ⟨φ, h, dx, dy, S, qx, qy, p⟩
  unfold opIAdd at p
  split at p
  · rw [RV.int_iff] at qx qy
    exact iop_add pins s σ H _ _ v u Q I rx ry ⟨_, _, qx, qy, p.of0 S (RV.int_iff.mpr rfl)⟩
  · split at p
    · rename_i hz
      rw [RV.str_iff] at qx qy
      exact iop_add_str pins s σ H _ _ v u Q I rx ry ⟨_, _, qx, qy, hz, p.of0 S (RV.str_iff.mpr rfl)⟩
    · exact False.elim p
  · exact False.elim p
theorem ss_au {i : Nat} {x : Str} {o : Operator} {op : D → D → HP → R D} (hN : X.N.Nodup) (ho : OpR X (inplaceOp o) (rD X.K κ op)) (ha : SE X κ C a ma) (hi : X.N[i]? = some x := by rfl) (hx : Loc X.env.scope x := by first | exact Or.inl rfl | exact Or.inr rfl)
    (hf : X.fn x = true ∨ X.env.scope.names.lookup x = some .local := by first | exact .inl rfl | exact .inr rfl | assumption) : SS X κ C (.AugAssign (.Name x p2) o a pos) (sAu i op ma) :=
  SS.mk' (ps_aug hN hi hx ha.pe (ti := rD X.K κ op) ho hf) fun φ ev h σ H Dn S r p => by
    unfold sAu at p
    split at p
    · rename_i d e
      obtain ⟨v, e1, q⟩ := r.get i d e
      obtain ⟨d2, h1, e2, p⟩ := PostS.bind p
      refine ⟨v, e1, td_of S r e2 fun φ1 H1 w st S1 r1 q1 => ⟨φ1, h1, d, d2, S1, q.step S st, q1, ?_⟩⟩
      obtain ⟨d3, h2, e3, p⟩ := PostS.bind p
      rw [e3]
      exact fun φ2 H2 z st2 S2 q2 => p φ2 H2 _ (st.trans st2) S2 ((r1.step S1 st2).set q2 i)
    · exact False.elim p

/-! ### stores -/
end
def stD : D → D → D → HP → R Unit := fun x y v h => match x with
  | .ref i => match h[i]? with
    | some (.lst ds) => match y with
      | .int k => match ixN ds.length k with
        | some j => .ok () (h.set i (.lst (ds.set j v)))
        | none => .no
      | _ => .no
    | some (.dic kvs) => match keyD y with
      | some k => if kvs.length < sizeLine then .ok () (h.set i (.dic (putKD kvs k v))) else .no
      | none => .no
    | some (.dct kvs) => match y with
      | .tup ds => match keysD ds with
        | some k => if kvs.length < sizeLine then .ok () (h.set i (.dct (putKD kvs k v))) else .no
        | none => .no
      | _ => .no
    | _ => .no
  | _ => .no
def rSt (K : PySem.W.Frag) (κ : Nat → Addr) (f : D → D → D → HP → R Unit) : V → V → V → Hp → (Hp → Prop) → Prop := fun o i v H Q => ∃ φ h x y d h', Sim K κ φ h H ∧ RV φ h.length H x o ∧ RV φ h.length H y i ∧ RV φ h.length H d v ∧ f x y d h = .ok () h' ∧
  ∀ φ' H', Step φ h H φ' h' H' → Sim K κ φ' h' H' → Q H'
section
variable {X : Cx} {κ : Nat → Addr} {C : Ctx} {a b c e o : Expr} {es : List Expr} {ma mb mc mo : ME} {ta tb : MT} {mas : MA} {pos p2 p3 apos : Pos} {g : Tg} {ms mr : MS} {st : Stmt} {sts : List Stmt}
theorem set_ok {K : PySem.W.Frag} {κ φ : Nat → Addr} {h : HP} {H : Hp} {i : Nat} {ob ob' : O} {u : HO} (S : Sim K κ φ h H) (hi : h[i]? = some ob) (m : ob.mu = true) (m' : ob'.mu = true)
    (new : ∀ st : Step φ h H φ (h.set i ob') (upd H (φ i) u), RO K κ φ (h.set i ob').length (upd H (φ i) u) (φ i) ob') {Q : Hp → Prop} (k : ∀ φ' H', Step φ h H φ' (h.set i ob') H' → Sim K κ φ' (h.set i ob') H' → Q H') : Q (upd H (φ i) u) :=
  k φ _ (step_set S hi m m') (S.set hi m m' new)
section
variable {K : PySem.W.Frag} {κ φ : Nat → Addr} {h : HP} {H : Hp} {i c : Nat} {Q : Hp → Prop}
theorem set_okL {ds ds' : List D} {vs : List V} (S : Sim K κ φ h H) (hi : h[i]? = some (.lst ds)) (r : RVs φ h.length H ds' vs) (k : ∀ φ' H', Step φ h H φ' (h.set i (.lst ds')) H' → Sim K κ φ' (h.set i (.lst ds')) H' → Q H') : Q (upd H (φ i) (.lst vs)) :=
  set_ok (ob' := .lst ds') S hi rfl rfl (fun st => ⟨vs, upd_same, r.step S st⟩) k
theorem set_okK {ds ds' : List (Key × D)} {vs : List (Key × V)} (S : Sim K κ φ h H) (hi : h[i]? = some (.dic ds)) (r : RKs φ h.length H ds' vs) (k : ∀ φ' H', Step φ h H φ' (h.set i (.dic ds')) H' → Sim K κ φ' (h.set i (.dic ds')) H' → Q H') : Q (upd H (φ i) (.dK vs)) :=
  set_ok (ob' := .dic ds') S hi rfl rfl (fun st => ⟨vs, upd_same, r.step S st⟩) k
theorem set_okT {ds ds' : List (List Key × D)} {vs : List (List Key × V)} (S : Sim K κ φ h H) (hi : h[i]? = some (.dct ds)) (r : RKs φ h.length H ds' vs) (k : ∀ φ' H', Step φ h H φ' (h.set i (.dct ds')) H' → Sim K κ φ' (h.set i (.dct ds')) H' → Q H') : Q (upd H (φ i) (.dT vs)) :=
  set_ok (ob' := .dct ds') S hi rfl rfl (fun st => ⟨vs, upd_same, r.step S st⟩) k
theorem set_okI {ds ds' : List (Str × D)} {vs : List (Str × V)} {dx : Addr} (S : Sim K κ φ h H) (hi : h[i]? = some (.ins c ds)) (r : RKs φ h.length H ds' vs) (k : ∀ φ' H', Step φ h H φ' (h.set i (.ins c ds')) H' → Sim K κ φ' (h.set i (.ins c ds')) H' → Q H') : Q (upd H (φ i) (.ins (κ c) dx vs)) :=
  set_ok (ob' := .ins c ds') S hi rfl rfl (fun st => ⟨dx, vs, upd_same, r.step S st⟩) k
end
theorem pset (hu : X.A.units + 1 < cLine) : PSet X (rSt X.K κ stD) := by
  intro pins s σ H o i v ov iv u Q I ro ri rv ⟨φ, h, x, y, d, h', S, qx, qy, qd, e, k⟩
  unfold stD at e
  split at e
  · rename_i i'
    rw [RV.ref_iff] at qx
    obtain ⟨hi, rfl⟩ := qx
    split at e
    · rename_i ds ei
      obtain ⟨vs, hv, r⟩ := S.lst ei
      split at e
      · split at e
        · rename_i kk j ej
          cases e
          rw [RV.int_iff] at qy
          exact set_list pins s σ H _ _ _ ov iv u Q I ro ri rv ⟨_, vs, _, j, rfl, qy, hv, by rw [r.len]; exact ej, set_okL S ei (r.set j qd) k⟩
        · cases e
      · cases e
    · rename_i kvs ei
      obtain ⟨us, hd, r⟩ := S.dic ei
      split at e
      · rename_i kk ek
        split at e
        · rename_i hz
          cases e
          have ky := key_of' ek qy
          subst ky
          obtain rfl : ov = Value.ref _ := ro
          exact d_setItem hu I (DPut.k hd (by rw [r.len]; exact hz)) ri rv fun s' I' => ⟨_, I', set_okK S ei (r.put kk qd) k⟩
        · cases e
      · cases e
    · rename_i kvs ei
      obtain ⟨us, hd, r⟩ := S.dct ei
      split at e
      · split at e
        · rename_i kk ek
          split at e
          · rename_i hz
            cases e
            rw [RV.tup_iff] at qy
            obtain ⟨p, vs, rfl, hp, rr⟩ := qy
            have ky := keys_of' ek rr
            subst ky
            obtain rfl : ov = Value.ref _ := ro
            exact d_setItem hu I (DPut.t hd hp (by rw [r.len]; exact hz)) ri rv fun s' I' => ⟨_, I', set_okT S ei (r.put kk qd) k⟩
          · cases e
        · cases e
      · cases e
    · cases e
  · cases e
/-- o[i] = a -/
theorem ss_st {i : Expr} {mi : ME} (hu : X.A.units + 1 < cLine) (ho : SE X κ C o mo) (hi : SE X κ C i mi) (ha : SE X κ C a ma)
    (has : ∀ v, assign (.Subscript o i p2) X.env v = (do { let ov ← holding [v] (eval o X.env); let iv ← holding [v, ov] (eval i X.env); standAt p2; holding [v, ov, iv] (setItem ov iv v); release [v, ov, iv] [] }) := by intro _; rfl)
    (hs : swapsWithSole [.Subscript o i p2] a pos.line X.env = pure false := by rfl) (hw : swappedStores [.Subscript o i p2] a X.env = pure none := by rfl) : SS X κ C (.Assign [.Subscript o i p2] a pos) (sSt stD mo mi ma) :=
  SS.mk' (ps_asg ha.pe (pg_sub ho.pe hi.pe (pset (κ := κ) hu) has) hs hw) fun φ ev h σ H Dn S r p => by
    obtain ⟨d, h1, e1, p⟩ := PostS.bind p
    obtain ⟨x, h2, e2, p⟩ := PostS.bind p
    obtain ⟨y, h3, e3, p⟩ := PostS.bind p
    obtain ⟨_, h4, e4, p⟩ := PostS.bind p
    exact td_of S r e1 fun φ1 H1 v st S1 r1 q1 => td_of S1 r1 e2 fun φ2 H2 w st2 S2 r2 q2 => td_of S2 r2 e3 fun φ3 H3 z st3 S3 r3 q3 =>
      ⟨φ3, h3, x, y, d, h4, S3, q2.step S2 st3, q3, (q1.step S1 st2).step S2 st3, e4, fun φ4 H4 st4 S4 => p φ4 H4 σ (((st.trans st2).trans st3).trans st4) S4 (r3.step S3 st4)⟩
/-- o.f = a -/
theorem ss_fl {cs : List Nat} {f : Str} (hf : FldOk X.K κ cs f) (ho : SE X κ C o mo) (ha : SE X κ C a ma) (hs : swapsWith a (some (.Attribute o f p2)) pos.line X.env = pure false := by rfl) : SS X κ C (.Assign [.Attribute o f p2] a pos) (sFl cs mo f ma) :=
  SS.mk' (ps_fld ho.pe ha.pe hs) fun φ ev h σ H Dn S r p => by
    obtain ⟨d, h1, e1, p⟩ := PostS.bind p
    obtain ⟨x, h2, e2, p⟩ := PostS.bind p
    refine td_of S r e1 fun φ1 H1 v st S1 r1 q1 => td_of S1 r1 e2 fun φ2 H2 w st2 S2 r2 q2 => ?_
    split at p
    · rw [RV.ref_iff] at q2
      obtain ⟨hi, rfl⟩ := q2
      split at p
      · rename_i c fs ei
        split at p
        · rename_i hc
          obtain ⟨dx, us, hu, rr⟩ := S2.ins ei
          exact ⟨_, _, dx, us, rfl, hu, (hf c hc.1).1, (hf c hc.1).2, by rw [rr.len]; exact hc.2, set_okI (Q := fun H' => Dn.nx σ H') S2 ei (rr.putF (q1.step S1 st2)) fun φ' H' st3 S3 => p φ' H' σ ((st.trans st2).trans st3) S3 (r2.step S2 st3)⟩
        · exact False.elim p
      · exact False.elim p
    · exact False.elim p
end
end Z
/-! Z7: what is walked, loops, comprehensions, a def by its body. -/
namespace Z
open PySem L2 PyProof.Rows

def ItR (K : PySem.W.Frag) (κ φ1 : Nat → Addr) (h1 : HP) (H1 : Hp) (it : Itr) (J : It) : Prop := ∀ φ h H, Step φ1 h1 H1 φ h H → Sim K κ φ h H → ∀ j, (it j h = some none → J.stop j H) ∧
  ∀ d, it j h = some (some d) → J.go j H ∧ ∀ x H', J.yld j H x H' → ∃ φ', Step φ h H φ' h H' ∧ Sim K κ φ' h H' ∧ RV φ' h.length H' d x
def tI (K : PySem.W.Frag) (κ : Nat → Addr) (C : Ctx) (mi : MI) : TI := fun σ H R => ∃ φ e h, Sim K κ φ h H ∧ EnvR φ h.length H e σ ∧ ∃ it h1, mi C e h = .ok it h1 ∧
  ∀ φ1 H1 J, Step φ h H φ1 h1 H1 → Sim K κ φ1 h1 H1 → ItR K κ φ1 h1 H1 it J → R J H1
structure SI (X : Cx) (κ : Nat → Addr) (C : Ctx) (tg iter : Expr) (mi : MI) : Prop where
  pi : PI X tg iter (tI X.K κ C mi)
theorem itL_eq (i j : Nat) (h : HP) : itL i j h = (isL i h).map fun ds => ds[j]? := by
  unfold itL isL
  split <;> rfl
section
variable {K : PySem.W.Frag} {κ φ φ1 : Nat → Addr} {h h1 : HP} {H H1 : Hp} {it : Itr} {J : It}
/-- the item of the list at i, at turn j -/
theorem isL_at {i j : Nat} (hi : i < h1.length) (st : Step φ1 h1 H1 φ h H) (S : Sim K κ φ h H) : (itL i j h = some none → ∃ vs, SqL K H (φ1 i) vs ∧ vs.length ≤ j) ∧
    ∀ d, itL i j h = some (some d) → ∃ vs v, SqL K H (φ1 i) vs ∧ vs[j]? = some v ∧ RV φ h.length H d v := by
  have ea := st.agree i hi
  rw [itL_eq]
  cases e : isL i h with
  | none => exact ⟨fun z => by simp at z, fun d z => by simp at z⟩
  | some ds =>
    obtain ⟨vs, hs, r⟩ := S.isL e
    rw [ea] at hs
    refine ⟨fun z => ⟨vs, hs, ?_⟩, fun d z => ?_⟩
    · simp only [Option.map_some, Option.some.injEq] at z
      rw [r.len]
      exact List.getElem?_eq_none_iff.mp z
    · simp only [Option.map_some, Option.some.injEq] at z
      obtain ⟨v, ev, q⟩ := r.get z
      exact ⟨vs, v, hs, ev, q⟩
theorem itL_of {i : Nat} (hi : i < h1.length) : ItR K κ φ1 h1 H1 (itL i) (Itl K (φ1 i)) := by
  intro φ h H st S j
  obtain ⟨k1, k2⟩ := isL_at (j := j) hi st S
  refine ⟨k1, fun d e => ?_⟩
  obtain ⟨vs, v, hs, ev, q⟩ := k2 d e
  refine ⟨⟨vs, v, hs, ev⟩, fun x H' y => ?_⟩
  obtain ⟨e1, y⟩ := y
  subst e1
  have := y vs hs
  rw [ev] at this
  cases this
  exact ⟨φ, Step.refl, S, q⟩
theorem itT_of {ds : List D} {p : Addr} {vs : List V} (S1 : Sim K κ φ1 h1 H1) (hp : H1 p = some (.tup vs)) (r : RVs φ1 h1.length H1 ds vs) : ItR K κ φ1 h1 H1 (itT ds) (Itt K p) := by
  intro φ h H st S j
  have hp' := S1.tup st hp
  have r' := r.step S1 st
  refine ⟨fun z => ⟨vs, SqT.of hp', ?_⟩, fun d z => ?_⟩
  · simp only [itT, Option.some.injEq] at z
    rw [r.len]
    exact List.getElem?_eq_none_iff.mp z
  · simp only [itT, Option.some.injEq] at z
    obtain ⟨v, ev, q⟩ := r'.get z
    refine ⟨⟨vs, v, SqT.of hp', ev⟩, fun x H' y => ?_⟩
    obtain ⟨e1, y⟩ := y
    subst e1
    have := y vs (SqT.of hp')
    rw [ev] at this
    cases this
    exact ⟨φ, Step.refl, S, q⟩
theorem itS_of {z : Str} : ItR K κ φ1 h1 H1 (itS z) (Its z) := by
  intro φ h H st S j
  refine ⟨fun e => ?_, fun d e => ?_⟩
  · simp only [itS, Option.some.injEq, Option.map_eq_none_iff] at e
    exact Array.getElem?_eq_none_iff.mp e
  · simp only [itS, Option.some.injEq, Option.map_eq_some_iff] at e
    obtain ⟨c, ec, rfl⟩ := e
    refine ⟨(Array.getElem?_eq_some_iff.mp ec).1, fun x H' y => ?_⟩
    obtain ⟨e1, c', ec', rfl⟩ := y
    subst e1
    rw [ec] at ec'
    cases ec'
    exact ⟨φ, Step.refl, S, RV.str_iff.mpr rfl⟩
theorem itR_of {lo : Int} {n : Nat} : ItR K κ φ1 h1 H1 (itR lo n) (L2.Itr lo n) := by
  intro φ h H st S j
  unfold itR
  refine ⟨fun e => ?_, fun d e => ?_⟩
  · split at e
    · cases e
    · rename_i hj; exact Nat.not_lt.mp hj
  · split at e
    · rename_i hj
      cases e
      refine ⟨hj, fun x H' y => ?_⟩
      obtain ⟨e1, rfl⟩ := y
      subst e1
      exact ⟨φ, Step.refl, S, RV.int_iff.mpr rfl⟩
    · cases e
theorem itE_of {i : Nat} (hi : i < h1.length) : ItR K κ φ1 h1 H1 (itE i) (Ite K (φ1 i)) := by
  intro φ h H st S j
  obtain ⟨k1, k2⟩ := isL_at (j := j) hi st S
  unfold itE
  refine ⟨fun e => ?_, fun d e => ?_⟩
  · rw [Option.map_eq_some_iff] at e
    obtain ⟨o, e1, e2⟩ := e
    rw [Option.map_eq_none_iff] at e2
    subst e2
    exact k1 e1
  · rw [Option.map_eq_some_iff] at e
    obtain ⟨o, e1, e2⟩ := e
    rw [Option.map_eq_some_iff] at e2
    obtain ⟨d', rfl, rfl⟩ := e2
    obtain ⟨vs, v, hs, ev, q⟩ := k2 d' e1
    refine ⟨⟨vs, v, hs, ev⟩, fun x H' y => ?_⟩
    obtain ⟨T, w, rfl, hT, rfl, y⟩ := y
    have := y vs hs
    rw [ev] at this
    cases this
    have t := step_temp S (u := .tup [.int (j : Nat), v]) hT
    exact ⟨φ, t, S.temp hT, RV.tup_iff.mpr ⟨T, _, rfl, upd_same, RVs.cons (RV.int_iff.mpr rfl) (RVs.one (q.step S t))⟩⟩
end
section
variable {X : Cx} {κ : Nat → Addr} {C : Ctx} {a b c e o tg : Expr} {es : List Expr} {ma mb mc mo : ME} {ta tb : MT} {mas : MA} {pos p2 p3 apos tpos : Pos} {g : Tg} {ms mr : MS} {st : Stmt} {sts : List Stmt}
theorem Rok {α β : Type} {r : R α} {f : α → HP → R β} {b : β} {h2 : HP} (e : r.bind f = .ok b h2) : ∃ a h1, r = .ok a h1 ∧ f a h1 = .ok b h2 := by
  cases r with
  | ok a h1 => exact ⟨a, h1, rfl, e⟩
  | ex _ _ _ => cases e
  | no => cases e
/-- for .. in a -/
theorem si_a (ha : SE X κ C a ma) : SI X κ C tg a (iA ma) := by
  refine ⟨⟨fun pins s σ H R I ⟨φ, ev, h, S, r, it, h1, e, k⟩ => ?_⟩⟩
  obtain ⟨dx, h1', e1, e⟩ := Rok e
  split at e
  · split at e
    · rename_i i _ ds el
      cases e
      refine (pi_list (tg := tg) ha.pe).run pins s σ H R I (td_of S r e1 fun φ1 H1 v st S1 r1 q1 => ?_)
      rw [RV.ref_iff] at q1
      obtain ⟨hi, rfl⟩ := q1
      obtain ⟨vs, hs, _⟩ := S1.isL el
      exact ⟨_, rfl, ⟨vs, hs⟩, k φ1 H1 _ st S1 (itL_of hi)⟩
    · cases e
  · cases e
    refine (pi_tup (tg := tg) ha.pe).run pins s σ H R I (td_of S r e1 fun φ1 H1 v st S1 r1 q1 => ?_)
    rw [RV.tup_iff] at q1
    obtain ⟨p, vs, rfl, hp, q1⟩ := q1
    exact ⟨_, rfl, ⟨vs, SqT.of hp⟩, k φ1 H1 _ st S1 (itT_of S1 hp q1)⟩
  · cases e
    refine (pi_str (tg := tg) ha.pe).run pins s σ H R I (td_of S r e1 fun φ1 H1 v st S1 r1 q1 => ?_)
    rw [RV.str_iff] at q1
    exact ⟨_, q1, k φ1 H1 _ st S1 itS_of⟩
  · cases e
theorem si_r1 (hm : X.mg "range" = none) (ha : SE X κ C a ma) (hg : Gl X "range" := by rfl) (hs : starEach [a] X.env = [(false, eval a X.env)] := by rfl) : SI X κ C tg (.Call (.Name "range" p2) [a] [] pos) (iR1 ma) := by
  refine ⟨⟨fun pins s σ H R I ⟨φ, ev, h, S, r, it, h1, e, k⟩ => ?_⟩⟩
  obtain ⟨dx, h1', e1, e⟩ := Rok e
  split at e
  · split at e
    · rename_i n hn
      cases e
      refine (pi_range1 (tg := tg) hg hm (pa_cons ha.pe pa_nil hs) hs).run pins s σ H R I (td_of S r e1 fun φ1 H1 v st S1 r1 q1 => ?_)
      rw [RV.int_iff] at q1
      subst q1
      exact ⟨_, rfl, hn.1, hn.2, k φ1 H1 _ st S1 itR_of⟩
    · cases e
  · cases e
theorem si_en {elts : List Expr} {kk : Nat} (hm : X.mg "enumerate" = none) (ha : SE X κ C a ma) (hg : Gl X "enumerate" := by rfl) (hs : starEach [a] X.env = [(false, eval a X.env)] := by rfl) : SI X κ C (.Tuple elts kk tpos) (.Call (.Name "enumerate" p2) [a] [] pos) (iEn ma) := by
  refine ⟨⟨fun pins s σ H R I ⟨φ, ev, h, S, r, it, h1, e, k⟩ => ?_⟩⟩
  obtain ⟨dx, h1', e1, e⟩ := Rok e
  split at e
  · split at e
    · rename_i i _ ds el
      cases e
      refine (pi_enum hg hm (pa_cons ha.pe pa_nil hs) hs).run pins s σ H R I (td_of S r e1 fun φ1 H1 v st S1 r1 q1 => ?_)
      rw [RV.ref_iff] at q1
      obtain ⟨hi, rfl⟩ := q1
      obtain ⟨vs, hs, _⟩ := S1.isL el
      exact ⟨_, vs, rfl, hs, k φ1 H1 _ st S1 (itE_of hi)⟩
    · cases e
  · cases e
/-! ### loops -/
theorem PostS.loop {K : PySem.W.Frag} {φ φ1 : Nat → Addr} {h h1 : HP} {H H1 : Hp} {r : R FL} {Dn : Ends} {N : L2.St → Hp → Prop} {f : FL → HP → R FL} (p : PostS K κ φ h H (r.bind f) Dn) (st : Step φ h H φ1 h1 H1)
    (fn : ∀ e2 h2, PostS K κ φ h H (f (.nx e2) h2) Dn → ∀ φ' H' σ', Step φ1 h1 H1 φ' h2 H' → Sim K κ φ' h2 H' → EnvR φ' h2.length H' e2 σ' → N σ' H')
    (fc : ∀ e2 h2, PostS K κ φ h H (f (.ct e2) h2) Dn → ∀ φ' H' σ', Step φ1 h1 H1 φ' h2 H' → Sim K κ φ' h2 H' → EnvR φ' h2.length H' e2 σ' → N σ' H')
    (fb : ∀ e2 h2, f (.bk e2) h2 = .ok (.nx e2) h2) (fr : ∀ d h2, f (.rt d) h2 = .ok (.rt d) h2) : PostS K κ φ1 h1 H1 r { Dn with nx := N, ct := N, bk := Dn.nx } := by
  cases r with
  | ok x h2 =>
    have p : PostS K κ φ h H (f x h2) Dn := p
    cases x with
    | nx e2 => exact fun φ' H' σ' => fn e2 h2 p φ' H' σ'
    | ct e2 => exact fun φ' H' σ' => fc e2 h2 p φ' H' σ'
    | bk e2 =>
      rw [fb] at p
      exact fun φ' H' σ' st' S' r' => p φ' H' σ' (st.trans st') S' r'
    | rt d =>
      rw [fr] at p
      exact fun φ' H' v st' S' r' => p φ' H' v (st.trans st') S' r'
  | ex _ _ _ => exact False.elim p
  | no => exact False.elim p
theorem ss_fo {body : List Stmt} {mi : MI} (hc : X.calm = true) (hi : SI X κ C tg e mi) (hg : SG X κ tg g) (hb : SSs X κ C body ms) (hp : PassesOwn (model X.prog X.w) X.A X.env X.xe := by exact PassesOwn.never)
    (hs : ∀ x, foldedSetIterable e X.env x = pure x := by intro _; rfl) : SS X κ C (.For tg e body [] pos) (sFo g mi ms) :=
  SS.mk' (ps_for hp hc hi.pi hg.pg hb.pss hs) fun φ ev h σ H Dn S r p => by
    obtain ⟨it, h1, e1, p⟩ := PostS.bind p
    refine ⟨φ, ev, h, S, r, it, h1, e1, fun φ1 H1 J st S1 hJ => ?_⟩
    refine ⟨fun j m σ' H' => ∃ φ' e' h', Step φ1 h1 H1 φ' h' H' ∧ Sim X.K κ φ' h' H' ∧ EnvR φ' h'.length H' e' σ' ∧ PostS X.K κ φ' h' H' (forN it g ms m j C e' h') Dn,
      ⟨C.fuel, φ1, ev, h1, Step.refl, S1, r.step S st, p.step st⟩, ?_⟩
    rintro j m σ' H' ⟨φ', e', h', st', S', r', p'⟩
    cases m with
    | zero => exact False.elim p'
    | succ m =>
      obtain ⟨k1, k2⟩ := hJ φ' h' H' st' S' j
      simp only [forN] at p'
      cases ei : it j h' with
      | none => rw [ei] at p'; exact False.elim p'
      | some o =>
        rw [ei] at p'
        cases o with
        | none => exact .inl ⟨k1 ei, p' φ' H' σ' Step.refl S' r'⟩
        | some d =>
          obtain ⟨g1, g2⟩ := k2 d ei
          simp only at p'
          refine .inr ⟨g1, fun σ2 H2 => ∃ φ2 e2 h2, Step φ1 h1 H1 φ2 h2 H2 ∧ Sim X.K κ φ2 h2 H2 ∧ EnvR φ2 h2.length H2 e2 σ2 ∧ PostS X.K κ φ2 h2 H2 (forN it g ms m (j + 1) C e2 h2) Dn, fun σ2 H2 n => ⟨m, Nat.lt_succ_self m, n⟩, fun x H2 y => ?_⟩
          obtain ⟨φ2, st2, S2, q2⟩ := g2 x H2 y
          cases eg : g e' d with
          | none => rw [eg] at p'; exact False.elim p'
          | some e2 =>
            rw [eg] at p'
            refine ⟨φ2, e', h', d, S2, r'.step S' st2, q2, e2, eg, fun σ3 r3 => ⟨φ2, e2, h', S2, r3, ?_⟩⟩
            have p2 := PostS.step p' st2
            have nxt : ∀ (e3 : Ev) (h3 : HP), PostS X.K κ φ2 h' H2 (forN it g ms m (j + 1) C e3 h3) Dn → ∀ φ' H' σ', Step φ2 h' H2 φ' h3 H' → Sim X.K κ φ' h3 H' → EnvR φ' h3.length H' e3 σ' →
                ∃ φ2 e2 h2, Step φ1 h1 H1 φ2 h2 H' ∧ Sim X.K κ φ2 h2 H' ∧ EnvR φ2 h2.length H' e2 σ' ∧ PostS X.K κ φ2 h2 H' (forN it g ms m (j + 1) C e2 h2) Dn := fun e3 h3 q φ4 H4 σ4 st4 S4 r4 =>
              ⟨φ4, e3, h3, (st'.trans st2).trans st4, S4, r4, q.step st4⟩
            exact PostS.loop p2 Step.refl nxt nxt (fun _ _ => rfl) (fun _ _ => rfl)
theorem ss_wh {body : List Stmt} (hc : ST X κ C c ta) (hb : SSs X κ C body ms) (hp : PassesOwn (model X.prog X.w) X.A X.env X.xe := by exact PassesOwn.never) : SS X κ C (.While c body [] pos) (sWh ta ms) :=
  SS.mk' (ps_while hp hc.pt hb.pss) fun φ ev h σ H Dn S r p => by
    refine ⟨fun m σ' H' => ∃ φ' e' h', Step φ h H φ' h' H' ∧ Sim X.K κ φ' h' H' ∧ EnvR φ' h'.length H' e' σ' ∧ PostS X.K κ φ' h' H' (whileN ta ms m C e' h') Dn, ⟨C.fuel, φ, ev, h, Step.refl, S, r, p⟩, ?_⟩
    rintro m σ' H' ⟨φ', e', h', st', S', r', p'⟩
    cases m with
    | zero => exact False.elim p'
    | succ m =>
      obtain ⟨b, h1, e1, p'⟩ := PostS.bind p'
      refine tq_of S' r' e1 fun φ1 H1 st1 S1 r1 => ?_
      cases b with
      | false =>
        rw [if_neg Bool.false_ne_true] at p' ⊢
        exact p' φ1 H1 σ' st1 S1 r1
      | true =>
        rw [if_pos rfl] at p' ⊢
        refine ⟨fun σ2 H2 => ∃ φ2 e2 h2, Step φ h H φ2 h2 H2 ∧ Sim X.K κ φ2 h2 H2 ∧ EnvR φ2 h2.length H2 e2 σ2 ∧ PostS X.K κ φ2 h2 H2 (whileN ta ms m C e2 h2) Dn, fun σ2 H2 n => ⟨m, Nat.lt_succ_self m, n⟩, φ1, e', h1, S1, r1, ?_⟩
        have p2 := PostS.step p' st1
        have nxt : ∀ (e3 : Ev) (h3 : HP), PostS X.K κ φ1 h1 H1 (whileN ta ms m C e3 h3) Dn → ∀ φ' H' σ', Step φ1 h1 H1 φ' h3 H' → Sim X.K κ φ' h3 H' → EnvR φ' h3.length H' e3 σ' →
            ∃ φ2 e2 h2, Step φ h H φ2 h2 H' ∧ Sim X.K κ φ2 h2 H' ∧ EnvR φ2 h2.length H' e2 σ' ∧ PostS X.K κ φ2 h2 H' (whileN ta ms m C e2 h2) Dn := fun e3 h3 q φ4 H4 σ4 st4 S4 r4 =>
          ⟨φ4, e3, h3, (st'.trans st1).trans st4, S4, r4, q.step st4⟩
        exact PostS.loop p2 Step.refl nxt nxt (fun _ _ => rfl) (fun _ _ => rfl)
end

/-! ### a def by its body -/
/-- a def of the text behind the top, with whole numbers as defaults -/
abbrev FunZ (K : PySem.W.Frag) (x qual : Str) (st : Stmt) (dfs : List Int) (f : Addr) (fd : FuncData) : Prop := FunD K x qual (defArgs st) (defBody st) (defScope st) (dfs.map V.int) [] f fd
theorem fnOk_of {P : Program} {w : World} {K : PySem.W.Frag} {mg : Str → Option Value} {base : Heap} {κ : Nat → Addr} {C : Ctx} {np nn : Nat} {body : MS} {x qual : Str} {st : Stmt} {f : Addr} {fd : FuncData} {N ps : List Str} {k : Nat} {dfs : List Int} (F : FunZ K x qual st dfs f fd) (S : FnScope N ps (defScope st))
    (hp : ps.length = np) (hn : N.length = nn)
    (hbody : ∀ (cdv : Value) (A : Around) (outer : List Env) (s : Shared) (H : Hp) (E : XK), Room k (A.deeper (envOfC qual (defScope st) s.heap.objs.size f cdv)) →
      SSs (cxOf CX0 P w K mg base N qual (defScope st) f cdv A outer s H E).nox κ C (defBody st) body) : FnOk P w K mg base CX0 (k + 1) f fd ps (spD K κ ps.length (runFn C ⟨np, nn, body⟩)) := by
  refine FunD.ok F S (fun vs H Q E h => h.1) fun cdv A outer s H vs Q E hr h => ?_
  obtain ⟨hl, φ, h, ds, Sm, r, p⟩ := h
  refine ⟨_, (hbody cdv A outer s H E hr).pss.nox, ?_⟩
  unfold runFn at p
  split at p
  · rename_i hd
    obtain ⟨fl, h1, e1, p⟩ := Post.bind p
    simp only at e1 p hd
    refine ⟨φ, ds.map some ++ List.replicate (nn - ds.length) none, h, Sm, ⟨?_, fun i d e => ?_⟩, ?_⟩
    · show (ds.map some ++ List.replicate (nn - ds.length) none).length = (L2.start N vs).length
      unfold L2.start
      simp only [List.length_append, List.length_map, List.length_replicate]
      rw [r.len, hn]
    · unfold L2.start
      by_cases hi : i < ds.length
      · rw [List.getElem?_append_left (by simpa using hi), List.getElem?_map] at e
        rw [List.getElem?_append_left (by simpa [r.len] using hi), List.getElem?_map]
        cases ed : ds[i]? with
        | none => rw [ed] at e; cases e
        | some d' =>
          rw [ed] at e
          cases e
          obtain ⟨v, ev, q⟩ := r.get ed
          exact ⟨v, by rw [ev]; rfl, q⟩
      · rw [List.getElem?_append_right (by simpa using hi), List.getElem?_replicate] at e
        split at e <;> cases e
    · rw [e1]
      cases fl with
      | nx e2 => exact fun φ' H' σ' st' S' r' => p φ' H' _ st' S' (RV.non_iff.mpr rfl)
      | rt d => exact fun φ' H' v st' S' r' => p φ' H' v st' S' r'
      | bk e2 => exact False.elim p
      | ct e2 => exact False.elim p
  · exact False.elim p
theorem ary_run {C : Ctx} {fn : Fn} : Ary fn.np (runFn C fn) := fun ds h hn => by unfold runFn; rw [if_neg hn]
end Z
/-! Z8: comprehensions. -/
namespace Z
open PySem L2 PyProof.Rows

/-! ### values in a heap that grew elsewhere -/
section
variable {K : PySem.W.Frag} {κ φ φ' φ1 : Nat → Addr} {h h' h1 : HP} {H H' H1 : Hp} {n m : Nat}
mutual
theorem RV.gen (a : ∀ i, i < n → φ' i = φ i) (l : n ≤ m) (t : ∀ p vs, H p = some (.tup vs) → H' p = some (.tup vs)) : ∀ {d : D} {v : V}, RV φ n H d v → RV φ' m H' d v
  | .non, v, q => by simpa only [RV] using q
  | .bl b, v, q => by simpa only [RV] using q
  | .int i, v, q => by simpa only [RV] using q
  | .str x, v, q => by simpa only [RV] using q
  | .ref i, v, q => by
    simp only [RV] at q ⊢
    exact ⟨Nat.lt_of_lt_of_le q.1 l, by rw [a i q.1]; exact q.2⟩
  | .tup ds, v, q => by
    simp only [RV] at q ⊢
    obtain ⟨p, vs, e, e2, r⟩ := q
    exact ⟨p, vs, e, t p vs e2, RVs.gen a l t r⟩
theorem RVs.gen (a : ∀ i, i < n → φ' i = φ i) (l : n ≤ m) (t : ∀ p vs, H p = some (.tup vs) → H' p = some (.tup vs)) : ∀ {ds : List D} {vs : List V}, RVs φ n H ds vs → RVs φ' m H' ds vs
  | [], vs, q => by simpa only [RVs] using q
  | d :: ds, vs, q => by
    simp only [RVs] at q ⊢
    obtain ⟨v, r, e, q1, q2⟩ := q
    exact ⟨v, r, e, RV.gen a l t q1, RVs.gen a l t q2⟩
end
theorem RKs.gen {κ' : Type} (a : ∀ i, i < n → φ' i = φ i) (l : n ≤ m) (t : ∀ p vs, H p = some (.tup vs) → H' p = some (.tup vs)) : ∀ {ds : List (κ' × D)} {vs : List (κ' × V)}, RKs φ n H ds vs → RKs φ' m H' ds vs
  | [], vs, q => by simpa only [RKs] using q
  | (k, d) :: ds, vs, q => by
    simp only [RKs] at q ⊢
    obtain ⟨v, r, e, q1, q2⟩ := q
    exact ⟨v, r, e, RV.gen a l t q1, RKs.gen a l t q2⟩
theorem EnvR.gen (a : ∀ i, i < n → φ' i = φ i) (l : n ≤ m) (t : ∀ p vs, H p = some (.tup vs) → H' p = some (.tup vs)) {e : Ev} {σ : L2.St} (r : EnvR φ n H e σ) : EnvR φ' m H' e σ :=
  ⟨r.len, fun i d q => by obtain ⟨v, e, rv⟩ := r.get i d q; exact ⟨v, e, rv.gen a l t⟩⟩
/-- an object at an address that holds the same -/
theorem RO.gen {b : Addr} {o : O} (a : ∀ i, i < n → φ' i = φ i) (l : n ≤ m) (t : ∀ p vs, H p = some (.tup vs) → H' p = some (.tup vs)) (e : ∀ u, H b = some u → H' b = some u) (q : RO K κ φ n H b o) : RO K κ φ' m H' b o := by
  cases o with
  | lst ds => obtain ⟨vs, e1, r⟩ := q; exact ⟨vs, e _ e1, r.gen a l t⟩
  | fz ds =>
    obtain ⟨vs, e1, r⟩ := q
    refine ⟨vs, ?_, r.gen a l t⟩
    rcases e1 with ⟨o, e1⟩ | e1
    · exact .inl ⟨o, e _ e1⟩
    · exact .inr e1
  | dic ds => obtain ⟨vs, e1, r⟩ := q; exact ⟨vs, e _ e1, r.gen a l t⟩
  | dct ds => obtain ⟨vs, e1, r⟩ := q; exact ⟨vs, e _ e1, r.gen a l t⟩
  | ins c fs => obtain ⟨dx, vs, e1, r⟩ := q; exact ⟨dx, vs, e _ e1, r.gen a l t⟩
/-- a list that the evaluator does not know is changed -/
theorem tup_off {b : Addr} {l : List V} {u : HO} (hb : H b = some (.lst l)) : ∀ p vs, H p = some (.tup vs) → upd H b u p = some (.tup vs) := fun p vs e => by
  by_cases z : p = b
  · subst z; rw [hb] at e; cases e
  · rw [upd_ne z]; exact e
theorem Sim.off (S : Sim K κ φ h H) {b : Addr} {l l' : List V} (hb : H b = some (.lst l)) (no : ¬ Own φ h b) : Sim K κ φ h (upd H b (.lst l')) := by
  refine ⟨S.inj, fun i o hi => ?_⟩
  by_cases m : o.mu = true
  · have ne : φ i ≠ b := fun z => no ⟨i, o, hi, m, z⟩
    exact RO.gen (fun _ _ => rfl) (Nat.le_refl _) (tup_off hb) (fun u e => by rw [upd_ne ne]; exact e) (S.obj i o hi)
  · cases o with
    | fz ds =>
      obtain ⟨vs, e1, r⟩ := S.obj i _ hi
      refine ⟨vs, ?_, r.gen (fun _ _ => rfl) (Nat.le_refl _) (tup_off hb)⟩
      rcases e1 with ⟨o, e1⟩ | e1
      · refine .inl ⟨o, ?_⟩
        by_cases z : φ i = b
        · rw [z, hb] at e1; cases e1
        · rw [upd_ne z]; exact e1
      · exact .inr e1
    | lst _ => exact absurd rfl m
    | dic _ => exact absurd rfl m
    | dct _ => exact absurd rfl m
    | ins _ _ => exact absurd rfl m
/-- .. becomes one of the evaluator's -/
theorem Sim.adopt (S : Sim K κ φ h H) {b : Addr} {ds : List D} {l : List V} (hb : H b = some (.lst l)) (no : ¬ Own φ h b) (r : RVs φ h.length H ds l) : Sim K κ (ext φ h.length b) (h ++ [.lst ds]) H := by
  have a : ∀ i, i < h.length → ext φ h.length b i = φ i := fun i hi => ext_lt hi
  have le : h.length ≤ (h ++ [O.lst ds]).length := by simp
  refine ⟨fun i j oi oj hi hj mi mj e => ?_, fun i o' hi => ?_⟩
  · rcases get_snoc hi with ⟨li, hi2⟩ | ⟨ei, eoi⟩ <;> rcases get_snoc hj with ⟨lj, hj2⟩ | ⟨ej, eoj⟩
    · rw [ext_lt li, ext_lt lj] at e
      exact S.inj i j oi oj hi2 hj2 mi mj e
    · rw [ext_lt li, ej, ext_at] at e
      exact absurd ⟨i, oi, hi2, mi, e⟩ no
    · rw [ext_lt lj, ei, ext_at] at e
      exact absurd ⟨j, oj, hj2, mj, e.symm⟩ no
    · rw [ei, ej]
  · rcases get_snoc hi with ⟨li, hi⟩ | ⟨rfl, rfl⟩
    · rw [ext_lt li]
      exact RO.gen a le (fun _ _ e => e) (fun _ e => e) (S.obj i o' hi)
    · rw [ext_at]
      exact ⟨l, hb, r.gen a le fun _ _ e => e⟩
end
/-! ### slots forgotten -/
theorem wipe_get (σ : L2.St) : ∀ (vs : List Nat) (j : Nat), (wipe σ vs)[j]? = if j ∈ vs then (σ[j]?).map (fun _ => none) else σ[j]?
  | [], j => by simp [wipe]
  | v :: vs, j => by
    show ((wipe σ vs).set v none)[j]? = _
    rw [List.getElem?_set, wipe_get σ vs j, wipe_length]
    by_cases hv : v = j
    · subst hv
      by_cases hl : v < σ.length
      · simp [hl]
      · simp [hl]
    · have : ¬ j = v := fun z => hv z.symm
      simp [hv, this]
theorem wipe_set {σ : L2.St} {vs : List Nat} {i : Nat} {x : Option V} (hi : i ∈ vs) : wipe (σ.set i x) vs = wipe σ vs := by
  apply List.ext_getElem?
  intro j
  rw [wipe_get, wipe_get]
  by_cases hj : j ∈ vs
  · rw [if_pos hj, if_pos hj, List.getElem?_set]
    by_cases e : i = j
    · subst e
      by_cases hl : i < σ.length
      · simp [hl]
      · simp [hl]
    · simp [e]
  · rw [if_neg hj, if_neg hj, List.getElem?_set_ne (fun e => hj (by rw [← e]; exact hi))]
theorem wipe_wipe {σ : L2.St} {vs : List Nat} : wipe (wipe σ vs) vs = wipe σ vs := by
  apply List.ext_getElem?
  intro j
  rw [wipe_get, wipe_get]
  by_cases hj : j ∈ vs
  · rw [if_pos hj, if_pos hj]
    cases σ[j]? <;> rfl
  · rw [if_neg hj, if_neg hj]
/-- a target of a block's own names -/
def GW (K : PySem.W.Frag) (vs : List Nat) (tg : TG) (g : Tg) : Prop := ∀ (φ : Nat → Addr) (n : Nat) (H : Hp) (e e' : Ev) (σ : L2.St) (d : D) (v : V) (Q : L2.St → Hp → Prop), EnvR φ n H e σ → RV φ n H d v → g e d = some e' →
  (∀ σ', EnvR φ n H e' σ' → wipe σ' vs = wipe σ vs → Q σ' H) → tg v σ H Q
theorem gw_name {K : PySem.W.Frag} {vs : List Nat} {i : Nat} (hi : i ∈ vs) : GW K vs (gName i) (gN i) := by
  intro φ n H e e' σ d v Q r q ge k
  unfold gN at ge
  cases ge
  exact k _ (r.set q i) (wipe_set hi)
theorem gsN_w {φ : Nat → Addr} {H : Hp} {n : Nat} {vs : List Nat} {Q : L2.St → Hp → Prop} : ∀ {is : List Nat} {ds : List D} {us : List V} {e : Ev} {σ : L2.St}, (∀ i ∈ is, i ∈ vs) → ds.length = is.length → EnvR φ n H e σ → RVs φ n H ds us →
    (∀ σ', EnvR φ n H ((is.zip ds).foldl (fun e p => e.set p.1 (some p.2)) e) σ' → wipe σ' vs = wipe σ vs → Q σ' H) → gsN is us σ H Q
  | [], [], us, e, σ, _, _, r, q, k => by
    simp only [RVs] at q
    exact ⟨q, k σ r rfl⟩
  | i :: is, d :: ds, us, e, σ, hv, hl, r, q, k => by
    simp only [RVs] at q
    obtain ⟨v, vr, rfl, q1, q2⟩ := q
    exact ⟨v, vr, rfl, gsN_w (is := is) (ds := ds) (fun j hj => hv j (List.mem_cons_of_mem _ hj)) (by simpa using hl) (r.set q1 i) q2 fun σ' r' w => k σ' r' (w.trans (wipe_set (hv i (List.mem_cons_self ..))))⟩
  | [], _ :: _, _, _, _, _, hl, _, _, _ => by simp at hl
  | _ :: _, [], _, _, _, _, hl, _, _, _ => by simp at hl
theorem gw_tup {K : PySem.W.Frag} {vs is : List Nat} {n : Nat} (hi : ∀ i ∈ is, i ∈ vs) (hn : is.length = n) : GW K vs (gTup K n (gsN is)) (gT is) := by
  intro φ m H e e' σ d v Q r q ge k
  unfold gT at ge
  cases d with
  | tup ds =>
    simp only at ge
    split at ge
    · rename_i hl
      cases ge
      rw [RV.tup_iff] at q
      obtain ⟨p, us, rfl, hp, q⟩ := q
      exact ⟨p, us, rfl, SqT.of hp, by rw [q.len, hl, hn], gsN_w hi hl r q k⟩
    · cases ge
  | non => cases ge
  | bl _ => cases ge
  | int _ => cases ge
  | str _ => cases ge
  | ref _ => cases ge
/-! ### the core -/
section
variable {K : PySem.W.Frag} {κ φ φ1 : Nat → Addr} {h h1 hF : HP} {H H1 : Hp} {C : Ctx}
theorem lc_go {e : Ev} {σ : L2.St} {it : Itr} {J : It} {g : Tg} {tg : TG} {vs : List Nat} {mt : MT} {me : ME} {xs : List D} {Qd : Hp → Prop} {Dl : Addr} (S1 : Sim K κ φ1 h1 H1) (r1 : EnvR φ1 h1.length H1 e σ) (hJ : ItR K κ φ1 h1 H1 it J) (hg : GW K vs tg g)
    (hc : cmpN it g mt me (wipeE e vs) C C.fuel 0 [] h1 = .ok xs hF) (hD : H1 Dl = none)
    (kQ : ∀ φ' H', Step φ1 h1 H1 φ' (hF ++ [.lst xs]) H' → Sim K κ φ' (hF ++ [.lst xs]) H' → φ' hF.length = Dl → Qd H') :
    ∃ W : Nat → Nat → Hp → Prop, (∃ m, W 0 m (upd H1 Dl (.lst []))) ∧ ∀ i m H, W i m H →
      (J.stop i H ∧ Qd H) ∨ (J.go i H ∧ ∃ Nx : Hp → Prop, (∀ H', Nx H' → ∃ m', m' < m ∧ W (i + 1) m' H') ∧ ∀ x H', J.yld i H x H' → tg x (wipe σ vs) H' fun σ2 H2 => wipe σ2 vs = wipe σ vs ∧ tQ K κ C mt σ2 H2 fun b H3 =>
        if b = true then tD K κ C me σ2 H3 fun y H4 => ∃ acc, H4 Dl = some (.lst acc) ∧ acc.length < sizeLine ∧ Nx (upd H4 Dl (.lst (acc ++ [y]))) else Nx H3) := by
  let W : Nat → Nat → Hp → Prop := fun i m H => ∃ φ h acc l, Step φ1 h1 H1 φ h H ∧ Sim K κ φ h H ∧ H Dl = some (.lst l) ∧ RVs φ h.length H acc l ∧ EnvR φ h.length H (wipeE e vs) (wipe σ vs) ∧ ¬ Own φ h Dl ∧ cmpN it g mt me (wipeE e vs) C m i acc h = .ok xs hF
  refine ⟨W, ⟨C.fuel, φ1, h1, [], [], step_temp S1 hD, S1.temp hD, upd_same, RVs.nil_iff.mpr rfl, ?_, fun o => ?_, hc⟩, ?_⟩
  · exact (r1.step S1 (step_temp S1 hD)).wipe vs
  · obtain ⟨u, e', _⟩ := S1.own o
    rw [hD] at e'; cases e'
  rintro i m H ⟨φ, h, acc, l, st, S, hl, ra, re, no, hcm⟩
  have neD : ∀ b, H1 b ≠ none → b ≠ Dl := fun b hb z => hb (z ▸ hD)
  cases m with
  | zero => cases hcm
  | succ m =>
    obtain ⟨k1, k2⟩ := hJ φ h H st S i
    simp only [cmpN] at hcm
    cases ei : it i h with
    | none => rw [ei] at hcm; cases hcm
    | some o =>
      rw [ei] at hcm
      cases o with
      | none =>
        simp only [R.ok.injEq] at hcm
        obtain ⟨rfl, rfl⟩ := hcm
        refine .inl ⟨k1 ei, kQ (ext φ h.length Dl) H ⟨?_, fun j hj => ?_, fun b hb ob => ?_⟩ (S.adopt hl no ra) ext_at⟩
        · have := st.len; simp; omega
        · rw [ext_lt (Nat.lt_of_lt_of_le hj st.len)]; exact st.agree j hj
        · obtain ⟨e1, o1⟩ := st.frame b hb ob
          refine ⟨e1, fun z => ?_⟩
          obtain ⟨j, oj, hj, mj, rfl⟩ := z
          rcases get_snoc hj with ⟨lj, hj⟩ | ⟨rfl, rfl⟩
          · exact o1 ⟨j, oj, hj, mj, (ext_lt lj).symm⟩
          · exact neD _ hb ext_at
      | some d =>
        simp only at hcm
        obtain ⟨g1, g2⟩ := k2 d ei
        refine .inr ⟨g1, W (i + 1) m, fun H' w => ⟨m, Nat.lt_succ_self m, w⟩, fun x H2 y => ?_⟩
        obtain ⟨φ2, st2, S2, q2⟩ := g2 x H2 y
        cases eg : g (wipeE e vs) d with
        | none => rw [eg] at hcm; cases hcm
        | some e2 =>
          rw [eg] at hcm
          simp only at hcm
          have hl2 := st2.frame Dl (by rw [hl]; simp) no
          refine hg φ2 h.length H2 _ e2 _ d x _ (re.step S st2) q2 eg fun σ3 r3 w3 => ⟨w3.trans wipe_wipe, ?_⟩
          cases et : mt C e2 h with
          | no => rw [et] at hcm; cases hcm
          | ex _ _ _ => rw [et] at hcm; cases hcm
          | ok b h3 =>
            rw [et] at hcm
            simp only [R.bind_ok] at hcm
            refine tq_of S2 r3 et fun φ3 H3 st3 S3 r4 => ?_
            have hl3 := st3.frame Dl (by rw [hl2.1, hl]; simp) hl2.2
            have rw3 := (re.step S st2).step S2 st3
            cases b with
            | false =>
              rw [if_neg Bool.false_ne_true] at hcm ⊢
              exact ⟨φ3, h3, acc, l, (st.trans st2).trans st3, S3, hl3.1.trans (hl2.1.trans hl), (ra.step S st2).step S2 st3, rw3, hl3.2, hcm⟩
            | true =>
              rw [if_pos rfl] at hcm ⊢
              cases ea : me C e2 h3 with
              | no => rw [ea] at hcm; cases hcm
              | ex _ _ _ => rw [ea] at hcm; cases hcm
              | ok yv h4 =>
                rw [ea] at hcm
                simp only [R.bind_ok] at hcm
                refine td_of S3 r4 ea fun φ4 H4 v st4 S4 r5 q4 => ?_
                have hl4 := st4.frame Dl (by rw [hl3.1, hl2.1, hl]; simp) hl3.2
                have hD4 : H4 Dl = some (.lst l) := hl4.1.trans (hl3.1.trans (hl2.1.trans hl))
                have ra4 := ((ra.step S st2).step S2 st3).step S3 st4
                split at hcm
                · rename_i hz
                  have tf := tup_off (u := .lst (l ++ [v])) hD4
                  refine ⟨l, hD4, by rw [ra4.len]; exact hz, φ4, h4, acc ++ [yv], l ++ [v], ⟨?_, fun j hj => ?_, fun b hb ob => ?_⟩, S4.off hD4 hl4.2, upd_same, ?_, ?_, hl4.2, hcm⟩
                  · exact Nat.le_trans st.len (Nat.le_trans st2.len (Nat.le_trans st3.len st4.len))
                  · exact ((st.trans st2).trans (st3.trans st4)).agree j hj
                  · obtain ⟨e1, o1⟩ := ((st.trans st2).trans (st3.trans st4)).frame b hb ob
                    exact ⟨by rw [upd_ne (neD b hb)]; exact e1, o1⟩
                  · exact (RVs.append ra4 (RVs.one q4)).gen (fun _ _ => rfl) (Nat.le_refl _) tf
                  · exact (rw3.step S3 st4).gen (fun _ _ => rfl) (Nat.le_refl _) tf
                · cases hcm
end
structure STs (X : Cx) (κ : Nat → Addr) (C : Ctx) (ifs : List Expr) (m : MT) : Prop where
  pts : PTs X ifs (tQ X.K κ C m)
section
variable {X : Cx} {κ : Nat → Addr} {C : Ctx} {c elt iter : Expr} {ifs : List Expr} {me : ME} {mt : MT} {mi : MI} {g : Tg} {scope : Scope} {own : List (Str × Nat)} {vs is : List Nat} {pos px spos py : Pos}
theorem sts_nil : STs X κ C [] tY := ⟨⟨fun pins s σ H Q I ⟨φ, ev, h, S, r, p⟩ => pts_nil.run pins s σ H Q I (p φ H Step.refl S)⟩⟩
theorem sts_one (h : ST X κ C c mt) : STs X κ C [c] mt := ⟨pts_one h.pt⟩
theorem lc_read {tg : TG} {e : Ev} {σ : L2.St} {φ : Nat → Addr} {h : HP} {H : Hp} {Q : VK} (hg : GW X.K vs tg g) (S : Sim X.K κ φ h H) (r : EnvR φ h.length H e σ) (p : Post X.K κ φ h H (eLc vs g mi mt me C e h) Q) : tLc (tI X.K κ C mi) tg (tQ X.K κ C mt) (tD X.K κ C me) vs σ H Q := by
  obtain ⟨it, h1, e1, p⟩ := Post.bind p
  obtain ⟨xs, hF, e2, p⟩ := Post.bind p
  refine ⟨φ, e, h, S, r, it, h1, e1, fun φ1 H1 J st S1 hJ Dl hD => ?_⟩
  refine lc_go S1 (r.step S st) hJ hg e2 hD fun φ' H' st' S' ed => ?_
  exact p φ' H' (.ref Dl) (st.trans st') S' (RV.ref_iff.mpr ⟨by simp, by rw [ed]⟩)
theorem se_lc {i : Nat} {x : Str} (hc : X.calm = true) (hN : X.N.Nodup) (hi : SI X κ C (.Name x px) iter mi) (ok : BlkOk X.N X.env.scope scope own)
    (hg : ∀ (s : Shared) (H : Hp) (A : Addr) (cl : List (Str × Addr)) (fp : List Addr), PG (X.blk s H scope (compEnvC scope cl A X.env) fp) (.Name x px) (gName i))
    (ht : ∀ (s : Shared) (H : Hp) (A : Addr) (cl : List (Str × Addr)) (fp : List Addr), STs (X.blk s H scope (compEnvC scope cl A X.env) fp) κ C ifs mt)
    (he : ∀ (s : Shared) (H : Hp) (A : Addr) (cl : List (Str × Addr)) (fp : List Addr), SE (X.blk s H scope (compEnvC scope cl A X.env) fp) κ C elt me)
    (hvs : own.map (·.2) = vs := by rfl) (hv : i ∈ vs := by decide) (hs : ∀ x, foldedSetIterable iter X.env x = pure x := by intro _; rfl) : SE X κ C (.ListComp elt [⟨.Name x px, iter, ifs, 0⟩] scope pos) (eLc vs (gN i) mi mt me) := by
  subst hvs
  exact SE.mk' (pe_lc hc hN hi.pi ok hg (fun s H A cl fp => (ht s H A cl fp).pts) (fun s H A cl fp => (he s H A cl fp).pe) hs) fun φ ev h σ H Q S r p => lc_read (gw_name hv) S r p
theorem se_lct {es : List Expr} {kk : Nat} (hc : X.calm = true) (hN : X.N.Nodup) (hi : SI X κ C (.Tuple es kk px) iter mi) (ok : BlkOk X.N X.env.scope scope own)
    (hg : ∀ (s : Shared) (H : Hp) (A : Addr) (cl : List (Str × Addr)) (fp : List Addr), SGs (X.blk s H scope (compEnvC scope cl A X.env) fp) es is)
    (ht : ∀ (s : Shared) (H : Hp) (A : Addr) (cl : List (Str × Addr)) (fp : List Addr), STs (X.blk s H scope (compEnvC scope cl A X.env) fp) κ C ifs mt)
    (he : ∀ (s : Shared) (H : Hp) (A : Addr) (cl : List (Str × Addr)) (fp : List Addr), SE (X.blk s H scope (compEnvC scope cl A X.env) fp) κ C elt me)
    (hvs : own.map (·.2) = vs := by rfl) (hv : ∀ i ∈ is, i ∈ vs := by decide) (hs : ∀ x, foldedSetIterable iter X.env x = pure x := by intro _; rfl)
    (hn : ∀ env : Env, (assignEach es env).length = is.length := by intro _; rfl) (hst : ∀ env : Env, (assignEach es env).findIdx? (·.1) = none := by intro _; rfl) : SE X κ C (.ListComp elt [⟨.Tuple es kk px, iter, ifs, 0⟩] scope pos) (eLc vs (gT is) mi mt me) := by
  subst hvs
  exact SE.mk' (pe_lc hc hN hi.pi ok (fun s H A cl fp => pg_tup (X := X.blk s H scope (compEnvC scope cl A X.env) fp) hc (hg s H A cl fp).pgs (hn _) (hst _)) (fun s H A cl fp => (ht s H A cl fp).pts) (fun s H A cl fp => (he s H A cl fp).pe) hs) fun φ ev h σ H Q S r p => lc_read (gw_tup hv rfl) S r p
/-- y = [..] -/
theorem ss_lc {j i : Nat} {x y : Str} (hc : X.calm = true) (hsw : swapsWith (.ListComp elt [⟨.Name x px, iter, ifs, 0⟩] scope pos) (some (.Name y py)) spos.line X.env = pure true) (hN : X.N.Nodup) (hi : SI X κ C (.Name x px) iter mi) (ok : BlkOk X.N X.env.scope scope own)
    (hg : ∀ (s : Shared) (H : Hp) (A : Addr) (cl : List (Str × Addr)) (fp : List Addr), PG (X.blk s H scope (compEnvC scope cl A X.env) fp) (.Name x px) (gName i))
    (ht : ∀ (s : Shared) (H : Hp) (A : Addr) (cl : List (Str × Addr)) (fp : List Addr), STs (X.blk s H scope (compEnvC scope cl A X.env) fp) κ C ifs mt)
    (he : ∀ (s : Shared) (H : Hp) (A : Addr) (cl : List (Str × Addr)) (fp : List Addr), SE (X.blk s H scope (compEnvC scope cl A X.env) fp) κ C elt me)
    (hy : X.N[j]? = some y := by rfl) (hyl : X.env.scope.names.lookup y = some .local := by rfl)
    (hvs : own.map (·.2) = vs := by rfl) (hv : i ∈ vs := by decide) (hs : ∀ x, foldedSetIterable iter X.env x = pure x := by intro _; rfl) : SS X κ C (.Assign [.Name y py] (.ListComp elt [⟨.Name x px, iter, ifs, 0⟩] scope pos) spos) (sAs (gN j) (eLc vs (gN i) mi mt me)) := by
  subst hvs
  refine SS.mk' (ps_setLc (te := tD X.K κ C me) (tt := tQ X.K κ C mt) hc hN hy hyl hsw hi.pi ok hg (fun s H A cl fp => (ht s H A cl fp).pts) (fun s H A cl fp => (he s H A cl fp).pe) hs) fun φ ev h σ H Dn S r p => ?_
  obtain ⟨d, h1, e1, p⟩ := PostS.bind p
  refine lc_read (Q := fun x H1 => gName j x σ H1 Dn.nx) (gw_name hv) S r ?_
  rw [e1]
  exact fun φ1 H1 v st S1 q1 => p φ1 H1 _ st S1 ((r.step S st).set q1 j)
theorem ss_lct {j : Nat} {y : Str} {es : List Expr} {kk : Nat} (hc : X.calm = true) (hsw : swapsWith (.ListComp elt [⟨.Tuple es kk px, iter, ifs, 0⟩] scope pos) (some (.Name y py)) spos.line X.env = pure true) (hN : X.N.Nodup) (hi : SI X κ C (.Tuple es kk px) iter mi) (ok : BlkOk X.N X.env.scope scope own)
    (hg : ∀ (s : Shared) (H : Hp) (A : Addr) (cl : List (Str × Addr)) (fp : List Addr), SGs (X.blk s H scope (compEnvC scope cl A X.env) fp) es is)
    (ht : ∀ (s : Shared) (H : Hp) (A : Addr) (cl : List (Str × Addr)) (fp : List Addr), STs (X.blk s H scope (compEnvC scope cl A X.env) fp) κ C ifs mt)
    (he : ∀ (s : Shared) (H : Hp) (A : Addr) (cl : List (Str × Addr)) (fp : List Addr), SE (X.blk s H scope (compEnvC scope cl A X.env) fp) κ C elt me)
    (hy : X.N[j]? = some y := by rfl) (hyl : X.env.scope.names.lookup y = some .local := by rfl)
    (hvs : own.map (·.2) = vs := by rfl) (hv : ∀ i ∈ is, i ∈ vs := by decide) (hs : ∀ x, foldedSetIterable iter X.env x = pure x := by intro _; rfl)
    (hn : ∀ env : Env, (assignEach es env).length = is.length := by intro _; rfl) (hst : ∀ env : Env, (assignEach es env).findIdx? (·.1) = none := by intro _; rfl) : SS X κ C (.Assign [.Name y py] (.ListComp elt [⟨.Tuple es kk px, iter, ifs, 0⟩] scope pos) spos) (sAs (gN j) (eLc vs (gT is) mi mt me)) := by
  subst hvs
  refine SS.mk' (ps_setLc (g := gTup X.K is.length (gsN is)) (te := tD X.K κ C me) (tt := tQ X.K κ C mt) hc hN hy hyl hsw hi.pi ok (fun s H A cl fp => pg_tup (X := X.blk s H scope (compEnvC scope cl A X.env) fp) hc (hg s H A cl fp).pgs (hn _) (hst _)) (fun s H A cl fp => (ht s H A cl fp).pts) (fun s H A cl fp => (he s H A cl fp).pe) hs) fun φ ev h σ H Dn S r p => ?_
  obtain ⟨d, h1, e1, p⟩ := PostS.bind p
  refine lc_read (Q := fun x H1 => gName j x σ H1 Dn.nx) (gw_tup hv rfl) S r ?_
  rw [e1]
  exact fun φ1 H1 v st S1 q1 => p φ1 H1 _ st S1 ((r.step S st).set q1 j)
end
end Z
/-! Z8m: methods of lists and texts, list(), tuple(), sorted(), chains of comparisons. -/
namespace Z
open PySem L2 PyProof.Rows

/-- o.m(..), o of a built-in type (looked at ahead of the arguments) -/
def eBk (ok : D → HP → Bool) (f : D → List D → HP → R D) (o : ME) (as : MA) : ME := fun C e h => (o C e h).bind fun x h => if ok x h = true then (as C e h).bind fun xs h => f x xs h else .no
def okL : D → HP → Bool := fun x h => match x with
  | .ref i => (isL i h).isSome
  | _ => false
def mApp : D → List D → HP → R D := fun x ys h => match x, ys with
  | .ref i, [y] => match h[i]? with
    | some (.lst xs) => if xs.length < sizeLine then .ok .non (h.set i (.lst (xs ++ [y]))) else .no
    | _ => .no
  | _, _ => .no
def mExt : D → List D → HP → R D := fun x ys h => match x, ys with
  | .ref i, [.ref j] => match h[i]?, h[j]? with
    | some (.lst xs), some (.lst zs) => if xs.length + zs.length ≤ sizeLine then .ok .non (h.set i (.lst (xs ++ zs))) else .no
    | _, _ => .no
  | _, _ => .no
/-- the first place, among flat things -/
def idxD (y : D) : List D → Nat → Option Nat
  | [], _ => none
  | z :: r, j => match eqFlat z y with
    | some true => some j
    | some false => idxD y r (j + 1)
    | none => none
def mIdx : D → List D → HP → R D := fun x ys h => match x, ys with
  | .ref i, [y] => match isL i h with
    | some ds => if flatD y = true ∧ ds.all flatD = true then match idxD y ds 0 with
        | some j => .ok (.int (j : Nat)) h
        | none => .no
      else .no
    | none => .no
  | _, _ => .no
def bTup : List D → HP → R D := fun xs h => match xs with
  | [.ref i] => match isL i h with
    | some ds => .ok (.tup ds) h
    | none => .no
  | [.tup ds] => .ok (.tup ds) h
  | _ => .no
def srtI (ns : List Int) : List Int := ns.mergeSort (fun a b => decide (a ≤ b))
def bSrt : List D → HP → R D := fun xs h => match xs with
  | [.ref i] => match isL i h with
    | some ds => match intsD ds with
      | some ns => .ok (.ref h.length) (h ++ [.lst ((srtI ns).map D.int)])
      | none => .no
    | none => .no
  | _ => .no
section
variable {K : PySem.W.Frag} {κ φ : Nat → Addr} {h : HP} {H : Hp}
theorem okL_ok {φ : Nat → Addr} {h : HP} {H : Hp} {d : D} {v : V} (S : Sim K κ φ h H) (r : RV φ h.length H d v) (e : okL d h = true) : tyV K "list" v H := by
  unfold okL at e
  split at e
  · rw [RV.ref_iff] at r
    obtain ⟨_, rfl⟩ := r
    obtain ⟨ds, e2⟩ := Option.isSome_iff_exists.mp e
    obtain ⟨vs, hs, _⟩ := S.isL e2
    exact .inl ⟨rfl, vs, hs⟩
  · cases e
/-- an object of the evaluator's is changed: what is to be shown of the result -/
theorem Post.setL {Q : VK} {d : D} {v : V} {i : Nat} {o : O} {ds : List D} {vs : List V} (p : Post K κ φ h H (.ok d (h.set i (.lst ds))) Q) (S : Sim K κ φ h H) (hi : h[i]? = some o) (m : o.mu = true) (r : RVs φ h.length H ds vs) (q : RV φ h.length H d v) : Q v (upd H (φ i) (.lst vs)) := by
  have st := step_set S (o' := .lst ds) (u := .lst vs) hi m rfl
  exact p _ _ _ st (S.set hi m rfl fun st => ⟨vs, upd_same, r.step S st⟩) (q.step S st)
theorem idxD_of {y : D} {u : V} (ry : RV φ h.length H y u) : ∀ {ds : List D} {vs : List V} {j k : Nat}, RVs φ h.length H ds vs → idxD y ds j = some k → ∃ i z, k = j + i ∧ vs[i]? = some z ∧ eqV z u = true ∧ ∀ m z', m < i → vs[m]? = some z' → eqV z' u = false
  | [], vs, j, k, r, e => by cases e
  | d :: ds, vs, j, k, r, e => by
    simp only [RVs] at r
    obtain ⟨v, r2, rfl, q1, q2⟩ := r
    unfold idxD at e
    split at e
    · rename_i e1
      cases e
      exact ⟨0, v, rfl, rfl, flat_eq e1 q1 ry, fun m z' hm => absurd hm (Nat.not_lt_zero m)⟩
    · rename_i e1
      obtain ⟨i, z, rfl, e2, e3, e4⟩ := idxD_of ry q2 e
      refine ⟨i + 1, z, by omega, by simpa using e2, e3, fun m z' hm hz => ?_⟩
      cases m with
      | zero =>
        simp only [List.getElem?_cons_zero, Option.some.injEq] at hz
        subst hz
        exact flat_eq e1 q1 ry
      | succ m => exact e4 m z' (by omega) (by simpa using hz)
    · cases e
theorem flats_of : ∀ {ds : List D} {vs : List V}, ds.all flatD = true → RVs φ h.length H ds vs → vs.all flatV = true
  | [], vs, _, r => by simp only [RVs] at r; subst r; rfl
  | d :: ds, vs, f, r => by
    simp only [RVs] at r
    obtain ⟨v, r2, rfl, q1, q2⟩ := r
    simp only [List.all_cons, Bool.and_eq_true] at f ⊢
    exact ⟨flat_of f.1 q1, flats_of f.2 q2⟩
end
/-- what a method's reading asks, by the evaluator -/
def MetD (X : Cx) (κ : Nat → Addr) (r : V → List V → Hp → VK → Prop) (f : D → List D → HP → R D) : Prop := ∀ (φ : Nat → Addr) (h : HP) (H : Hp) (x : D) (xs : List D) (v : V) (vs : List V) (Q : VK), Sim X.K κ φ h H → RV φ h.length H x v → RVs φ h.length H xs vs → Post X.K κ φ h H (f x xs h) Q → r v vs H Q
section
variable {X : Cx} {κ : Nat → Addr} {C : Ctx} {a b c e o : Expr} {es : List Expr} {ma mb mc mo : ME} {ta tb : MT} {mas : MA} {pos apos cpos p2 : Pos}
theorem md_append : MetD X κ rAppend mApp := by
  intro φ h H x xs v vs Q S rx rs p
  unfold mApp at p
  split at p
  · (replace rs := rs.one_inv); obtain ⟨u, rfl, ry⟩ := rs
    rw [RV.ref_iff] at rx
    obtain ⟨hi, rfl⟩ := rx
    split at p
    · rename_i ds e
      split at p
      · rename_i hz
        obtain ⟨ws, e2, r⟩ := S.lst e
        exact ⟨_, ws, u, rfl, rfl, e2, by rw [r.len]; exact hz, p.setL S e rfl (r.append (RVs.one ry)) (RV.non_iff.mpr rfl)⟩
      · exact False.elim p
    · exact False.elim p
  · exact False.elim p
theorem md_extend : MetD X κ rExtend mExt := by
  intro φ h H x xs v vs Q S rx rs p
  unfold mExt at p
  split at p
  · (replace rs := rs.one_inv); obtain ⟨u, rfl, ry⟩ := rs
    rw [RV.ref_iff] at rx ry
    obtain ⟨hi, rfl⟩ := rx
    obtain ⟨hj, rfl⟩ := ry
    split at p
    · rename_i ds zs e ez
      split at p
      · rename_i hz
        obtain ⟨ws, e2, r⟩ := S.lst e
        obtain ⟨ys, e3, r2⟩ := S.lst ez
        exact ⟨_, _, ws, ys, rfl, rfl, e2, e3, by rw [r.len, r2.len]; exact hz, p.setL S e rfl (r.append r2) (RV.non_iff.mpr rfl)⟩
      · exact False.elim p
    · exact False.elim p
  · exact False.elim p
theorem md_index : MetD X κ (rIndex X.K) mIdx := by
  intro φ h H x xs v vs Q S rx rs p
  unfold mIdx at p
  split at p
  · (replace rs := rs.one_inv); obtain ⟨u, rfl, ry⟩ := rs
    rw [RV.ref_iff] at rx
    obtain ⟨hi, rfl⟩ := rx
    split at p
    · rename_i ds e
      split at p
      · rename_i hf
        split at p
        · rename_i j ej
          obtain ⟨ws, e2, r⟩ := S.isL e
          obtain ⟨i, z, hk, e3, e4, e5⟩ := idxD_of ry r ej
          have : j = i := by omega
          subst this
          exact ⟨_, ws, u, j, z, rfl, rfl, e2, flat_of hf.1 ry, flats_of hf.2 r, e3, e4, e5, p.of0 S (RV.int_iff.mpr rfl)⟩
        · exact False.elim p
      · exact False.elim p
    · exact False.elim p
  · exact False.elim p
theorem se_bk {T id : String} {name : Str} {r : V → List V → Hp → VK → Prop} {ok : D → HP → Bool} {f : D → List D → HP → R D} (pa : PlainAttrs T) (slot : Slot T name id) (hty : typeOf (.builtin id) = pure (.type "method_descriptor")) (hm : MtR X id r)
    (hk : ∀ {φ : Nat → Addr} {h : HP} {H : Hp} {d : D} {v : V}, Sim X.K κ φ h H → RV φ h.length H d v → ok d h = true → tyV X.K T v H) (M : MetD X κ r f) (ho : SE X κ C o mo) (ha : SA X κ C (e :: es) mas)
    (hbase : attributeBase o name X.env (eval o X.env) = eval o X.env := by rfl)
    (hfew : ((backTo cpos (starEach (e :: es) X.env)).all (fun x => !x.1) && (backToKw cpos (keywordEach [] X.env)).all (fun x => x.1.isSome)
      && decide ((e :: es).length + ([] : List Keyword).length + (if ([] : List Keyword).isEmpty then 0 else 1) < 30)) = true := by rfl)
    (hline : (apos.endLine == cpos.line) = true := by rfl) (hs : starEach (e :: es) X.env = (false, eval e X.env) :: starEach es X.env := by rfl) (hplain : (backTo cpos (starEach es X.env)).any (·.1) = false := by rfl) :
    SE X κ C (.Call (.Attribute o name apos) (e :: es) [] cpos) (eBk ok f mo mas) :=
  SE.mk' (pe_bm pa slot hty hm ho.pe ha.pa hbase hfew hline hs hplain) fun φ ev h σ H Q S r p => by
    obtain ⟨d, h1, e1, p⟩ := Post.bind p
    split at p
    · rename_i hok
      obtain ⟨ds, h2, e2, p⟩ := Post.bind p
      exact td_of S r e1 fun φ1 H1 v st S1 r1 q1 => ⟨hk S1 q1 hok, ta_of S1 r1 e2 fun φ2 H2 vs st2 S2 r2 q2 => M φ2 h2 H2 d ds v vs Q S2 (q1.step S1 st2) q2 (p.step (st.trans st2))⟩
    · exact False.elim p
theorem cd_tup : CallR X (.type "tuple") (rB X.K κ bTup) := by
  intro pins s σ H xs us Q I r ⟨φ, h, ds, S, q, p⟩
  unfold bTup at p
  split at p
  · (replace q := q.one_inv); obtain ⟨v, rfl, q⟩ := q
    rw [RV.ref_iff] at q
    obtain ⟨hi, rfl⟩ := q
    split at p
    · rename_i ds e
      obtain ⟨vs, hs, r2⟩ := S.isL e
      exact call_tuple_of pins s σ H _ us Q I r ⟨_, vs, rfl, .inl ⟨hs, fun l hl => p.newT S hl r2⟩⟩
    · exact False.elim p
  · (replace q := q.one_inv); obtain ⟨v, rfl, q⟩ := q
    have q' := q
    rw [RV.tup_iff] at q
    obtain ⟨a, vs, rfl, ha, r2⟩ := q
    exact call_tuple_of pins s σ H _ us Q I r ⟨_, vs, rfl, .inr ⟨SqT.of ha, p.of0 S q'⟩⟩
  · exact False.elim p
theorem srt_uniq {ns ms : List Int} (hp : ms.Perm ns) (hs : ms.Pairwise (· ≤ ·)) : ms = srtI ns := by
  have p2 : (srtI ns).Perm ns := List.mergeSort_perm ns _
  have s2 : (srtI ns).Pairwise (· ≤ ·) := by
    have := List.pairwise_mergeSort (le := fun a b : Int => decide (a ≤ b)) (fun a b c h1 h2 => by simp at *; omega) (fun a b => by simp; omega) ns
    exact this.imp fun h => by simpa using h
  exact (hp.trans p2.symm).eq_of_pairwise (le := (· ≤ ·)) (fun a b _ _ h1 h2 => Int.le_antisymm h1 h2) hs s2
theorem cd_srt : CallR X (.builtin "sorted") (rB X.K κ bSrt) := by
  intro pins s σ H xs us Q I r ⟨φ, h, ds, S, q, p⟩
  unfold bSrt at p
  split at p
  · (replace q := q.one_inv); obtain ⟨v, rfl, q⟩ := q
    rw [RV.ref_iff] at q
    obtain ⟨hi, rfl⟩ := q
    split at p
    · rename_i ds e
      split at p
      · rename_i ns en
        refine cr_sortedI pins s σ H _ us Q I r ⟨_, ns, rfl, S.intsL e en, fun ms l hp hs hl => ?_⟩
        rw [srt_uniq hp hs]
        exact p.newL S hl RVs.of_ints
      · exact False.elim p
    · exact False.elim p
  · exact False.elim p
end
end Z
/-! Z8d: dicts: displays, dict(), get, sorted(). -/
namespace Z
open PySem L2 PyProof.Rows

def eDiK : ME := fun _ _ h => .ok (.ref h.length) (h ++ [.dic []])
def eDiT : ME := fun _ _ h => .ok (.ref h.length) (h ++ [.dct []])
abbrev MP := Ctx → Ev → HP → R (List (D × D))
def keyP : D × D → Option (Key × D) := fun p => (keyD p.1).map fun k => (k, p.2)
def mergeD (kvs more : List (Key × D)) : List (Key × D) := more.foldl (fun acc kv => putKD acc kv.1 kv.2) kvs
def pairD : D → Option (Key × D)
  | .tup [x, y] => keyP (x, y)
  | _ => none
/-- dict(..) of a list of pairs -/
def bDct : List D → HP → R D := fun xs h => match xs with
  | [.ref i] => match isL i h with
    | some ds => match seqO (ds.map pairD) with
      | some kvs => .ok (.ref h.length) (h ++ [.dic (mergeD [] kvs)])
      | none => .no
    | none => .no
  | _ => .no
def dicAt (x : D) (h : HP) : Option (List (Key × D)) := match x with
  | .ref i => match h[i]? with
    | some (.dic kvs) => some kvs
    | _ => none
  | _ => none
/-- o.get(a) -/
def eGet1 (o : ME) (as : MA) : ME := fun C e h => (o C e h).bind fun x h => match dicAt x h with
  | some _ => (as C e h).bind fun ys h => match ys, dicAt x h with
    | [y], some kvs => match keyD y with
      | some k => .ok ((valD kvs k).getD .non) h
      | none => .no
    | _, _ => .no
  | none => .no
def intK : Key → Option Int
  | .inl i => some i
  | .inr _ => none
/-- sorted(..): a list of whole numbers, a dict's keys -/
def bSr2 : List D → HP → R D := fun xs h => match xs with
  | [.ref i] => match h[i]? with
    | some (.dic kvs) => match seqO (kvs.map fun kv => intK kv.1) with
      | some ks => if ks.length < 64 then .ok (.ref h.length) (h ++ [.lst ((srtI ks).map D.int)]) else .no
      | none => .no
    | _ => bSrt xs h
  | _ => .no
section
variable {K : PySem.W.Frag} {κ φ : Nat → Addr} {h : HP} {H : Hp}
/-- a new object is laid -/
theorem Post.newO {o : O} {u : HO} {Q : VK} {p : Addr} (q : Post K κ φ h H (.ok (.ref h.length) (h ++ [o])) Q) (S : Sim K κ φ h H) (hp : H p = none)
    (r : ∀ st : Step φ h H (ext φ h.length p) (h ++ [o]) (upd H p u), RO K κ (ext φ h.length p) (h ++ [o]).length (upd H p u) p o) : Q (.ref p) (upd H p u) := by
  have st := step_new S (o := o) (u := u) hp
  exact q _ _ _ st (S.new hp r) (RV.ref_iff.mpr ⟨by simp, by rw [ext_at]⟩)
theorem RKs.nil' {κ' : Type} {n : Nat} : RKs φ n H ([] : List (κ' × D)) [] := by simp [RKs]
theorem RKs.cons' {κ' : Type} {n : Nat} {k : κ'} {d : D} {v : V} {ds : List (κ' × D)} {vs : List (κ' × V)} (q : RV φ n H d v) (r : RKs φ n H ds vs) : RKs φ n H ((k, d) :: ds) ((k, v) :: vs) := by
  simp only [RKs]; exact ⟨v, vs, rfl, q, r⟩
theorem RKs.merge {n : Nat} : ∀ {more : List (Key × D)} {ms : List (Key × V)} {kvs : List (Key × D)} {us : List (Key × V)}, RKs φ n H more ms → RKs φ n H kvs us → RKs φ n H (mergeD kvs more) (mergeK us ms)
  | [], ms, kvs, us, r, q => by simp only [RKs] at r; subst r; exact q
  | (k, d) :: more, ms, kvs, us, r, q => by
    simp only [RKs] at r
    obtain ⟨v, r', rfl, rv, r⟩ := r
    show RKs φ n H (mergeD (putKD kvs k d) more) (mergeK (putK us k v) r')
    exact RKs.merge (more := more) r (q.put k rv)
/-- pairs of values -/
def RPs (φ : Nat → Addr) (n : Nat) (H : Hp) : List (D × D) → List (V × V) → Prop
  | [], vs => vs = []
  | (x, y) :: ds, vs => ∃ u v r, vs = (u, v) :: r ∧ RV φ n H x u ∧ RV φ n H y v ∧ RPs φ n H ds r
theorem RPs.step {φ' : Nat → Addr} {h' : HP} {H' : Hp} (S : Sim K κ φ h H) (st : Step φ h H φ' h' H') : ∀ {ds : List (D × D)} {vs : List (V × V)}, RPs φ h.length H ds vs → RPs φ' h'.length H' ds vs
  | [], vs, q => by simpa only [RPs] using q
  | (x, y) :: ds, vs, q => by
    simp only [RPs] at q ⊢
    obtain ⟨u, v, r, rfl, q1, q2, q3⟩ := q
    exact ⟨u, v, r, rfl, q1.step S st, q2.step S st, RPs.step S st q3⟩
theorem RPs.keys {n : Nat} : ∀ {ds : List (D × D)} {vs : List (V × V)} {kvs : List (Key × D)}, RPs φ n H ds vs → seqO (ds.map keyP) = some kvs → ∃ us : List (Key × V), vs = us.map (fun kv => (kV kv.1, kv.2)) ∧ RKs φ n H kvs us
  | [], vs, kvs, r, e => by
    simp only [RPs] at r
    simp only [List.map_nil, seqO, Option.some.injEq] at e
    subst r e
    exact ⟨[], rfl, RKs.nil'⟩
  | (x, y) :: ds, vs, kvs, r, e => by
    simp only [RPs] at r
    obtain ⟨u, v, r', rfl, q1, q2, q3⟩ := r
    simp only [List.map_cons] at e
    cases ek : keyD x with
    | none => simp [keyP, ek, seqO] at e
    | some k =>
      have e : (seqO (ds.map keyP)).map (fun l => (k, y) :: l) = some kvs := by
        have : keyP (x, y) = some (k, y) := by simp [keyP, ek]
        rw [this] at e
        exact e
      rw [Option.map_eq_some_iff] at e
      obtain ⟨l, el, rfl⟩ := e
      obtain ⟨us, e2, r2⟩ := RPs.keys q3 el
      refine ⟨(k, v) :: us, ?_, RKs.cons' q2 r2⟩
      rw [key_of' ek q1, e2]
      rfl
end
section
variable {X : Cx} {κ : Nat → Addr} {C : Ctx} {a b c e o : Expr} {es : List Expr} {ma mb mc mo : ME} {ta tb : MT} {mas : MA} {pos apos cpos p2 : Pos} {keys : List (Option Expr)} {values : List Expr} {mp : MP}
theorem se_diK : SE X κ C (.Dict [] [] pos) eDiK :=
  SE.mk' pe_dnewK fun φ ev h σ H Q S r p => fun q hq => Post.newO p S hq fun st => ⟨[], upd_same, RKs.nil'⟩
theorem se_diT : SE X κ C (.Dict [] [] pos) eDiT :=
  SE.mk' pe_dnewT fun φ ev h σ H Q S r p => fun q hq => Post.newO p S hq fun st => ⟨[], upd_same, RKs.nil'⟩
theorem pairs_of {φ : Nat → Addr} {n : Nat} {H : Hp} : ∀ {ds : List D} {vs : List V} {kvs : List (Key × D)}, RVs φ n H ds vs → seqO (ds.map pairD) = some kvs → ∃ (ps : List Addr) (us : List (Key × V)), vs = ps.map V.ref ∧ Paired (fun p kv => SqT X.K H p [kV kv.1, kv.2]) ps us ∧ RKs φ n H kvs us
  | [], vs, kvs, r, e => by
    simp only [RVs] at r
    simp only [List.map_nil, seqO, Option.some.injEq] at e
    subst r e
    exact ⟨[], [], rfl, .nil, RKs.nil'⟩
  | d :: ds, vs, kvs, r, e => by
    simp only [RVs] at r
    obtain ⟨v, r', rfl, q1, q2⟩ := r
    simp only [List.map_cons] at e
    cases ep : pairD d with
    | none => simp [ep, seqO] at e
    | some kv =>
      have e : (seqO (ds.map pairD)).map (fun l => kv :: l) = some kvs := by
        rw [ep] at e
        exact e
      rw [Option.map_eq_some_iff] at e
      obtain ⟨l, el, rfl⟩ := e
      obtain ⟨ps, us, rfl, e2, r2⟩ := pairs_of q2 el
      unfold pairD at ep
      split at ep
      · rename_i x y
        unfold keyP at ep
        rw [Option.map_eq_some_iff] at ep
        obtain ⟨k, ek, rfl⟩ := ep
        rw [RV.tup_iff] at q1
        obtain ⟨p, ws, rfl, hp, q1⟩ := q1
        (replace q1 := q1.two_inv); obtain ⟨u, w, rfl, qx, qy⟩ := q1
        rw [key_of' ek qx] at hp
        exact ⟨p :: ps, (k, w) :: us, rfl, .cons (SqT.of hp) e2, RKs.cons' qy r2⟩
      · cases ep
theorem cd_dct (hc : X.calm = true) : CallR X (.type "dict") (rB X.K κ bDct) := by
  intro pins s σ H xs us Q I r ⟨φ, h, ds, S, q, p⟩
  unfold bDct at p
  split at p
  · (replace q := q.one_inv); obtain ⟨v, rfl, q⟩ := q
    rw [RV.ref_iff] at q
    obtain ⟨hi, rfl⟩ := q
    split at p
    · rename_i ds e
      split at p
      · rename_i kvs ek
        obtain ⟨vs, hs, r2⟩ := S.isL e
        obtain ⟨ps, ms, rfl, e2, r3⟩ := pairs_of (X := X) r2 ek
        refine call_dictP hc pins s σ H _ us Q I r ⟨_, ps, ms, rfl, hs, e2, fun l hl => Post.newO p S hl fun st => ?_⟩
        exact ⟨_, upd_same, (RKs.merge r3 RKs.nil').step S st⟩
      · exact False.elim p
    · exact False.elim p
  · exact False.elim p
theorem dicAt_of {φ : Nat → Addr} {h : HP} {H : Hp} {x : D} {v : V} {kvs : List (Key × D)} (S : Sim X.K κ φ h H) (rx : RV φ h.length H x v) (e : dicAt x h = some kvs) : ∃ a us, v = .ref a ∧ H a = some (.dK us) ∧ RKs φ h.length H kvs us := by
  unfold dicAt at e
  split at e
  · split at e
    · rename_i e2
      cases e
      rw [RV.ref_iff] at rx
      obtain ⟨us, h1, h2⟩ := S.dic e2
      exact ⟨_, us, rx.2, h1, h2⟩
    · cases e
  · cases e
theorem se_get1 (hu : X.A.units + 1 < cLine) (ho : SE X κ C o mo) (ha : SE X κ C a ma) (m : M1 X o "get" apos a cpos := by exact ⟨rfl, rfl, rfl, rfl⟩) : SE X κ C (.Call (.Attribute o "get" apos) [a] [] cpos) (eGet1 mo (aC ma aN)) :=
  SE.mk' (pe_dget1 hu ho.pe ha.pe m) fun φ ev h σ H Q S r p => by
    obtain ⟨dx, h1, e1, p⟩ := Post.bind p
    split at p
    · rename_i kv0 ed
      obtain ⟨ys, h2, e2, p⟩ := Post.bind p
      unfold aC at e2
      cases ea : ma C ev h1 with
      | no => rw [ea] at e2; cases e2
      | ex _ _ _ => rw [ea] at e2; cases e2
      | ok dy h3 =>
        rw [ea] at e2
        simp only [R.bind_ok, aN, R.ok.injEq] at e2
        obtain ⟨rfl, rfl⟩ := e2
        refine td_of S r e1 fun φ1 H1 v st S1 r1 q1 => ?_
        obtain ⟨b, us, rfl, hb, _⟩ := dicAt_of S1 q1 ed
        refine ⟨b, rfl, .inl ⟨us, .inl hb⟩, td_of S1 r1 ea fun φ2 H2 w st2 S2 r2 q2 => ?_⟩
        split at p
        · rename_i dy' kvs e3 e4
          cases e3
          split at p
          · rename_i k ek
            obtain ⟨b', ms, e5, hb2, rk⟩ := dicAt_of S2 (q1.step S1 st2) e4
            cases e5
            refine ⟨valV ms k, .inl ⟨ms, k, .inl hb2, key_of' ek q2, rfl⟩, ?_⟩
            have rv := rk.val k
            refine (p.step (st.trans st2)).of0 S2 ?_
            cases e6 : valD kvs k with
            | none => rw [e6] at rv; rw [rv]; exact RV.non_iff.mpr rfl
            | some d =>
              rw [e6] at rv
              obtain ⟨z, e7, rz⟩ := rv
              rw [e7]; exact rz
          · exact False.elim p
        · exact False.elim p
    · exact False.elim p
theorem cd_sr2 (hc : X.calm = true) : CallR X (.builtin "sorted") (rB X.K κ bSr2) := by
  intro pins s σ H xs us Q I r ⟨φ, h, ds, S, q, p⟩
  have q0 := q
  unfold bSr2 at p
  split at p
  · (replace q := q.one_inv); obtain ⟨v, rfl, q⟩ := q
    rw [RV.ref_iff] at q
    obtain ⟨hi, rfl⟩ := q
    split at p
    · rename_i kvs e
      split at p
      · rename_i ks ek
        split at p
        · rename_i hz
          obtain ⟨ms, hm, rk⟩ := S.dic e
          have hk : ∀ {kvs : List (Key × D)} {ms : List (Key × V)} {ks : List Int}, RKs φ h.length H kvs ms → seqO (kvs.map fun kv => intK kv.1) = some ks → ms.map (·.1) = ks.map Sum.inl := by
            intro kvs
            induction kvs with
            | nil =>
              intro ms ks r e
              simp only [RKs] at r
              simp only [List.map_nil, seqO, Option.some.injEq] at e
              subst r e
              rfl
            | cons kv kvs ih =>
              intro ms ks r e
              obtain ⟨k, d⟩ := kv
              simp only [RKs] at r
              obtain ⟨v, r', rfl, q1, q2⟩ := r
              cases k with
              | inr x => simp [intK, seqO] at e
              | inl i =>
                have e : (seqO (kvs.map fun kv => intK kv.1)).map (fun l => i :: l) = some ks := e
                rw [Option.map_eq_some_iff] at e
                obtain ⟨l, el, rfl⟩ := e
                simp only [List.map_cons, ih q2 el]
          refine call_sortedDI hc pins s σ H _ us Q I r ⟨_, ms, ks, rfl, .inl hm, hk rk ek, hz, fun ys l hp hs hl => ?_⟩
          rw [srt_uniq hp hs]
          exact p.newL S hl RVs.of_ints
        · exact False.elim p
      · exact False.elim p
    · exact cd_srt pins s σ H _ us Q I r ⟨φ, h, _, S, q0, p⟩
  · exact False.elim p
end
end Z
/-! Z8s: sorted(set(..)) of whole numbers, list(range(..)), a range with a step, reversed(range(..)). -/
namespace Z
open PySem PySem.Spec L2 PyProof.Rows
section
variable {P : Program} {w : World} {A : Around} {E : Value → Shared → Prop} {z : Shared}
/-- the empty set that is laid first -/
abbrev mt0 (w : World) : Obj := { cls := .type "set", dict := none, data := .set #[] 0 (.fresh 0 0 (!w.params.followText "set-order")) }
abbrev withSet (w : World) (z : Shared) : Shared := { z with heap := z.heap.push (mt0 w) }
/-- set(xs), xs a list of whole numbers -/
theorem setL_ints {l : Addr} {vs : Array Value} (ns : List Int) {Q : Value → Shared → Prop} (hd : A.handled = none) (il : z.heap.IsList l vs) (ia : IntsAre vs.toList ns) (room : ns.length + 1 < scanBound)
    (fin : ∀ (hp : Heap) (tk c : Nat), SetR w hp z.heap.objs.size (fun j => decide (j ∈ ns)) c → (∀ b o, z.heap.get? b = some o → hp.get? b = some o) → Q (.ref z.heap.objs.size) { z with heap := hp, toks := tk }) :
    wpAny (model P w) A (call (.type "set") [.ref l]) Q E z := by
  have len : vs.size = ns.length := by rw [← Array.length_toList]; exact ia.length
  obtain ⟨_, _, mro⟩ := F.called_set.mro
  have f1 := F.called_set.made
  have f2 := F.called_set.sub
  have f3 := F.called_set.notType
  have f4 := F.called_set.canCreate
  have f5 := F.typeCall_set_1 (.ref l)
  refine wpAny_call (codeAny_of_tree (wpAny_pure ⟨Code.quiet_builtin _ (by decide +kernel), codeAny_builtin F.entry_type_call ?_⟩))
  rw [Around.under_plain (weight_type_call_type "set" [.ref l] []) rfl]
  repeat' first | assumption | wp_step
  have hnew : (withSet w z).heap.get? z.heap.objs.size = some (mt0 w) := Heap.get?_push_size _ rfl
  refine codeAny_mono (code_set_led1 (.ref l) (E := E) (Q₁ := fun v z1 => v = .ref z.heap.objs.size ∧ z1 = withSet w z) ⟨rfl, rfl⟩) fun r z1 hr => ?_
  rcases r with e | fl
  · exact hr
  cases fl with
  | ret v =>
    obtain ⟨rfl, rfl⟩ := hr
    have ty : Shared.TypeIs (withSet w z) (.ref z.heap.objs.size) "set" := ⟨_, hnew, rfl⟩
    have i1 := F.called_set.init.lookup
    have i2 := F.called_set.init.bind (.ref z.heap.objs.size)
    repeat' first | assumption | wp_step
    refine codeAny_mono (codeAny_call_builtin (R := wants (fun r z2 => r = .none ∧ ∃ hp tk c, z2 = { z with heap := hp, toks := tk } ∧ SetR w hp z.heap.objs.size (fun j => decide (j ∈ ns)) c ∧ (∀ b o, z.heap.get? b = some o → hp.get? b = some o)) E)
      F.called_set.init.plain F.entry_set_init (check_set_init_1 ty ?_)) fun r2 z2 hr2 => ?_
    · obtain ⟨⟨oc, od, dt, os⟩, ho, hc, n, hdt⟩ := il
      simp only at hc hdt
      subst hc hdt
      have ho1 : (withSet w z).heap.get? l = some { cls := .type "list", dict := od, data := .seq vs n, slots := os } := Heap.get?_push_of_some _ ho
      have s1 := F.sub_list_set
      have s2 := F.sub_list_frozenset
      have s3 : (Value.type "list" == Value.type "dict") = false := by decide
      have il1 : (withSet w z).heap.IsList l vs := ⟨_, ho1, rfl, n, rfl⟩
      unfold Builtin.«set.__init__» noKeywords Builtin.Frozenset.updateFrom
      generalize gi : pyIter = gi
      wp_walk
      subst gi
      refine wpAny_pyIter_list il1 (wpAny_bind (wpAny_runValue ?_))
      have lz : l < z.heap.objs.size := Heap.lt_size ho
      have hd3 : A.in1.in1.in1.handled = none := by simp [hd]
      have sz : (withSet w z).heap.objs.size = z.heap.objs.size + 1 := Heap.size_push ..
      have ne1 : l ≠ (withSet w z).heap.objs.size := by rw [sz]; exact Nat.ne_of_lt (Nat.lt_succ_of_lt lz)
      have nin : z.heap.objs.size ∉ [(withSet w z).heap.objs.size, l] := by
        rw [sz]
        simp only [List.mem_cons, List.not_mem_nil, or_false, not_or]
        exact ⟨Nat.ne_of_lt (Nat.lt_succ_self _), fun e => Nat.ne_of_lt lz e.symm⟩
      have at_ : ∀ (i : Nat) (v : Value), vs[i]? = some v → ∃ k t, ns[i]? = some k ∧ v = .int k t := fun i v hv => by
        have hi : i < ns.length := by rw [← len]; exact (Array.getElem?_eq_some_iff.mp hv).1
        obtain ⟨t, e⟩ := IntsAre.int_at ia i v (by rw [Array.getElem?_toList]; exact hv)
        exact ⟨ns[i], t, List.getElem?_eq_getElem hi, by rw [e, List.getD_eq_getElem?_getD, List.getElem?_eq_getElem hi]; rfl⟩
      refine set_update_ints ((Walks.list hd3 _ l ne1 vs).toS) z.heap.objs.size nin ns len room at_ (vs.size - 0) 0 _ (by omega) (Nat.zero_le _) ⟨⟨_, Heap.get?_push_size _ rfl, rfl, rfl⟩, il1.push _⟩ ⟨0, Nat.le_refl 0, setR_new_at (Heap.get?_push_of_some _ hnew)⟩ ?_
      rintro ⟨hp, g2, d2, t2, o2⟩ c mv _ R2
      have e1 : g2 = z.gens := mv.gens
      have e2 : d2 = z.drawn := mv.drawn
      have e3 : o2 = z.os := mv.os
      subst e1 e2 e3
      refine wpAny_pure (wpAny_pure ⟨rfl, hp, t2, c, rfl, R2, fun b o e => ?_⟩)
      have lb : b < z.heap.objs.size := Heap.lt_size e
      refine mv.heap b o ?_ (Heap.get?_push_of_some _ (Heap.get?_push_of_some _ e))
      simp only [List.mem_cons, List.not_mem_nil, or_false, not_or]
      exact ⟨Nat.ne_of_lt lb, fun e => Nat.ne_of_lt (Nat.lt_succ_of_lt lb) (e.trans sz)⟩
    · rcases r2 with e | fl2
      · exact hr2
      cases fl2 with
      | ret r =>
        obtain ⟨rfl, hp, tk, c, rfl, R2, k2⟩ := hr2
        repeat' first | assumption | wp_step
        exact fin hp tk c R2 k2
      | _ => exact hr2.elim
  | _ => exact hr.elim
end
/-! ### sorted(set(..)) -/
/-- each once -/
def uniq : List Int → List Int
  | [] => []
  | x :: xs => if x ∈ xs then uniq xs else x :: uniq xs
theorem uniq_mem : ∀ {xs : List Int} {k : Int}, k ∈ uniq xs ↔ k ∈ xs
  | [], k => Iff.rfl
  | x :: xs, k => by
    unfold uniq
    split
    · rename_i h
      rw [uniq_mem, List.mem_cons]
      exact ⟨.inr, fun q => q.elim (fun e => e ▸ h) id⟩
    · rw [List.mem_cons, List.mem_cons, uniq_mem]
theorem uniq_nd : ∀ xs : List Int, (uniq xs).Nodup
  | [] => List.nodup_nil
  | x :: xs => by
    unfold uniq
    split
    · exact uniq_nd xs
    · rename_i h
      exact List.nodup_cons.mpr ⟨fun q => h (uniq_mem.mp q), uniq_nd xs⟩
def bSrS : D → HP → R D := fun x h => match x with
  | .ref i => match isL i h with
    | some ds => match intsD ds with
      | some ns => if ns.length + 1 < scanBound ∧ (uniq ns).length < 64 then .ok (.ref h.length) (h ++ [.lst ((srtI (uniq ns)).map D.int)]) else .no
      | none => .no
    | none => .no
  | _ => .no
def rSetL (K : PySem.W.Frag) (w : World) : List V → Hp → VK → Prop := fun xs H Q => ∃ (l : Addr) (ns : List Int), xs = [V.ref l] ∧ SqL K H l (ns.map V.int) ∧ ns.length + 1 < scanBound ∧
  ∀ a, H a = none → Q (.ref a) (upd H a (SetO w a (fun j => decide (j ∈ ns)) (uniq ns).length))
section
variable {X : Cx}
theorem cr_setL (hc : X.calm = true) : CallR X (.type "set") (rSetL X.K X.w) := by
  intro pins z σ H xs us Q I r ⟨l, ns, e, hl, room, q⟩
  subst e
  rw [Vals.ref1 r]
  obtain ⟨its, rv, pl, _⟩ := I.list hl
  have hn : H z.heap.objs.size = none := I.hok.fresh (Nat.le_refl _)
  refine setL_ints (P := X.prog) (w := X.w) ns (I.ok.hd hc) pl.isList (by simpa using ints_of_vals rv) room fun hp tk c R k => ?_
  have hcn : c = (uniq ns).length := by
    obtain ⟨o, es, ep, t, ho, hex, hd, g, nd, hm, hb, hf, hnn, rest⟩ := R
    have pm : (es.toList.map keyOf).Perm (uniq ns) := (List.perm_ext_iff_of_nodup nd (uniq_nd ns)).mpr fun k => by
      rw [uniq_mem, ← hm k, decide_eq_true_iff]
    have := pm.length_eq
    rw [List.length_map, Array.length_toList] at this
    omega
  subst hcn
  exact ⟨.ref z.heap.objs.size, upd H z.heap.objs.size (SetO X.w z.heap.objs.size (fun j => decide (j ∈ ns)) (uniq ns).length), I.laid (t' := tk) k (Nat.le_refl _) (setO_new R), rfl, q _ hn⟩
variable {κ : Nat → Addr} {C : Ctx} {a : Expr} {ma : ME} {p p2 q pos : Pos}
theorem se_srs (hc : X.calm = true) (hm : X.mg "sorted" = none) (hm2 : X.mg "set" = none) (ha : SE X κ C a ma) (hg : Gl X "sorted" := by rfl) (hg2 : Gl X "set" := by rfl) (he : starEach [a] X.env = (false, eval a X.env) :: starEach [] X.env := by rfl)
    (he2 : starEach [.Call (.Name "set" p2) [a] [] q] X.env = (false, eval (.Call (.Name "set" p2) [a] [] q) X.env) :: starEach [] X.env := by rfl) : SE X κ C (.Call (.Name "sorted" p) [.Call (.Name "set" p2) [a] [] q] [] pos) (eUn bSrS ma) := by
  have P1 := pe_callTy (pos := q) (p := p2) (cr_setL hc) hg2 hm2 boot_set (pa_cons ha.pe pa_nil he) (by decide) (by decide) he rfl
  have P2 := pe_callB (pos := pos) (p := p) (cr_sortedSet hc) hg hm boot_sorted (pa_cons P1 pa_nil he2) (by decide) (by decide) he2 rfl
  refine SE.mk' P2 fun φ ev h σ H Q S r p => ?_
  obtain ⟨dx, h1, e1, p⟩ := Post.bind p
  refine td_of S r e1 fun φ1 H1 v st S1 r1 q1 => ?_
  unfold bSrS at p
  split at p
  · rename_i i
    rw [RV.ref_iff] at q1
    obtain ⟨hi, rfl⟩ := q1
    split at p
    · rename_i ds el
      split at p
      · rename_i ns en
        split at p
        · rename_i hz
          obtain ⟨vs, hs, rr⟩ := S1.isL el
          have ed := intsD_of en
          subst ed
          have ev' := rr.ints
          subst ev'
          refine ⟨_, ns, rfl, hs, hz.1, fun a ha => ⟨a, _, _, rfl, upd_same, hz.2, fun ms l hp hm hl hn => ?_⟩⟩
          have e2 : ms = srtI (uniq ns) := by
            refine srt_uniq ((List.perm_ext_iff_of_nodup (hp.imp fun h => by omega) (uniq_nd ns)).mpr fun k => ?_) (hp.imp fun h => by omega)
            rw [hm k, uniq_mem, decide_eq_true_iff]
          subst e2
          exact (p.step (st.trans (step_temp S1 ha))).newL (S1.temp ha) hn RVs.of_ints
        · exact False.elim p
      · exact False.elim p
    · exact False.elim p
  · exact False.elim p
/-! ### text.index -/
end
end Z
/-! Z9: levels, the end of a law. -/
namespace Z
open PySem L2 PyProof.Rows
theorem boot_len_ : bootBuiltins "len" = some (.builtin "len") := by decide +kernel
theorem boot_abs_ : bootBuiltins "abs" = some (.builtin "abs") := by decide +kernel
theorem boot_max_ : bootBuiltins "max" = some (.builtin "max") := by decide +kernel
theorem boot_min_ : bootBuiltins "min" = some (.builtin "min") := by decide +kernel
theorem boot_sum_ : bootBuiltins "sum" = some (.builtin "sum") := by decide +kernel
theorem boot_divmod_ : bootBuiltins "divmod" = some (.builtin "divmod") := by decide +kernel
theorem boot_sorted_ : bootBuiltins "sorted" = some (.builtin "sorted") := by decide +kernel
theorem boot_tuple_ : bootBuiltins "tuple" = some (.type "tuple") := by decide +kernel
theorem boot_dict_ : bootBuiltins "dict" = some (.type "dict") := by decide +kernel
theorem hu65 {k : Nat} {A : Around} (hr : Room k A) : A.units + 65 < cLine := by have := hr.un; omega
section
variable {P : Program} {w : World} {K : PySem.W.Frag} {mg : Str → Option Value} {base : Heap} {κ : Nat → Addr} {T : Tbl}
/-- what stands of a def behind the top -/
structure FunM (K : PySem.W.Frag) (mg : Str → Option Value) (nm : Str) (st : Stmt) (ps : List Str) (dfs : List Int) : Prop where
  ex : ∃ (fa : Addr) (fd : FuncData) (us : List Value), FunZ K nm nm st dfs fa fd ∧ mg nm = some (.ref fa) ∧ Binds K fd ps [] ∧ Binds K fd ps us ∧ Vals (dfs.map V.int) us
theorem fnF_zero {nm : Str} {st : Stmt} {ps : List Str} {dfs : List Int} {f : Nat} (F : FunM K mg nm st ps dfs) : FnF P w K mg base κ 0 nm dfs ((ctx T 0).call f) := by
  obtain ⟨fa, fd, us, F, hm, hb, hb2, hv⟩ := F.ex
  refine ⟨fa, fd, ps, us, hm, F.kp, hb, hb2, hv, fun _ _ _ => rfl, ⟨fun vs H Q E h => h.1, fun A outer s H args us vs Q E hr he hb hv hs => ?_⟩⟩
  obtain ⟨_, φ, h, ds, _, _, p⟩ := hs
  exact False.elim p
theorem fnF_succ {nm : Str} {st : Stmt} {ps : List Str} {dfs : List Int} {f n : Nat} {fn : Fn} (F : FunM K mg nm st ps dfs) (hT : T.fn f = some fn) (hp : ps.length = fn.np)
    (ok : ∀ (fa : Addr) (fd : FuncData), FunZ K nm nm st dfs fa fd → FnOk P w K mg base CX0 (n + 1) fa fd ps (spD K κ ps.length (runFn (ctx T n) fn))) : FnF P w K mg base κ (n + 1) nm dfs ((ctx T (n + 1)).call f) := by
  obtain ⟨fa, fd, us, F, hm, hb, hb2, hv⟩ := F.ex
  have e : (ctx T (n + 1)).call f = runFn (ctx T n) fn := by
    funext ds h
    show (match T.fn f with | some fn => runFn (ctx T n) fn ds h | none => R.no) = _
    rw [hT]
  rw [e]
  exact ⟨fa, fd, ps, us, hm, F.kp, hb, hb2, hv, by rw [hp]; exact ary_run, ok fa fd F⟩
theorem mem1 {P : Nat → Prop} {a : Nat} (x : P a) : ∀ c ∈ [a], P c := fun c h => by rw [List.mem_singleton.mp h]; exact x
theorem memc {P : Nat → Prop} {a : Nat} {as : List Nat} (x : P a) (y : ∀ c ∈ as, P c) : ∀ c ∈ a :: as, P c := fun c h => by
  rcases List.mem_cons.mp h with q | q
  · rw [q]; exact x
  · exact y c q
/-- what stands of a method of a class behind the top -/
structure MetM (K : PySem.W.Frag) (κ : Nat → Addr) (c : Nat) (nm qual : Str) (st : Stmt) (ps : List Str) : Prop where
  ex : ∃ (fa : Addr) (fd : FuncData), FunZ K nm qual st [] fa fd ∧ Cls K (κ c) ∧ Meth K (κ c) nm fa ∧ Binds K fd ps []
structure MakM (K : PySem.W.Frag) (mg : Str → Option Value) (κ : Nat → Addr) (c : Nat) (x qual : Str) (st : Stmt) (ps : List Str) : Prop where
  ex : ∃ (fa : Addr) (fd : FuncData), FunZ K "__init__" qual st [] fa fd ∧ mg x = some (.ref (κ c)) ∧ Mk K (κ c) fa ∧ Binds K fd ps []
structure MkA (P : Program) (w : World) (K : PySem.W.Frag) (mg : Str → Option Value) (base : Heap) (κ : Nat → Addr) (T : Tbl) (n c : Nat) (x : Str) : Prop where
  ex : n = 0 ∨ ∃ k, n = k + 1 ∧ MkF P w K mg base κ k c x ((ctx T k).meth c 0)
theorem meF_zero {nm qual : Str} {st : Stmt} {ps : List Str} {c m : Nat} (F : MetM K κ c nm qual st ps) : MeF P w K mg base κ 0 c nm ((ctx T 0).meth c m) := by
  obtain ⟨fa, fd, F, hc, hm, hb⟩ := F.ex
  refine ⟨fa, fd, ps, hc, hm, hb, fun _ _ _ => rfl, ⟨fun vs H Q E h => h.1, fun A outer s H args us vs Q E hr he hb hv hs => ?_⟩⟩
  obtain ⟨_, φ, h, ds, _, _, p⟩ := hs
  exact False.elim p
theorem mkF_zero {x qual : Str} {st : Stmt} {ps : List Str} {c : Nat} (F : MakM K mg κ c x qual st ps) : MkF P w K mg base κ 0 c x ((ctx T 0).meth c 0) := by
  obtain ⟨fa, fd, F, hm, hk, hb⟩ := F.ex
  refine ⟨fa, fd, ps, hm, hk, hb, fun _ _ _ => rfl, ⟨fun vs H Q E h => h.1, fun A outer s H args us vs Q E hr he hb hv hs => ?_⟩⟩
  obtain ⟨_, φ, h, ds, _, _, p⟩ := hs
  exact False.elim p
theorem meth_eq {c m n : Nat} {fn : Fn} (hT : T.me c m = some fn) : (ctx T (n + 1)).meth c m = runFn (ctx T n) fn := by
  funext ds h
  show (match T.me c m with | some fn => runFn (ctx T n) fn ds h | none => R.no) = _
  rw [hT]
theorem meF_succ {nm qual : Str} {st : Stmt} {ps : List Str} {c m n : Nat} {fn : Fn} (F : MetM K κ c nm qual st ps) (hT : T.me c m = some fn) (hp : ps.length = fn.np)
    (ok : ∀ (fa : Addr) (fd : FuncData), FunZ K nm qual st [] fa fd → FnOk P w K mg base CX0 (n + 1) fa fd ps (spD K κ ps.length (runFn (ctx T n) fn))) : MeF P w K mg base κ (n + 1) c nm ((ctx T (n + 1)).meth c m) := by
  obtain ⟨fa, fd, F, hc, hm, hb⟩ := F.ex
  rw [meth_eq hT]
  exact ⟨fa, fd, ps, hc, hm, hb, by rw [hp]; exact ary_run, ok fa fd F⟩
theorem mkF_succ {x qual : Str} {st : Stmt} {ps : List Str} {c n : Nat} {fn : Fn} (F : MakM K mg κ c x qual st ps) (hT : T.me c 0 = some fn) (hp : ps.length = fn.np)
    (ok : ∀ (fa : Addr) (fd : FuncData), FunZ K "__init__" qual st [] fa fd → FnOk P w K mg base CX0 (n + 1) fa fd ps (spD K κ ps.length (runFn (ctx T n) fn))) : MkF P w K mg base κ (n + 1) c x ((ctx T (n + 1)).meth c 0) := by
  obtain ⟨fa, fd, F, hm, hk, hb⟩ := F.ex
  rw [meth_eq hT]
  exact ⟨fa, fd, ps, hm, hk, hb, by rw [hp]; exact ary_run, ok fa fd F⟩
theorem se_makeA {X : Cx} {e : Expr} {es : List Expr} {mas : MA} {pos p2 : Pos} {x : Str} {c n : Nat} (F : MkA X.prog X.w X.K X.mg X.base κ T n c x) (hr : Room n X.A) (ha : SA X κ (ctx T n) (e :: es) mas) (hg : Gl X x := by rfl) (hdb : (x == ("__debug__" : Str)) = false := by decide)
    (he : starEach (e :: es) X.env = (false, eval e X.env) :: starEach es X.env := by rfl) (hpl : (backTo pos (starEach es X.env)).any (·.1) = false := by rfl) : SE X κ (ctx T n) (.Call (.Name x p2) (e :: es) [] pos) (eMake c mas) := by
  rcases F.ex with e0 | ⟨k, e1, F1⟩
  · subst e0
    refine ⟨⟨fun pins s σ H Q I ⟨φ, ev, h, S, r, p⟩ => ?_⟩⟩
    obtain ⟨ds, h1, _, p⟩ := Post.bind p
    exact False.elim p
  · subst e1
    exact se_make rfl F1 hr ha hg hdb he hpl
theorem funZ_mk {x qual : Str} {st : Stmt} {f : Addr} {oc : Value} {od an : Option Addr} {osl : Array (Option Value)} {kV doc pm cdv ct : Value} (l : K.lookup f = some ⟨oc, od, .func (PySem.W.fnOf x qual (defArgs st) (defBody st) (defScope st) .none kV doc pm an cdv ct), osl⟩)
    (c : PySem.W.codeIn K cdv qual = true) (k : PySem.W.keepIn K (.ref f) = true) : FunZ K x qual st [] f (PySem.W.fnOf x qual (defArgs st) (defBody st) (defScope st) .none kV doc pm an cdv ct) := ⟨⟨oc, od, .none, kV, doc, pm, an, cdv, ct, osl, rfl, l, c, .inl ⟨rfl, rfl⟩, .inl rfl⟩, k⟩
/-- the law's promise -/
def spL (K : PySem.W.Frag) (f : List D → HP → R D) : Sp := fun vs H Q _ => vs.length = 1 ∧ ∀ κ : Nat → Addr, ∃ φ h ds, Sim K κ φ h H ∧ RVs φ h.length H ds vs ∧ Post K κ φ h H (f ds h) Q
theorem spL_of {k : Nat} {fa : Addr} {fd : FuncData} {ps : List Str} {f : List D → HP → R D} (hp : ps.length = 1) (F : FnOk P w K mg base CX0 k fa fd ps (spD K κ ps.length f)) : FnOk P w K mg base CX0 k fa fd ps (spL K f) :=
  F.imp fun vs H Q E h => ⟨by rw [hp]; exact h.1, h.2 κ⟩
end
theorem law_end {l : PySem.W.OpenLaw} {k : Nat} {q : Program} {loose : List Str} {XP : (Str → Option Value) → Heap → Prop} {YP : World → Heap → Prop} {d : DefRec} {K : Params → PySem.W.Frag} {f : List D → HP → R D}
    (hn : l.most = some 63) (hdf : d.params.defaults = []) (hr : Room k callerA) (hY : ∀ (w : World) (h : Heap), YP w h → (K w.params).In h)
    (F : ∀ (w : World) (mg : Str → Option Value) (fa : Addr) (h : Heap), (K w.params).In h → h.Ns mainGlobals mg → mg d.name = some (.ref fa) → ∃ fd : FuncData, (∀ (s : Shared) (u : Value), BindsTo s fd ⟨[u], []⟩ [("script", u)]) ∧ ∀ base : Heap, (K w.params).In base → base.Ns mainGlobals mg → FnOk l.prog w (K w.params) mg base CX0 k fa fd ["script"] (spL (K w.params) f))
    (M : ∀ ns : List Int, ns.length ≤ 63 → (∀ z ∈ ns, Builtin.Int.intBits z ≤ 1048576) → ∃ h', f [.ref 0] [.fz (ns.map D.int)] = .ok (.bl true) h') :
    PySem.W.WalkO q loose XP YP l.row.toRowW d [] (fun g us => PySem.call g us) := by
  refine L2.walk_ofB (n := 63) (k := k) (x := "script") (CX := fun _ => CX0) (sp := fun w => spL (K w.params) f) hn (by decide) hdf hr hY F (fun w H a ns hl hb hO hS => ?_) fun _ _ _ _ _ z => z
  obtain ⟨h', e⟩ := M ns hl hb
  refine ⟨rfl, fun κ => ⟨fun _ => a, [.fz (ns.map D.int)], [.ref 0], ⟨fun i j o o' hi hj mi => ?_, fun i o hi => ?_⟩, RVs.one (RV.ref_iff.mpr ⟨by simp, rfl⟩), ?_⟩⟩
  · cases i with
    | zero => simp at hi; subst hi; cases mi
    | succ i => simp at hi
  · cases i with
    | zero =>
      simp at hi
      subst hi
      refine ⟨ns.map V.int, ?_, RVs.of_ints⟩
      rcases hS with (hS | ⟨o, hS⟩) | hS
      · rcases hO a with z | ⟨o, xs, z⟩
        · rw [z] at hS; cases hS
        · rw [z] at hS; cases hS
      · exact .inl ⟨o, hS⟩
      · exact .inr hS
    | succ i => simp at hi
  · rw [e]
    intro φ' H' v st S rv
    rw [RV.bl_iff] at rv
    exact rv
end Z
/-! The defs of the law, printed by gen.py. -/
namespace Z.k32
open PySem L2 Z
def b_m_Search_init_1 : MS :=
    (sSt stD (eFld [7, 1] (eV 0) "numbers") (eOp opIx (eV 5) (eC (.int 0))) (eV 4))
/-- __init__(self, book, limb, most, number, part, name, form, some) -/
def f_m_Search_init : Fn := ⟨4, 9,
    (sSq (sFl [7, 1] (eV 0) "forms" (eLc [6, 7] (gT [6, 7]) (iA (eOp opIx (eV 1) (eC (.int 1)))) tY (eV 7)))
    (sSq (sFl [7, 1] (eV 0) "numbers" eDiK)
    (sSq (sFo (gT [4, 5]) (iEn (eOp opIx (eV 1) (eC (.int 1)))) b_m_Search_init_1)
    (sSq (sFl [7] (eV 0) "name" (eOp opIx (eOp opIx (eOp opIx (eV 1) (eC (.int 0))) (eV 2)) (eC (.int 0))))
    (sSq (sFl [7] (eV 0) "most" (eV 3))
    (sSq (sFl [7] (eV 0) "long" (eCall 72 (aC (eV 1) aN) []))
    (sSq (sFl [7] (eV 0) "moves" (eLc [8] (gN 8) (iA (eCall 63 (aC (eV 1) aN) [])) tY (eOp opIn (eV 2) (eV 8))))
    (sSq (sFl [7] (eV 0) "leaves" (eLc [8] (gN 8) (iA (eCall 76 (aC (eV 1) aN) [])) tY (eGet1 (eBf bDct (aC (eV 8) aN)) (aC (eV 2) aN))))
    (sFl [7] (eV 0) "known" eDiT)))))))))⟩
/-- found(self, part, height) -/
def f_m_Search_found : Fn := ⟨3, 3,
    (sSq (sIf (tNt (tV (eOp opIx (eFld [7] (eV 0) "moves") (eV 1)))) (sRt (eC .non)) sSk)
    (sSq (sIf (tV (eOp opNin (eTup (aC (eV 1) (aC (eV 2) aN))) (eFld [7] (eV 0) "known"))) (sSt stD (eFld [7] (eV 0) "known") (eTup (aC (eV 1) (aC (eV 2) aN))) (eMeth [7] (eV 0) 21 "looked" (aC (eOp opIx (eFld [7, 1] (eV 0) "forms") (eV 1)) (aC (eV 2) aN)))) sSk)
    (sRt (eOp opIx (eFld [7] (eV 0) "known") (eTup (aC (eV 1) (aC (eV 2) aN)))))))⟩
def b_m_Search_looked_1 : MS :=
    (sIf (tV (eOp opIx (eFld [7] (eV 0) "moves") (eOp opIx (eFld [7, 1] (eV 0) "numbers") (eV 3)))) (sRt (eMeth [7] (eV 0) 20 "found" (aC (eOp opIx (eFld [7, 1] (eV 0) "numbers") (eV 3)) (aC (eV 2) aN)))) sSk)
/-- looked(self, form, height, name) -/
def f_m_Search_looked : Fn := ⟨3, 4,
    (sSq (sIf (tV (eOp opEq (eOp opIx (eV 1) (eC (.int 0))) (eC (.str "raise")))) (sRt (eCall 95 (aC (eV 2) (aC (eOp opIx (eV 1) (eC (.int 2))) (aC (eOp opIx (eV 1) (eC (.int 3))) (aC (eFld [7] (eV 0) "most") aN)))) [])) sSk)
    (sSq (sIf (tV (eOp opEq (eOp opIx (eV 1) (eC (.int 0))) (eC (.str "again")))) (sRt (eMeth [7] (eV 0) 22 "in_turns" (aC (eOp opIx (eFld [7, 1] (eV 0) "numbers") (eOp opIx (eV 1) (eC (.int 2)))) (aC (eOp opIx (eV 1) (eC (.int 1))) (aC (eV 2) aN))))) sSk)
    (sSq (sIf (tV (eOp opEq (eOp opIx (eV 1) (eC (.int 0))) (eC (.str "side")))) (sFo (gN 3) (iA (eOp opIx (eV 1) (eC (.int 1)))) b_m_Search_looked_1) sSk)
    (sRt (eMeth [7] (eV 0) 23 "in_row" (aC (eOp opIx (eV 1) (eC (.int 1))) (aC (eV 2) aN)))))))⟩
/-- in_turns(self, part, times, height, first, later) -/
def f_m_Search_in_turns : Fn := ⟨4, 6,
    (sSq (sAs (gN 4) (eMeth [7] (eV 0) 20 "found" (aC (eV 1) (aC (eV 3) aN))))
    (sSq (sIf (tOr (tV (eOp opNotN (eV 4) (eC .non))) (tV (eOp opEq (eV 2) (eC (.int 1))))) (sRt (eV 4)) sSk)
    (sSq (sAs (gN 5) (eMeth [7] (eV 0) 20 "found" (aC (eV 1) (aC (eOp opIx (eFld [7] (eV 0) "leaves") (eV 1)) aN))))
    (sSq (sIf (tV (eOp opIsN (eV 5) (eC .non))) (sRt (eC .non)) sSk)
    (sRt (eTup (aC (eOp opAdd (eOp opIx (eFld [7] (eV 0) "long") (eV 1)) (eOp opIx (eV 5) (eC (.int 0)))) (aC (eOp opIx (eV 5) (eC (.int 1))) aN))))))))⟩
def b_m_Search_in_row_1 : MS :=
    (sSq (sAs (gN 5) (eOp opIx (eFld [7, 1] (eV 0) "numbers") (eV 4)))
    (sSq (sAs (gN 6) (eMeth [7] (eV 0) 20 "found" (aC (eV 5) (aC (eV 2) aN))))
    (sSq (sIf (tV (eOp opNotN (eV 6) (eC .non))) (sRt (eTup (aC (eOp opAdd (eV 3) (eOp opIx (eV 6) (eC (.int 0)))) (aC (eOp opIx (eV 6) (eC (.int 1))) aN)))) sSk)
    (sSq (sAu 3 opIAdd (eOp opIx (eFld [7] (eV 0) "long") (eV 5)))
    (sIf (tV (eOp opIx (eFld [7] (eV 0) "moves") (eV 5))) (sAs (gN 2) (eOp opIx (eFld [7] (eV 0) "leaves") (eV 5))) sSk)))))
/-- in_row(self, names, height, gone, name, part, first) -/
def f_m_Search_in_row : Fn := ⟨3, 7,
    (sSq (sAs (gN 3) (eC (.int 0)))
    (sSq (sFo (gN 4) (iA (eV 1)) b_m_Search_in_row_1)
    (sRt (eC .non))))⟩
def b_m_Guide_init_1 : MS :=
    (sSt stD (eFld [7, 1] (eV 0) "numbers") (eOp opIx (eV 3) (eC (.int 0))) (eV 2))
def b_m_Guide_init_2 : MS :=
    (sSt stD (eFld [1] (eV 0) "limbs") (eOp opIx (eV 4) (eC (.int 0))) (eV 2))
/-- __init__(self, book, number, part, limb, name, form) -/
def f_m_Guide_init : Fn := ⟨2, 7,
    (sSq (sFl [7, 1] (eV 0) "forms" (eLc [5, 6] (gT [5, 6]) (iA (eOp opIx (eV 1) (eC (.int 1)))) tY (eV 6)))
    (sSq (sFl [7, 1] (eV 0) "numbers" eDiK)
    (sSq (sFo (gT [2, 3]) (iEn (eOp opIx (eV 1) (eC (.int 1)))) b_m_Guide_init_1)
    (sSq (sFl [1] (eV 0) "limbs" eDiK)
    (sSq (sFo (gT [2, 4]) (iEn (eOp opIx (eV 1) (eC (.int 0)))) b_m_Guide_init_2)
    (sSq (sFl [1] (eV 0) "lengths" (eCall 72 (aC (eV 1) aN) []))
    (sFl [1] (eV 0) "ends" (eCall 76 (aC (eV 1) aN) []))))))))⟩
/-- look_at(self, beat) -/
def f_m_Guide_look_at : Fn := ⟨2, 2,
    (sSq (sIf (tOr (tV (eOp opLt (eV 1) (eC (.int 0)))) (tV (eOp opGt (eV 1) (eOp opIx (eFld [1] (eV 0) "lengths") (eUn opNeg (eC (.int 1))))))) sNo sSk)
    (sRt (eOp opEq (eV 1) (eOp opIx (eFld [1] (eV 0) "lengths") (eUn opNeg (eC (.int 1)))))))⟩
def b_m_Guide_leave_1 : MS :=
    (sSt stD (eV 2) (eV 3) (eV 4))
/-- leave(self, number, heights, limb, height) -/
def f_m_Guide_leave : Fn := ⟨3, 5,
    (sFo (gT [3, 4]) (iA (eOp opIx (eFld [1] (eV 0) "ends") (eV 1))) b_m_Guide_leave_1)⟩
def b_m_Guide_put_1 : MS :=
    (sEx (eMeth [1] (eV 0) 5 "put_beside" (aC (eOp opIx (eFld [7, 1] (eV 0) "numbers") (eV 6)) (aC (eV 2) (aC (eV 3) aN)))))
/-- put(self, number, beat, heights, form, limb, name, inner, turn, rest) -/
def f_m_Guide_put : Fn := ⟨4, 10,
    (sSq (sAs (gN 4) (eOp opIx (eFld [7, 1] (eV 0) "forms") (eV 1)))
    (sIf (tV (eOp opEq (eOp opIx (eV 4) (eC (.int 0))) (eC (.str "raise")))) (sSq (sAs (gN 5) (eOp opIx (eFld [1] (eV 0) "limbs") (eOp opIx (eV 4) (eC (.int 1)))))
    (sSt stD (eV 3) (eV 5) (eCall 8 (aC (eOp opIx (eV 3) (eV 5)) (aC (eOp opIx (eV 4) (eC (.int 2))) (aC (eOp opIx (eV 4) (eC (.int 3))) (aC (eV 2) aN)))) []))) (sIf (tV (eOp opEq (eOp opIx (eV 4) (eC (.int 0))) (eC (.str "side")))) (sFo (gN 6) (iA (eOp opIx (eV 4) (eC (.int 1)))) b_m_Guide_put_1) (sIf (tV (eOp opEq (eOp opIx (eV 4) (eC (.int 0))) (eC (.str "row")))) (sEx (eMeth [1] (eV 0) 6 "put_in_row" (aC (eLc [6] (gN 6) (iA (eOp opIx (eV 4) (eC (.int 1)))) tY (eOp opIx (eFld [7, 1] (eV 0) "numbers") (eV 6))) (aC (eV 2) (aC (eV 3) aN))))) (sIf (tV (eOp opEq (eOp opIx (eV 4) (eC (.int 0))) (eC (.str "again")))) (sSq (sAs (gN 7) (eOp opIx (eFld [7, 1] (eV 0) "numbers") (eOp opIx (eV 4) (eC (.int 2)))))
    (sSq (sAs (gT [8, 9]) (eBf bDvm (aC (eV 2) (aC (eOp opIx (eFld [1] (eV 0) "lengths") (eV 7)) aN))))
    (sSq (sIf (tV (eOp opGt (eV 8) (eC (.int 0)))) (sEx (eMeth [1] (eV 0) 2 "leave" (aC (eV 7) (aC (eV 3) aN)))) sSk)
    (sEx (eMeth [1] (eV 0) 3 "put" (aC (eV 7) (aC (eV 9) (aC (eV 3) aN)))))))) sSk)))))⟩
/-- put_beside(self, number, beat, heights) -/
def f_m_Guide_put_beside : Fn := ⟨4, 4,
    (sIf (tV (eOp opLt (eV 2) (eOp opIx (eFld [1] (eV 0) "lengths") (eV 1)))) (sEx (eMeth [1] (eV 0) 3 "put" (aC (eV 1) (aC (eV 2) (aC (eV 3) aN))))) (sEx (eMeth [1] (eV 0) 2 "leave" (aC (eV 1) (aC (eV 3) aN)))))⟩
def b_m_Guide_put_in_row_1 : MS :=
    (sSq (sIf (tV (eOp opLt (eV 2) (eOp opIx (eFld [1] (eV 0) "lengths") (eV 4)))) (sSq (sEx (eMeth [1] (eV 0) 3 "put" (aC (eV 4) (aC (eV 2) (aC (eV 3) aN)))))
    sRN) sSk)
    (sSq (sAs (gN 2) (eOp opSub (eV 2) (eOp opIx (eFld [1] (eV 0) "lengths") (eV 4))))
    (sEx (eMeth [1] (eV 0) 2 "leave" (aC (eV 4) (aC (eV 3) aN))))))
/-- put_in_row(self, numbers, beat, heights, number) -/
def f_m_Guide_put_in_row : Fn := ⟨4, 5,
    (sFo (gN 4) (iA (eV 1)) b_m_Guide_put_in_row_1)⟩
/-- words(self, number, beat) -/
def f_m_Guide_words : Fn := ⟨3, 3,
    (sEx (eCall 94 (aC (eC (.int 0)) aN) []))⟩
def b__wall_1 : MS :=
    sSk
/-- _wall(k) -/
def f__wall : Fn := ⟨1, 1,
    (sWh (tV (eC (.bl true))) b__wall_1)⟩
def b_numbers_of_1 : MS :=
    (sSt stD (eV 1) (eOp opIx (eV 3) (eC (.int 0))) (eV 2))
/-- numbers_of(rows, numbers, number, row) -/
def f_numbers_of : Fn := ⟨1, 4,
    (sSq (sAs (gNo 1) eDiK)
    (sSq (sFo (gT [2, 3]) (iEn (eV 0)) b_numbers_of_1)
    (sRt (eV 1))))⟩
/-- named(form, numbers, name) -/
def f_named : Fn := ⟨2, 3,
    (sSq (sIf (tOr (tV (eOp opEq (eOp opIx (eV 0) (eC (.int 0))) (eC (.str "row")))) (tV (eOp opEq (eOp opIx (eV 0) (eC (.int 0))) (eC (.str "side"))))) (sRt (eLc [2] (gN 2) (iA (eOp opIx (eV 0) (eC (.int 1)))) tY (eOp opIx (eV 1) (eV 2)))) sSk)
    (sSq (sIf (tV (eOp opEq (eOp opIx (eV 0) (eC (.int 0))) (eC (.str "again")))) (sRt (eLst (aC (eOp opIx (eV 1) (eOp opIx (eV 0) (eC (.int 2)))) aN))) sSk)
    (sRt (eLst aN))))⟩
def b_moved_1 : MS :=
    (sEx (eBk okL mExt (eV 6) (aC (eOp opIx (eV 3) (eV 7)) aN)))
def b_moved_2 : MS :=
    (sSq (sAs (gNo 6) (eLst aN))
    (sSq (sIf (tV (eOp opEq (eOp opIx (eV 5) (eC (.int 0))) (eC (.str "raise")))) (sEx (eBk okL mApp (eV 6) (aC (eOp opIx (eV 1) (eOp opIx (eV 5) (eC (.int 1)))) aN))) sSk)
    (sSq (sFo (gN 7) (iA (eCall 62 (aC (eV 5) (aC (eV 2) aN)) [])) b_moved_1)
    (sEx (eBk okL mApp (eV 3) (aC (eUn bSrS (eV 6)) aN))))))
/-- moved(book, hands, numbers, told, name, form, limbs, number) -/
def f_moved : Fn := ⟨1, 8,
    (sSq (sAs (gN 1) (eCall 61 (aC (eOp opIx (eV 0) (eC (.int 0))) aN) []))
    (sSq (sAs (gN 2) (eCall 61 (aC (eOp opIx (eV 0) (eC (.int 1))) aN) []))
    (sSq (sAs (gNo 3) (eLst aN))
    (sSq (sFo (gT [4, 5]) (iA (eOp opIx (eV 0) (eC (.int 1)))) b_moved_2)
    (sRt (eV 3))))))⟩
/-- length_of(form, below) -/
def f_length_of : Fn := ⟨2, 2,
    (sSq (sIf (tV (eOp opEq (eOp opIx (eV 0) (eC (.int 0))) (eC (.str "row")))) (sRt (eBf bSum (aC (eV 1) aN))) sSk)
    (sSq (sIf (tV (eOp opEq (eOp opIx (eV 0) (eC (.int 0))) (eC (.str "side")))) (sRt (eBf bMax (aC (eV 1) aN))) sSk)
    (sSq (sIf (tV (eOp opEq (eOp opIx (eV 0) (eC (.int 0))) (eC (.str "again")))) (sRt (eOp opMul (eOp opIx (eV 0) (eC (.int 1))) (eOp opIx (eV 1) (eC (.int 0))))) sSk)
    (sRt (eOp opIx (eV 0) (eUn opNeg (eC (.int 1))))))))⟩
def b_look_at_side_1 : MS :=
    (sIf (tV (eOp opGt (eBf bLen (aC (eLc [4] (gN 4) (iA (eV 2)) (tV (eOp opIn (eV 3) (eV 4))) (eV 4)) aN)) (eC (.int 1)))) sNo sSk)
/-- look_at_side(book, number, limbs, limb, some) -/
def f_look_at_side : Fn := ⟨3, 5,
    (sSq (sIf (tV (eOp opIn (eLst aN) (eV 2))) sNo sSk)
    (sFo (gN 3) (iR1 (eBf bLen (aC (eOp opIx (eV 0) (eC (.int 0))) aN))) b_look_at_side_1))⟩
def b_lengths_1 : MS :=
    (sSq (sAs (gN 6) (eCall 62 (aC (eOp opIx (eV 5) (eC (.int 1))) (aC (eV 1) aN)) []))
    (sSq (sIf (tV (eOp opEq (eOp opIx (eOp opIx (eV 5) (eC (.int 1))) (eC (.int 0))) (eC (.str "side")))) (sEx (eCall 71 (aC (eV 0) (aC (eV 4) (aC (eLc [7] (gN 7) (iA (eV 6)) tY (eOp opIx (eV 2) (eV 7))) aN))) [])) sSk)
    (sSq (sEx (eBk okL mApp (eV 3) (aC (eCall 70 (aC (eOp opIx (eV 5) (eC (.int 1))) (aC (eLc [7] (gN 7) (iA (eV 6)) tY (eOp opIx (eV 3) (eV 7))) aN)) []) aN)))
    (sIf (tV (eOp opGt (eOp opIx (eV 3) (eUn opNeg (eC (.int 1)))) (eC (.int 1000000000000000000000000000000000000000000000000000000000000)))) sNo sSk))))
/-- lengths(book, numbers, limbs, told, number, part, below, one) -/
def f_lengths : Fn := ⟨1, 8,
    (sSq (sAs (gN 1) (eCall 61 (aC (eOp opIx (eV 0) (eC (.int 1))) aN) []))
    (sSq (sAs (gN 2) (eCall 63 (aC (eV 0) aN) []))
    (sSq (sAs (gNo 3) (eLst aN))
    (sSq (sFo (gT [4, 5]) (iEn (eOp opIx (eV 0) (eC (.int 1)))) b_lengths_1)
    (sRt (eV 3))))))⟩
def b_ends_1 : MS :=
    (sSt stD (eV 6) (eV 8) (eV 9))
def b_ends_2 : MS :=
    (sFo (gT [8, 9]) (iA (eOp opIx (eV 3) (eV 7))) b_ends_1)
def b_ends_3 : MS :=
    (sSq (sAs (gNo 6) eDiK)
    (sSq (sIf (tV (eOp opEq (eOp opIx (eV 5) (eC (.int 0))) (eC (.str "raise")))) (sSt stD (eV 6) (eOp opIx (eV 1) (eOp opIx (eV 5) (eC (.int 1)))) (eOp opIx (eV 5) (eC (.int 2)))) sSk)
    (sSq (sFo (gN 7) (iA (eCall 62 (aC (eV 5) (aC (eV 2) aN)) [])) b_ends_2)
    (sEx (eBk okL mApp (eV 3) (aC (eLc [8] (gN 8) (iA (eBf bSr2 (aC (eV 6) aN))) tY (eTup (aC (eV 8) (aC (eOp opIx (eV 6) (eV 8)) aN)))) aN))))))
/-- ends(book, hands, numbers, told, name, form, left, number, limb, height) -/
def f_ends : Fn := ⟨1, 10,
    (sSq (sAs (gN 1) (eCall 61 (aC (eOp opIx (eV 0) (eC (.int 0))) aN) []))
    (sSq (sAs (gN 2) (eCall 61 (aC (eOp opIx (eV 0) (eC (.int 1))) aN) []))
    (sSq (sAs (gNo 3) (eLst aN))
    (sSq (sFo (gT [4, 5]) (iA (eOp opIx (eV 0) (eC (.int 1)))) b_ends_3)
    (sRt (eV 3))))))⟩
/-- ramp_jump(start, goal, beats, most, change, rest) -/
def f_ramp_jump : Fn := ⟨4, 6,
    (sSq (sAs (gT [4, 5]) (eBf bDvm (aC (eOp opSub (eV 1) (eV 0)) (aC (eV 2) aN))))
    (sSq (sIf (tV (eOp opGt (eBf bAbs (aC (eV 4) aN)) (eV 3))) (sRt (eTup (aC (eC (.int 0)) (aC (eV 4) aN)))) sSk)
    (sSq (sIf (tAn (tV (eOp opGt (eV 5) (eC (.int 0)))) (tV (eOp opGt (eBf bAbs (aC (eOp opAdd (eV 4) (eC (.int 1))) aN)) (eV 3)))) (sRt (eTup (aC (eOp opDiv (eOp opSub (eV 2) (eC (.int 1))) (eV 5)) (aC (eOp opAdd (eV 4) (eC (.int 1))) aN)))) sSk)
    (sRt (eC .non)))))⟩
def b_first_jump_1 : MS :=
    (sSq (sAs (gN 5) (eMeth [7] (eMake 7 (aC (eV 0) (aC (eV 3) (aC (eV 1) aN)))) 20 "found" (aC (eOp opSub (eBf bLen (aC (eOp opIx (eV 0) (eC (.int 1))) aN)) (eC (.int 1))) (aC (eOp opIx (eV 4) (eC (.int 1))) aN))))
    (sIf (tAn (tV (eOp opNotN (eV 5) (eC .non))) (tOr (tV (eOp opIsN (eV 2) (eC .non))) (tV (eOp opLt (eOp opIx (eV 5) (eC (.int 0))) (eOp opIx (eV 2) (eC (.int 0))))))) (sAs (gN 2) (eTup (aC (eOp opIx (eV 5) (eC (.int 0))) (aC (eOp opIx (eV 4) (eC (.int 0))) (aC (eOp opIx (eV 5) (eC (.int 1))) aN))))) sSk))
/-- first_jump(book, most, best, limb, told, found) -/
def f_first_jump : Fn := ⟨2, 6,
    (sSq (sAs (gN 2) (eC .non))
    (sSq (sFo (gT [3, 4]) (iEn (eOp opIx (eV 0) (eC (.int 0)))) b_first_jump_1)
    (sRt (eV 2))))⟩
/-- ramp(start, goal, beats, j) -/
def f_ramp : Fn := ⟨4, 4,
    (sRt (eOp opAdd (eV 0) (eOp opDiv (eOp opMul (eOp opSub (eV 1) (eV 0)) (eV 3)) (eV 2))))⟩
/-- stand(book, beat, guide, heights, name, height) -/
def f_stand : Fn := ⟨2, 6,
    (sSq (sAs (gN 2) (eMake 1 (aC (eV 0) aN)))
    (sSq (sAs (gN 3) (eLc [4, 5] (gT [4, 5]) (iA (eOp opIx (eV 0) (eC (.int 0)))) tY (eV 5)))
    (sSq (sIf (tV (eMeth [1] (eV 2) 1 "look_at" (aC (eV 1) aN))) (sEx (eMeth [1] (eV 2) 2 "leave" (aC (eOp opSub (eBf bLen (aC (eOp opIx (eV 0) (eC (.int 1))) aN)) (eC (.int 1))) (aC (eV 3) aN)))) (sEx (eMeth [1] (eV 2) 3 "put" (aC (eOp opSub (eBf bLen (aC (eOp opIx (eV 0) (eC (.int 1))) aN)) (eC (.int 1))) (aC (eV 1) (aC (eV 3) aN))))))
    (sRt (eV 3)))))⟩
def b_l_pool_1 : MS :=
    (sSq (sAs (gN 3) (eOp opMod (eOp opAdd (eOp opMul (eV 3) (eC (.int 69621))) (eOp opMul (eC (.int 7919)) (eV 5))) (eC (.int 2147483629))))
    (sSq (sAs (gN 3) (eOp opMod (eOp opMul (eV 3) (eV 3)) (eC (.int 2147483587))))
    (sAs (gN 4) (eOp opAdd (eOp opMul (eV 4) (eC (.int 2147483629))) (eV 3)))))
/-- _law_pool(script, k, cell, number, found, turn) -/
def f_l_pool : Fn := ⟨2, 6,
    (sSq (sAs (gN 2) (eC (.int 0)))
    (sSq (sIf (tV (eOp opLt (eV 1) (eBf bLen (aC (eV 0) aN)))) (sAs (gN 2) (eOp opIx (eV 0) (eV 1))) sSk)
    (sSq (sIf (tV (eOp opGe (eV 2) (eOp opPow (eC (.int 10)) (eC (.int 18))))) (sRt (eLst (aC (eOp opMod (eV 2) (eOp opPow (eC (.int 10)) (eC (.int 60)))) aN))) sSk)
    (sSq (sAs (gN 3) (eOp opAdd (eOp opAdd (eOp opMod (eV 2) (eC (.int 2147483647))) (eOp opMul (eOp opMul (eC (.int 48271)) (eV 1)) (eV 1))) (eC (.int 11))))
    (sSq (sAs (gN 4) (eC (.int 0)))
    (sSq (sFo (gN 5) (iR1 (eC (.int 7))) b_l_pool_1)
    (sRt (eLst (aC (eV 4) aN)))))))))⟩
/-- _law_take(pool, many, found) -/
def f_l_take : Fn := ⟨2, 3,
    (sSq (sAs (gN 2) (eOp opMod (eOp opIx (eV 0) (eC (.int 0))) (eV 1)))
    (sSq (sSt stD (eV 0) (eC (.int 0)) (eOp opDiv (eOp opIx (eV 0) (eC (.int 0))) (eV 1)))
    (sRt (eV 2))))⟩
/-- _law_word(place, k) -/
def f_l_word : Fn := ⟨2, 2,
    (sRt (eOp opAdd (eOp opAdd (eOp opAdd (eSl opSl (eC (.str "mmmm")) oN (oS (eV 0))) (eOp opIx (eC (.str "abcdefghijklnopqrstuvwxyz")) (eOp opMod (eV 1) (eC (.int 25))))) (eSl opSl (eC (.str "mmm")) (oS (eV 0)) oN)) (eOp opIx (eLst (aC (eC (.str "")) (aC (eC (.str "q")) (aC (eC (.str "qr")) aN)))) (eOp opDiv (eV 1) (eC (.int 25))))))⟩
/-- _law_number(pool, most, way) -/
def f_l_number : Fn := ⟨2, 3,
    (sSq (sAs (gN 2) (eCall 180 (aC (eV 0) (aC (eC (.int 3)) aN)) []))
    (sSq (sIf (tV (eOp opEq (eV 2) (eC (.int 0)))) (sRt (eCall 180 (aC (eV 0) (aC (eBf bMin (aC (eV 1) (aC (eC (.int 5)) aN))) aN)) [])) sSk)
    (sSq (sIf (tV (eOp opEq (eV 2) (eC (.int 1)))) (sRt (eCall 180 (aC (eV 0) (aC (eBf bMin (aC (eV 1) (aC (eC (.int 1000)) aN))) aN)) [])) sSk)
    (sRt (eCall 180 (aC (eV 0) (aC (eV 1) aN)) [])))))⟩
def b_l_pair_1 : MS :=
    (sSq (sAs (gN 4) (eOp opMod (eOp opDiv (eOp opAdd (eV 1) (eV 3)) (eV 2)) (eV 2)))
    (sSq (sAs (gN 5) (eOp opMod (eOp opAdd (eV 1) (eV 3)) (eV 2)))
    (sIf (tAn (tV (eOp opNe (eOp opIx (eV 0) (eV 4)) (eLst aN))) (tAn (tV (eOp opNe (eOp opIx (eV 0) (eV 5)) (eLst aN))) (tV (eOp opEq (eLc [6] (gN 6) (iA (eOp opIx (eV 0) (eV 4))) (tV (eOp opIn (eV 6) (eOp opIx (eV 0) (eV 5)))) (eV 6)) (eLst aN))))) (sRt (eTup (aC (eV 4) (aC (eV 5) aN)))) sSk)))
/-- _law_pair(moves, at, many, k, one, other, limb) -/
def f_l_pair : Fn := ⟨2, 7,
    (sSq (sAs (gN 2) (eBf bLen (aC (eV 0) aN)))
    (sSq (sFo (gN 3) (iR1 (eOp opMul (eV 2) (eV 2))) b_l_pair_1)
    (sRt (eC .non))))⟩
/-- _law_naming(pool, way, names, moves, longs, most, pair, at, times, k, one) -/
def f_l_naming : Fn := ⟨6, 11,
    (sSq (sIf (tV (eOp opEq (eV 1) (eC (.int 5)))) (sRt (eTup (aC (eC (.str "row")) (aC (eBf bTup (aC (eLc [9] (gN 9) (iR1 (eOp opAdd (eC (.int 1)) (eCall 180 (aC (eV 0) (aC (eC (.int 4)) aN)) []))) tY (eOp opIx (eV 2) (eCall 180 (aC (eV 0) (aC (eBf bLen (aC (eV 2) aN)) aN)) []))) aN)) aN)))) sSk)
    (sSq (sIf (tV (eOp opEq (eV 1) (eC (.int 6)))) (sSq (sAs (gN 6) (eCall 204 (aC (eV 3) (aC (eCall 180 (aC (eV 0) (aC (eOp opMul (eBf bLen (aC (eV 2) aN)) (eBf bLen (aC (eV 2) aN))) aN)) []) aN)) []))
    (sSq (sIf (tV (eOp opIsN (eV 6) (eC .non))) (sRt (eTup (aC (eC (.str "hold")) (aC (eOp opAdd (eC (.int 1)) (eCall 203 (aC (eV 0) (aC (eV 5) aN)) [])) aN)))) sSk)
    (sRt (eTup (aC (eC (.str "side")) (aC (eBf bTup (aC (eLc [10] (gN 10) (iA (eV 6)) tY (eOp opIx (eV 2) (eV 10))) aN)) aN)))))) sSk)
    (sSq (sAs (gN 7) (eCall 180 (aC (eV 0) (aC (eBf bLen (aC (eV 2) aN)) aN)) []))
    (sSq (sAs (gN 8) (eOp opAdd (eC (.int 1)) (eCall 203 (aC (eV 0) (aC (eV 5) aN)) [])))
    (sSq (sIf (tV (eOp opGt (eOp opMul (eV 8) (eOp opIx (eV 4) (eV 7))) (eOp opPow (eC (.int 10)) (eC (.int 40))))) (sAs (gN 8) (eOp opAdd (eC (.int 1)) (eOp opMod (eV 8) (eC (.int 3))))) sSk)
    (sRt (eTup (aC (eC (.str "again")) (aC (eV 8) (aC (eOp opIx (eV 2) (eV 7)) aN))))))))))⟩
/-- _law_form(pool, book, moves, longs, most, way, names, limb, goal, some, word, part) -/
def f_l_form : Fn := ⟨5, 12,
    (sSq (sAs (gN 5) (eCall 180 (aC (eV 0) (aC (eC (.int 8)) aN)) []))
    (sSq (sAs (gN 6) (eLc [11] (gN 11) (iA (eOp opIx (eV 1) (eC (.int 1)))) tY (eOp opIx (eV 11) (eC (.int 0)))))
    (sSq (sIf (tAn (tV (eOp opGt (eV 5) (eC (.int 4)))) (tV (eOp opNe (eV 6) (eLst aN)))) (sRt (eCall 205 (aC (eV 0) (aC (eV 5) (aC (eV 6) (aC (eV 2) (aC (eV 3) (aC (eV 4) aN)))))) [])) sSk)
    (sSq (sIf (tV (eOp opLt (eV 5) (eC (.int 3)))) (sSq (sAs (gN 7) (eOp opIx (eOp opIx (eOp opIx (eV 1) (eC (.int 0))) (eCall 180 (aC (eV 0) (aC (eBf bLen (aC (eOp opIx (eV 1) (eC (.int 0))) aN)) aN)) [])) (eC (.int 0))))
    (sSq (sAs (gN 8) (eCall 203 (aC (eV 0) (aC (eOp opAdd (eV 4) (eC (.int 1))) aN)) []))
    (sRt (eTup (aC (eC (.str "raise")) (aC (eV 7) (aC (eV 8) (aC (eOp opAdd (eC (.int 1)) (eCall 203 (aC (eV 0) (aC (eV 4) aN)) [])) aN)))))))) sSk)
    (sSq (sIf (tV (eOp opEq (eV 5) (eC (.int 4)))) (sSq (sAs (gN 9) (eOp opAdd (eLst (aC (eC (.str "bell")) (aC (eC (.str "bells")) (aC (eC (.str "gong")) aN)))) (eSl opSl (eV 6) oN (oS (eC (.int 2))))))
    (sSq (sAs (gN 10) (eOp opIx (eV 9) (eCall 180 (aC (eV 0) (aC (eBf bLen (aC (eV 9) aN)) aN)) [])))
    (sRt (eTup (aC (eC (.str "ring")) (aC (eV 10) (aC (eOp opAdd (eC (.int 1)) (eCall 203 (aC (eV 0) (aC (eV 4) aN)) [])) aN))))))) sSk)
    (sRt (eTup (aC (eC (.str "hold")) (aC (eOp opAdd (eC (.int 1)) (eCall 203 (aC (eV 0) (aC (eV 4) aN)) [])) aN)))))))))⟩
def b_l_put_1 : MS :=
    (sAs (gN 6) (eOp opAdd (eV 6) (eLc [9] (gN 9) (iA (eOp opIx (eV 1) (eV 7))) (tV (eOp opNin (eV 9) (eV 6))) (eV 9))))
/-- _law_put(book, moves, longs, name, form, numbers, limbs, k, long, limb, one) -/
def f_l_put : Fn := ⟨5, 11,
    (sSq (sAs (gN 5) (eLc [7] (gN 7) (iR1 (eBf bLen (aC (eOp opIx (eV 0) (eC (.int 1))) aN))) (tAn (tV (eOp opIn (eOp opIx (eV 4) (eC (.int 0))) (eTup (aC (eC (.str "row")) (aC (eC (.str "side")) aN))))) (tV (eOp opIn (eOp opIx (eOp opIx (eOp opIx (eV 0) (eC (.int 1))) (eV 7)) (eC (.int 0))) (eOp opIx (eV 4) (eC (.int 1)))))) (eV 7)))
    (sSq (sIf (tV (eOp opEq (eOp opIx (eV 4) (eC (.int 0))) (eC (.str "again")))) (sAs (gN 5) (eLc [7] (gN 7) (iR1 (eBf bLen (aC (eOp opIx (eV 0) (eC (.int 1))) aN))) (tV (eOp opEq (eOp opIx (eOp opIx (eOp opIx (eV 0) (eC (.int 1))) (eV 7)) (eC (.int 0))) (eOp opIx (eV 4) (eC (.int 2))))) (eV 7))) sSk)
    (sSq (sAs (gN 6) (eLc [7] (gN 7) (iR1 (eBf bLen (aC (eOp opIx (eV 0) (eC (.int 0))) aN))) (tAn (tV (eOp opEq (eOp opIx (eV 4) (eC (.int 0))) (eC (.str "raise")))) (tV (eOp opEq (eOp opIx (eOp opIx (eOp opIx (eV 0) (eC (.int 0))) (eV 7)) (eC (.int 0))) (eOp opIx (eV 4) (eC (.int 1)))))) (eV 7)))
    (sSq (sFo (gN 7) (iA (eV 5)) b_l_put_1)
    (sSq (sAs (gN 8) (eOp opIx (eV 4) (eUn opNeg (eC (.int 1)))))
    (sSq (sIf (tV (eOp opEq (eOp opIx (eV 4) (eC (.int 0))) (eC (.str "row")))) (sAs (gN 8) (eBf bSum (aC (eLc [7] (gN 7) (iA (eV 5)) tY (eOp opMul (eOp opIx (eV 2) (eV 7)) (eBf bLen (aC (eLc [10] (gN 10) (iA (eOp opIx (eV 4) (eC (.int 1)))) (tV (eOp opEq (eV 10) (eOp opIx (eOp opIx (eOp opIx (eV 0) (eC (.int 1))) (eV 7)) (eC (.int 0))))) (eV 10)) aN)))) aN))) sSk)
    (sSq (sIf (tV (eOp opEq (eOp opIx (eV 4) (eC (.int 0))) (eC (.str "side")))) (sAs (gN 8) (eBf bMax (aC (eLc [7] (gN 7) (iA (eV 5)) tY (eOp opIx (eV 2) (eV 7))) aN))) sSk)
    (sSq (sIf (tV (eOp opEq (eOp opIx (eV 4) (eC (.int 0))) (eC (.str "again")))) (sAs (gN 8) (eOp opMul (eOp opIx (eV 4) (eC (.int 1))) (eOp opIx (eV 2) (eOp opIx (eV 5) (eC (.int 0)))))) sSk)
    (sSq (sEx (eBk okL mApp (eOp opIx (eV 0) (eC (.int 1))) (aC (eTup (aC (eV 3) (aC (eV 4) aN))) aN)))
    (sSq (sEx (eBk okL mApp (eV 1) (aC (eV 6) aN)))
    (sEx (eBk okL mApp (eV 2) (aC (eV 8) aN)))))))))))))⟩
def b_l_book_1 : MS :=
    (sSq (sAs (gN 12) (eCall 202 (aC (eV 4) (aC (eV 11) aN)) []))
    (sSq (sIf (tAn (tV (eOp opEq (eV 5) (eC (.int 1)))) (tV (eOp opEq (eV 11) (eC (.int 1))))) (sAs (gN 12) (eOp opIx (eOp opIx (eOp opIx (eV 8) (eC (.int 0))) (eC (.int 0))) (eC (.int 0)))) sSk)
    (sEx (eCall 207 (aC (eV 8) (aC (eV 9) (aC (eV 10) (aC (eV 12) (aC (eCall 206 (aC (eCall 201 (aC (eV 0) (aC (eOp opAdd (eOp opAdd (eV 1) (eC (.int 1))) (eV 11)) aN)) []) (aC (eV 8) (aC (eV 9) (aC (eV 10) (aC (eV 2) aN))))) []) aN))))) []))))
/-- _law_book(script, start, most, pool, place, called, order, many, book, moves, longs, k, name, last, part) -/
def f_l_book : Fn := ⟨3, 15,
    (sSq (sAs (gN 3) (eCall 201 (aC (eV 0) (aC (eV 1) aN)) []))
    (sSq (sAs (gN 4) (eCall 180 (aC (eV 3) (aC (eC (.int 4)) aN)) []))
    (sSq (sAs (gN 5) (eCall 180 (aC (eV 3) (aC (eC (.int 2)) aN)) []))
    (sSq (sAs (gN 6) (eOp opIx (eLst (aC (eLst (aC (eC (.str "arm")) (aC (eC (.str "armm")) (aC (eC (.str "head")) aN)))) (aC (eLst (aC (eC (.str "head")) (aC (eC (.str "armm")) (aC (eC (.str "arm")) aN)))) (aC (eLst (aC (eC (.str "armm")) (aC (eC (.str "head")) (aC (eC (.str "arm")) aN)))) aN)))) (eCall 180 (aC (eV 3) (aC (eC (.int 3)) aN)) [])))
    (sSq (sAs (gN 6) (eOp opAdd (eV 6) (eLst (aC (eC (.str "leg")) (aC (eC (.str "wing")) (aC (eC (.str "tail")) (aC (eC (.str "eye")) (aC (eC (.str "paw")) aN))))))))
    (sSq (sAs (gN 7) (eOp opAdd (eC (.int 2)) (eCall 180 (aC (eV 3) (aC (eC (.int 9)) aN)) [])))
    (sSq (sAs (gN 8) (eTup (aC (eLc [11] (gN 11) (iR1 (eOp opAdd (eC (.int 1)) (eCall 180 (aC (eV 3) (aC (eC (.int 8)) aN)) []))) tY (eTup (aC (eOp opIx (eV 6) (eV 11)) (aC (eCall 203 (aC (eV 3) (aC (eOp opAdd (eV 2) (eC (.int 1))) aN)) []) aN)))) (aC (eLst aN) aN))))
    (sSq (sAs (gN 9) (eLst aN))
    (sSq (sAs (gN 10) (eLst aN))
    (sSq (sFo (gN 11) (iR1 (eV 7)) b_l_book_1)
    (sSq (sAs (gN 13) (eLc [14] (gN 14) (iA (eSl opSl (eOp opIx (eV 8) (eC (.int 1))) (oS (eUn opNeg (eC (.int 3)))) oN)) tY (eOp opIx (eV 14) (eC (.int 0)))))
    (sSq (sEx (eCall 207 (aC (eV 8) (aC (eV 9) (aC (eV 10) (aC (eCall 202 (aC (eV 4) (aC (eV 7) aN)) []) (aC (eTup (aC (eC (.str "row")) (aC (eBf bTup (aC (eOp opAdd (eV 13) (eSl opSl (eV 13) oN (oS (eC (.int 1))))) aN)) aN))) aN))))) []))
    (sRt (eTup (aC (eV 8) (aC (eOp opIx (eV 10) (eUn opNeg (eC (.int 1)))) aN))))))))))))))))⟩
/-- _law_change(book, beat, name, number, limb) -/
def f_l_change : Fn := ⟨3, 5,
    (sSq (sAs (gN 3) (eBk okL mIdx (eLc [4] (gN 4) (iA (eOp opIx (eV 0) (eC (.int 0)))) tY (eOp opIx (eV 4) (eC (.int 0)))) (aC (eV 2) aN)))
    (sRt (eOp opSub (eOp opIx (eCall 87 (aC (eV 0) (aC (eOp opAdd (eV 1) (eC (.int 1))) aN)) []) (eV 3)) (eOp opIx (eCall 87 (aC (eV 0) (aC (eV 1) aN)) []) (eV 3)))))⟩
def b_law_1 : MS :=
    (sSq (sAs (gN 5) (eCall 96 (aC (eV 1) (aC (eV 2) aN)) []))
    (sSq (sIf (tV (eOp opIsN (eV 5) (eC .non))) (sRt (eOp opIsN (eCall 96 (aC (eV 1) (aC (eOp opPow (eC (.int 10)) (eC (.int 18))) aN)) []) (eC .non))) sSk)
    (sSq (sIf (tOr (tV (eOp opLt (eOp opIx (eV 5) (eC (.int 0))) (eV 3))) (tOr (tV (eOp opLe (eBf bAbs (aC (eOp opIx (eV 5) (eC (.int 2))) aN)) (eV 2))) (tV (eOp opNe (eCall 216 (aC (eV 1) (aC (eOp opIx (eV 5) (eC (.int 0))) (aC (eOp opIx (eV 5) (eC (.int 1))) aN))) []) (eOp opIx (eV 5) (eC (.int 2))))))) (sRt (eC (.bl false))) sSk)
    (sSq (sAs (gN 6) (eCall 96 (aC (eV 1) (aC (eOp opSub (eBf bAbs (aC (eOp opIx (eV 5) (eC (.int 2))) aN)) (eC (.int 1))) aN)) []))
    (sSq (sIf (tOr (tV (eOp opIsN (eV 6) (eC .non))) (tV (eOp opGt (eOp opIx (eV 6) (eC (.int 0))) (eOp opIx (eV 5) (eC (.int 0)))))) (sRt (eC (.bl false))) sSk)
    (sSq (sAs (gN 2) (eBf bAbs (aC (eOp opIx (eV 5) (eC (.int 2))) aN)))
    (sAs (gN 3) (eOp opIx (eV 5) (eC (.int 0))))))))))
/-- law(script, book, bound, last, k, found, again) -/
def f_law : Fn := ⟨1, 7,
    (sSq (sAs (gN 1) (eOp opIx (eCall 208 (aC (eV 0) (aC (eC (.int 0)) (aC (eOp opPow (eC (.int 10)) (eC (.int 18))) aN))) []) (eC (.int 0))))
    (sSq (sAs (gN 2) (eC (.int 0)))
    (sSq (sAs (gN 3) (eC (.int 0)))
    (sSq (sFo (gN 4) (iR1 (eC (.int 6))) b_law_1)
    (sRt (eOp opIsN (eCall 96 (aC (eV 1) (aC (eOp opPow (eC (.int 10)) (eC (.int 18))) aN)) []) (eC .non)))))))⟩
def T : Tbl := ⟨fun f => match f with
  | 94 => some f__wall
  | 61 => some f_numbers_of
  | 62 => some f_named
  | 63 => some f_moved
  | 70 => some f_length_of
  | 71 => some f_look_at_side
  | 72 => some f_lengths
  | 76 => some f_ends
  | 95 => some f_ramp_jump
  | 96 => some f_first_jump
  | 8 => some f_ramp
  | 87 => some f_stand
  | 201 => some f_l_pool
  | 180 => some f_l_take
  | 202 => some f_l_word
  | 203 => some f_l_number
  | 204 => some f_l_pair
  | 205 => some f_l_naming
  | 206 => some f_l_form
  | 207 => some f_l_put
  | 208 => some f_l_book
  | 216 => some f_l_change
  | _ => none, fun c m => match c, m with
  | 7, 0 => some f_m_Search_init
  | 7, 20 => some f_m_Search_found
  | 7, 21 => some f_m_Search_looked
  | 7, 22 => some f_m_Search_in_turns
  | 7, 23 => some f_m_Search_in_row
  | 1, 0 => some f_m_Guide_init
  | 1, 1 => some f_m_Guide_look_at
  | 1, 2 => some f_m_Guide_leave
  | 1, 3 => some f_m_Guide_put
  | 1, 5 => some f_m_Guide_put_beside
  | 1, 6 => some f_m_Guide_put_in_row
  | 1, 4 => some f_m_Guide_words
  | _, _ => none, FUEL⟩
end Z.k32
namespace Z.k32
open PySem L2 Z
local macro_rules | `(tactic| fail $_s:str) => `(tactic| first | ((with_reducible apply KSet.go); first  | ((repeat with_reducible apply tnS); first | with_reducible exact tn0 | with_reducible exact tn1)  | ((repeat with_reducible apply tsS); with_reducible exact ts0)  | ((repeat with_reducible apply toS); with_reducible exact to0)  | with_reducible apply tp_n | with_reducible apply tp_t2 | with_reducible apply tp_t3 | with_reducible apply tp_t4  | with_reducible apply tn_n | with_reducible apply tn_t2 | with_reducible apply tn_t3 | with_reducible apply tn_t4  | with_reducible exact wip0 | with_reducible apply wipS  | ((repeat with_reducible apply txnS); first | with_reducible exact txn0 | with_reducible exact txn1)  | ((repeat with_reducible apply txS); with_reducible exact tx0)  | with_reducible exact frz0 | ((with_reducible apply frzS); exact rfl) | with_reducible apply frzN  | ((repeat first | with_reducible apply Fgt.keep | with_reducible apply Fgt.give | with_reducible apply Fgt.drop); with_reducible exact .nil)  | with_reducible exact .nil | with_reducible exact .hit | with_reducible apply PutF.miss  | with_reducible exact seq_l | with_reducible exact seq_z  | with_reducible exact ItU.lst | with_reducible exact ItU.fz | with_reducible exact ItU.tup | with_reducible exact ItU.str ) | ((with_reducible apply KArg.go); first  | with_reducible exact a_n | with_reducible apply a_c  | with_reducible exact u_n | with_reducible apply u_c  | with_reducible apply k_n | with_reducible exact k_r | with_reducible exact k_f | with_reducible exact k_b | with_reducible exact k_c | with_reducible exact k_e  | with_reducible apply cd_t | with_reducible apply cd_f | with_reducible apply cd_n | with_reducible refine' cd_dt (by first | assumption | omega | decide) ?_ | with_reducible refine' cd_df (by first | assumption | omega | decide) ?_ | ((refine' cd_dt (by first | exact rfl | (simp; done)) ?_)) | ((refine' cd_df (by first | (simp; done) | (simp <;> omega)) ?_))  | with_reducible exact w_n | with_reducible apply w_c  | with_reducible exact w_o rfl | with_reducible apply w_p  | ((exact lent_of rfl)) | with_reducible exact lent_b | with_reducible exact lent_i | with_reducible exact lent_s | with_reducible exact lent_n | ((exact Or.inr rfl)) ))
local macro_rules | `(tactic| fail) => `(tactic| first
  | ((with_reducible apply KXp.go); first | ((with_reducible apply KpV.go); first | with_reducible exact x_v rfl | with_reducible exact x_ci | with_reducible exact x_cs | with_reducible exact x_cb | with_reducible exact x_cn) | ((with_reducible apply KpO.go); first | with_reducible apply x_op) | ((with_reducible apply KpC.go); first | with_reducible apply w_call | with_reducible apply w_calld (ns := [_])) | ((with_reducible apply KpB.go); first | with_reducible apply x_bf | with_reducible apply x_bk) | ((with_reducible apply KpF.go); first | ((with_reducible apply x_fldo (o := eV _)); (with_reducible exact t_v rfl)) | with_reducible apply x_fld | with_reducible apply x_fldo) | with_reducible exact x_v rfl | with_reducible exact x_ci | with_reducible exact x_cs | with_reducible exact x_cb | with_reducible exact x_cn | with_reducible apply x_op | with_reducible apply x_un | with_reducible apply x_ean | with_reducible apply x_eor | with_reducible apply x_ent | with_reducible apply x_eif | with_reducible apply x_tup | with_reducible (apply Xf.p; apply f_lst) | with_reducible (apply Xf.p; apply f_lcm) | with_reducible apply w_call | with_reducible apply w_calld (ns := [_]) | with_reducible apply x_bf | with_reducible apply x_bk | with_reducible apply x_sl | with_reducible apply x_chn | with_reducible apply x_isU | with_reducible exact f_dik.p | with_reducible exact f_dit.p | with_reducible apply x_get1 | ((with_reducible apply x_fldo (o := eV _)); (with_reducible exact t_v rfl)) | with_reducible apply x_fld | with_reducible apply x_fldo | with_reducible apply x_meth | with_reducible (apply Xf.p; apply f_make) )
  | ((with_reducible apply KXs.go); first | ((with_reducible apply KsA.go); first | with_reducible apply s_fz | with_reducible apply s_sq | with_reducible exact s_sk | with_reducible exact s_bk | with_reducible exact s_ct | with_reducible exact s_rn | with_reducible apply s_if) | ((with_reducible apply KsB.go); first | ((with_reducible apply s_exz (a := eMeth _ (eV _) _ _ _)); (with_reducible apply z_methO); exact rfl) | ((with_reducible apply s_app); exact rfl) | ((with_reducible apply s_ext); exact rfl) | ((with_reducible apply s_clr); exact rfl) | ((with_reducible apply s_fapp); exact rfl) | with_reducible apply s_ex) | ((with_reducible apply KsC.go); first | ((with_reducible apply s_asz (a := eMeth _ (eV _) _ _ _)); (with_reducible apply z_methO); exact rfl) | with_reducible apply s_aso | with_reducible apply s_as) | ((with_reducible apply KsD.go); first | ((with_reducible apply s_rtz (a := eMeth _ (eV _) _ _ _)); (with_reducible apply z_methO); exact rfl) | ((with_reducible apply s_ro); exact rfl) | with_reducible apply s_rf (a := eLst _) | with_reducible apply s_rf (a := eLc _ _ _ _ _) | with_reducible apply s_rt) | with_reducible apply s_fz | with_reducible apply s_sq | with_reducible exact s_sk | with_reducible exact s_bk | with_reducible exact s_ct | with_reducible exact s_rn | with_reducible apply s_if | ((with_reducible apply s_exz (a := eMeth _ (eV _) _ _ _)); (with_reducible apply z_methO); exact rfl) | ((with_reducible apply s_asz (a := eMeth _ (eV _) _ _ _)); (with_reducible apply z_methO); exact rfl) | ((with_reducible apply s_rtz (a := eMeth _ (eV _) _ _ _)); (with_reducible apply z_methO); exact rfl) | ((with_reducible apply s_app); exact rfl) | ((with_reducible apply s_ext); exact rfl) | ((with_reducible apply s_clr); exact rfl) | ((with_reducible apply s_fapp); exact rfl) | with_reducible apply s_ex | with_reducible apply s_aso | with_reducible apply s_as | with_reducible apply s_pr | ((with_reducible apply s_au); exact rfl) | ((with_reducible apply s_ro); exact rfl) | with_reducible apply s_rf (a := eLst _) | with_reducible apply s_rf (a := eLc _ _ _ _ _) | with_reducible apply s_rt | ((with_reducible apply s_stl); exact rfl) | ((with_reducible apply s_std); exact rfl) | ((with_reducible apply s_fstd); exact rfl) | ((with_reducible apply s_fstl); exact rfl) | ((with_reducible apply s_flo'); (exact rfl); decide) | ((with_reducible apply s_fl'); (exact rfl); decide) )
  | ((with_reducible apply KO2.go); first | ((with_reducible apply KoA.go); first | with_reducible exact o_add | with_reducible exact o_sub | with_reducible exact o_iadd | with_reducible apply o_mul | with_reducible apply o_div | with_reducible apply o_mod | with_reducible exact o_pow (by decide) | with_reducible (apply O2f.o2; apply of_addl) | with_reducible apply o_adds | with_reducible apply o_iadds | with_reducible apply o_addt) | ((with_reducible apply KoC.go); first | with_reducible exact o_lt | with_reducible exact o_le | with_reducible exact o_gt | with_reducible exact o_ge | with_reducible exact o_eq | with_reducible exact o_ne | with_reducible exact o_eqs | with_reducible exact o_nes | with_reducible exact o_eqb | with_reducible exact o_neb | with_reducible exact o_isn | with_reducible exact o_nsn | ((with_reducible apply o_isx); exact rfl) | ((with_reducible apply o_nsx); exact rfl)) | ((with_reducible apply KoX.go); first | ((with_reducible apply o_ixt); (first | assumption | exact rfl | exact at_int (by first | decide | omega) rfl)) | ((with_reducible apply o_ixl); (first | assumption | exact rfl | exact at_int (by first | decide | omega) rfl)) | ((with_reducible apply o_ixz); (first | assumption | exact rfl)) | ((with_reducible apply o_ixd); (exact rfl); (first | assumption | exact rfl)) | ((with_reducible apply o_ixdt); (exact rfl); (first | assumption | exact rfl))) | ((with_reducible apply KoI.go); first | with_reducible exact o_ini | with_reducible exact o_nii | ((with_reducible apply o_indt); exact rfl) | ((with_reducible apply o_nidt); exact rfl) | ((with_reducible apply o_ind); exact rfl) | ((with_reducible apply o_nid); exact rfl)) | with_reducible exact o_add | with_reducible exact o_sub | with_reducible exact o_iadd | with_reducible apply o_mul | with_reducible apply o_div | with_reducible apply o_mod | with_reducible exact o_pow (by decide) | with_reducible exact o_lt | with_reducible exact o_le | with_reducible exact o_gt | with_reducible exact o_ge | with_reducible exact o_eq | with_reducible exact o_ne | with_reducible exact o_eqs | with_reducible exact o_nes | with_reducible exact o_eqb | with_reducible exact o_neb | with_reducible exact o_isn | with_reducible exact o_nsn | ((with_reducible apply o_isx); exact rfl) | ((with_reducible apply o_nsx); exact rfl) | ((with_reducible apply o_ixt); (first | assumption | exact rfl | exact at_int (by first | decide | omega) rfl)) | with_reducible exact o_ini | with_reducible exact o_nii | ((with_reducible apply o_ixl); (first | assumption | exact rfl | exact at_int (by first | decide | omega) rfl)) | ((with_reducible apply o_ixz); (first | assumption | exact rfl)) | ((with_reducible apply o_ixd); (exact rfl); (first | assumption | exact rfl)) | ((with_reducible apply o_indt); exact rfl) | ((with_reducible apply o_nidt); exact rfl) | ((with_reducible apply o_ixdt); (exact rfl); (first | assumption | exact rfl)) | ((with_reducible apply o_ind); exact rfl) | ((with_reducible apply o_nid); exact rfl) | with_reducible (apply O2f.o2; apply of_addl) | with_reducible apply o_adds | with_reducible apply o_iadds | with_reducible apply o_addt )
  | ((with_reducible apply KXo.go); first  | with_reducible exact t_v rfl | with_reducible exact (x_v rfl).top | with_reducible apply t_fld | with_reducible apply Xp.top  | with_reducible apply b_v | with_reducible apply b_an | with_reducible apply b_or | with_reducible apply b_nt | with_reducible exact b_y  | with_reducible apply f_lst | with_reducible exact f_dik | with_reducible exact f_dit | with_reducible apply f_lcm | with_reducible apply f_bf | with_reducible apply f_op | with_reducible apply f_call | with_reducible apply f_sl | with_reducible apply f_eif | with_reducible apply f_bk | with_reducible apply f_make | with_reducible apply f_un  | with_reducible apply i_x | with_reducible apply i_r1 | with_reducible apply i_rn | with_reducible apply i_r2 | with_reducible apply i_en | with_reducible apply i_zp | with_reducible apply i_rv | with_reducible apply i_rr  | with_reducible apply j_x | with_reducible apply j_en | with_reducible apply j_zp | with_reducible (apply Xi.j; apply i_r1) | with_reducible (apply Xi.j; apply i_rn) | with_reducible (apply Xi.j; apply i_r2) | with_reducible (apply Xi.j; apply i_rv) | with_reducible (apply Xi.j; apply i_rr)  | ((with_reducible apply z_methO); exact rfl) | with_reducible apply Xp.z  | with_reducible exact o_n | with_reducible apply o_s )
  | ((with_reducible apply KOp.go); first  | with_reducible exact b_lenl | with_reducible exact b_lenz | with_reducible exact b_lent | with_reducible apply b_lens | with_reducible exact b_lend | with_reducible exact b_abs | with_reducible exact b_max | with_reducible exact b_max3 | with_reducible exact b_min | with_reducible exact b_sum | with_reducible exact b_inti | with_reducible exact b_intb | with_reducible exact b_strs | with_reducible apply b_stri | with_reducible apply b_dvm | with_reducible exact bf_lstl.b1 | with_reducible exact bf_lstt.b1 | with_reducible exact b_tupl | with_reducible exact bf_sr2.b1 | with_reducible apply b_maxl | with_reducible apply b_minl  | with_reducible exact ok_l | with_reducible exact ok_s  | with_reducible apply of_addl | with_reducible apply of_mull  | with_reducible exact bf_lstl | with_reducible exact bf_lstt | with_reducible exact bf_sr2 | with_reducible exact bf_lstq (.inr rfl)  | with_reducible exact o_neg | with_reducible (apply O1f.o1; apply of_srs)  | with_reducible apply of_srs  | with_reducible exact m_cnt | with_reducible exact m_find | with_reducible apply m_join | with_reducible apply m_idxs  | with_reducible apply mf_split  | ((exact isU (b := true) rfl)) | ((exact isU (b := false) rfl))  | with_reducible exact sf_l.s3 | with_reducible exact sf_z.s3 | with_reducible exact s3_t | with_reducible apply s3_s  | with_reducible exact sf_l | with_reducible exact sf_z )
  | ((with_reducible focus show OutU _ _); first | ((exact rfl)) | ((exact outU_d (by first | assumption | omega | exact rfl))) | ((exact outU_n (by first | assumption | omega))) )
  | ((with_reducible focus show OutF _ _); first | ((exact rfl)) )
  | ((with_reducible focus show Exists _); first | with_reducible apply Exists.intro )
  | ((with_reducible focus show _ ∧ _); first | with_reducible apply And.intro )
  | ((with_reducible focus show ∀ x ∈ _, ∃ y, _); intro x hx)
  | ((with_reducible focus show ∀ k g, _ ≠ U.obj k g); simp)
  | ((with_reducible focus show _ ∉ _); first | with_reducible decide )
  | ((with_reducible focus show _ ∈ _); first | with_reducible assumption | with_reducible decide )
  | ((with_reducible focus show _ < sizeLine); first | with_reducible (first | assumption | omega | decide | exact sz_le (by first | omega | decide | (simp <;> omega)) | exact sz_lt (by first | omega | decide | (simp <;> omega)) | (simp <;> omega)) )
  | ((with_reducible focus show _ ≤ sizeLine); first | with_reducible (first | assumption | omega | decide | exact sz_le (by first | omega | decide | (simp <;> omega)) | exact sz_lt (by first | omega | decide | (simp <;> omega)) | (simp <;> omega)) )
  | ((with_reducible focus show (_ : Option _) = some _); first | ((exact rfl)) | with_reducible assumption )
  | ((with_reducible focus show Option.isNone _ = true); first | ((exact rfl)) )
  | ((with_reducible focus show _ = _); first | with_reducible exact rfl | with_reducible assumption | with_reducible decide | with_reducible omega )
  | ((with_reducible focus show _ ≠ _); first | with_reducible assumption | with_reducible decide | with_reducible omega )
  | ((with_reducible focus show _ < _); first | with_reducible (first | assumption | omega | decide | (simp <;> omega)) )
  | ((with_reducible focus show _ ≤ _); first | with_reducible (first | assumption | omega | decide | (simp <;> omega)) ))
/-! books: parts by their numbers -/
inductive Pt where
  | raise (l : Nat) (t b : Int) | hold (b : Int) | ring (w : Str) (b : Int) | row (js : List Nat) | side (js : List Nat) | again (z : Int) (j : Nat)
def Pt.tag : Pt → Str
  | .raise _ _ _ => "raise"
  | .hold _ => "hold"
  | .ring _ _ => "ring"
  | .row _ => "row"
  | .side _ => "side"
  | .again _ _ => "again"
/-- the form's things behind its first word -/
def Pt.its (ln pn : Nat → Str) : Pt → List U
  | .raise l t b => [.str (ln l), .int t, .int b]
  | .hold b => [.int b]
  | .ring w b => [.str w, .int b]
  | .row js => [.tup (js.map fun j => .str (pn j))]
  | .side js => [.tup (js.map fun j => .str (pn j))]
  | .again z j => [.int z, .str (pn j)]
abbrev Pt.u (ln pn : Nat → Str) (p : Pt) : U := .tup (.str p.tag :: p.its ln pn)
abbrev limbU (x : Str × Int) : U := .tup [.str x.1, .int x.2]
abbrev partU (ln pn : Nat → Str) (x : Str × Pt) : U := .tup [.str x.1, x.2.u ln pn]
structure Bk where
  L : List (Str × Int)
  P : List (Str × Pt)
def Bk.ln (B : Bk) (l : Nat) : Str := (B.L.getD l ("", 0)).1
def Bk.pn (B : Bk) (k : Nat) : Str := (B.P.getD k ("", .hold 0)).1
def Bk.pt (B : Bk) (k : Nat) : Pt := (B.P.getD k ("", .hold 0)).2
abbrev Bk.u (B : Bk) : U := .tup [.lst (B.L.map limbU), .lst (B.P.map (partU B.ln B.pn))]
/-- the numbers of the parts that a form names -/
def Pt.js : Pt → List Nat
  | .row js => js
  | .side js => js
  | .again _ j => [j]
  | _ => []
def PtOk (nl k : Nat) : Pt → Prop
  | .raise l t b => l < nl ∧ 0 ≤ t ∧ t ≤ 10 ^ 18 ∧ 1 ≤ b ∧ b ≤ 10 ^ 18
  | .hold b => 1 ≤ b ∧ b ≤ 10 ^ 18
  | .ring w b => PyData.strOk w = true ∧ 1 ≤ b ∧ b ≤ 10 ^ 18
  | .row js => 1 ≤ js.length ∧ js.length ≤ 8 ∧ ∀ j ∈ js, j < k
  | .side js => 2 ≤ js.length ∧ js.length ≤ 4 ∧ ∀ j ∈ js, j < k
  | .again z j => 1 ≤ z ∧ z ≤ 10 ^ 18 ∧ j < k
structure Ok (B : Bk) : Prop where
  l1 : 1 ≤ B.L.length ∧ B.L.length ≤ 8
  p1 : 1 ≤ B.P.length ∧ B.P.length ≤ 70
  ln : (B.L.map (·.1)).Nodup
  pn : (B.P.map (·.1)).Nodup
  ls : ∀ x ∈ B.L, PyData.strOk x.1 = true ∧ 0 ≤ x.2 ∧ x.2 ≤ 10 ^ 18
  ps : ∀ x ∈ B.P, PyData.strOk x.1 = true
  pt : ∀ k x, B.P[k]? = some x → PtOk B.L.length k x.2
/-! what is reckoned -/
def lenF (acc : List Int) : Pt → Int
  | .raise _ _ b => b
  | .hold b => b
  | .ring _ b => b
  | .row js => (js.map fun j => acc.getD j 0).sum
  | .side js => (maxL (js.map fun j => acc.getD j 0)).getD 0
  | .again z j => z * acc.getD j 0
def Bk.pts (B : Bk) : List Pt := B.P.map (·.2)
def Bk.lens (B : Bk) : List Int := tab lenF B.pts
def Bk.lg (B : Bk) (k : Nat) : Int := B.lens.getD k 0
def mvF (acc : List (List Int)) : Pt → List Int
  | .raise l _ _ => [(l : Int)]
  | p => srtI (uniq (p.js.flatMap fun j => acc.getD j []))
def Bk.mvs (B : Bk) : List (List Int) := tab mvF B.pts
def Bk.mv (B : Bk) (k : Nat) : List Int := B.mvs.getD k []
/-- where a part leaves a limb -/
def eF (acc : List (Nat → Option Int)) : Pt → Nat → Option Int
  | .raise l t _ => fun z => if z = l then some t else none
  | p => fun z => p.js.reverse.findSome? fun j => (acc.getD j fun _ => none) z
def Bk.efs (B : Bk) : List (Nat → Option Int) := tab eF B.pts
def Bk.ef (B : Bk) (k : Nat) : Nat → Option Int := B.efs.getD k fun _ => none
def endL (n : Nat) (g : Nat → Option Int) : List (Int × Int) := (List.range n).filterMap fun l => (g l).map fun h => ((l : Int), h)
abbrev pairU (p : Int × Int) : U := .tup [.int p.1, .int p.2]
def Bk.ends (B : Bk) : List (List (Int × Int)) := B.efs.map (endL B.L.length)
/-- a book that is told its lengths -/
structure Sound (B : Bk) : Prop extends Ok B where
  lgb : ∀ k, k < B.P.length → B.lg k ≤ 10 ^ 60
  mvs : ∀ k js, B.pt k = .side js → k < B.P.length → (∀ j ∈ js, B.mv j ≠ []) ∧ js.Pairwise (fun i j => ∀ z ∈ B.mv i, z ∉ B.mv j)
section
variable {B : Bk}
theorem Bk.pt_at {k : Nat} {x : Str × Pt} (q : B.P[k]? = some x) : B.pt k = x.2 ∧ B.pn k = x.1 ∧ B.pts[k]? = some x.2 := ⟨by unfold Bk.pt; rw [getD_of q], by unfold Bk.pn; rw [getD_of q], by unfold Bk.pts; rw [List.getElem?_map, q]; rfl⟩
theorem Bk.P_at {k : Nat} (h : k < B.P.length) : B.P[k]? = some (B.pn k, B.pt k) := get_getD (("" : Str), Pt.hold 0) h
theorem Bk.L_at {l : Nat} (h : l < B.L.length) : B.L[l]? = some (B.ln l, (B.L.getD l ("", 0)).2) := get_getD (("" : Str), (0 : Int)) h
theorem Bk.pts_len : B.pts.length = B.P.length := List.length_map _
theorem Bk.lens_len : B.lens.length = B.P.length := (tab_len _).trans B.pts_len
theorem Bk.mvs_len : B.mvs.length = B.P.length := (tab_len _).trans B.pts_len
theorem Bk.efs_len : B.efs.length = B.P.length := (tab_len _).trans B.pts_len
theorem Ok.pt_ok (o : Ok B) {k : Nat} (h : k < B.P.length) : PtOk B.L.length k (B.pt k) := o.pt k _ (Bk.P_at h)
theorem PtOk.js_lt {n k : Nat} {p : Pt} (o : PtOk n k p) : ∀ j ∈ p.js, j < k := by
  cases p with
  | raise => intro j h; cases h
  | hold => intro j h; cases h
  | ring => intro j h; cases h
  | row js => exact o.2.2
  | side js => exact o.2.2
  | again z i => intro j h; rw [List.mem_singleton.mp h]; exact o.2.2
theorem PtOk.js_len {n k : Nat} {p : Pt} (o : PtOk n k p) : p.js.length ≤ 8 := by
  cases p with
  | row js => exact o.2.1
  | side js => have := o.2.1; show js.length ≤ 8; omega
  | again z i => show 1 ≤ 8; omega
  | _ => exact Nat.zero_le _
/-- lookups of those ahead -/
theorem lenF_congr {a a' : List Int} {p : Pt} (h : ∀ j ∈ p.js, a.getD j 0 = a'.getD j 0) : lenF a p = lenF a' p := by
  cases p with
  | row js =>
    have h : ∀ j ∈ js, a.getD j 0 = a'.getD j 0 := h
    show (js.map _).sum = (js.map _).sum; rw [List.map_congr_left h]
  | side js =>
    have h : ∀ j ∈ js, a.getD j 0 = a'.getD j 0 := h
    show (maxL (js.map fun j => a.getD j 0)).getD 0 = (maxL (js.map fun j => a'.getD j 0)).getD 0; rw [List.map_congr_left h]
  | again z j => show z * _ = z * _; rw [h j (by simp [Pt.js])]
  | _ => rfl
theorem Ok.lg_eq (o : Ok B) {k : Nat} (h : k < B.P.length) : B.lg k = lenF B.lens (B.pt k) := by
  unfold Bk.lg Bk.lens
  rw [getD_of (tab_at (Bk.pt_at (Bk.P_at h)).2.2)]
  exact lenF_congr fun j hj => getD_take ((o.pt_ok h).js_lt j hj)
theorem Ok.ef_eq (o : Ok B) {k : Nat} (h : k < B.P.length) : B.ef k = eF B.efs (B.pt k) := by
  unfold Bk.ef Bk.efs
  rw [getD_of (tab_at (Bk.pt_at (Bk.P_at h)).2.2)]
  have jl := (o.pt_ok h).js_lt
  have : ∀ js : List Nat, (∀ j ∈ js, j < k) → ∀ z, (js.reverse.findSome? fun j => (((tab eF B.pts).take k).getD j fun _ => none) z) = js.reverse.findSome? fun j => ((tab eF B.pts).getD j fun _ => none) z := fun js hj z => by
    have : ∀ ks : List Nat, (∀ j ∈ ks, j < k) → (ks.findSome? fun j => (((tab eF B.pts).take k).getD j fun _ => none) z) = ks.findSome? fun j => ((tab eF B.pts).getD j fun _ => none) z := fun ks hk => by
      induction ks with
      | nil => rfl
      | cons i ks ih => rw [List.findSome?_cons, List.findSome?_cons, getD_take (hk i (List.mem_cons_self ..)), ih fun j hj => hk j (List.mem_cons_of_mem _ hj)]
    exact this _ fun j q => hj j (List.mem_reverse.mp q)
  cases e : B.pt k with
  | raise => rfl
  | row js => rw [e] at jl; funext z; exact this js jl z
  | side js => rw [e] at jl; funext z; exact this js jl z
  | again z j => rw [e] at jl; funext z'; exact this [j] jl z'
  | hold => rfl
  | ring => rfl
theorem sum_ge {js : List Nat} {f : Nat → Int} (h : ∀ j ∈ js, 1 ≤ f j) : (js.length : Int) ≤ (js.map f).sum := by
  induction js with
  | nil => simp
  | cons j js ih =>
    have := ih fun i hi => h i (List.mem_cons_of_mem _ hi)
    have := h j (List.mem_cons_self ..)
    simp only [List.map_cons, List.sum_cons, List.length_cons]
    omega
theorem maxL_ex : ∀ {xs : List Int}, xs ≠ [] → ∃ m, maxL xs = some m ∧ m ∈ xs ∧ ∀ x ∈ xs, x ≤ m
  | [], h => absurd rfl h
  | x :: xs, _ => by
    have key : ∀ (ys : List Int) (a : Int), (ys.foldl (fun a b => if b > a then b else a) a = a ∨ ys.foldl (fun a b => if b > a then b else a) a ∈ ys) ∧ a ≤ ys.foldl (fun a b => if b > a then b else a) a ∧ ∀ y ∈ ys, y ≤ ys.foldl (fun a b => if b > a then b else a) a := fun ys => by
      induction ys with
      | nil => intro a; exact ⟨.inl rfl, Int.le_refl _, fun y h => by cases h⟩
      | cons y ys ih =>
        intro a
        obtain ⟨h1, h2, h3⟩ := ih (if y > a then y else a)
        rw [List.foldl_cons]
        refine ⟨?_, ?_, fun z hz => ?_⟩
        · rcases h1 with h1 | h1
          · by_cases c : y > a
            · rw [if_pos c] at h1 ⊢; exact .inr (by rw [h1]; exact List.mem_cons_self ..)
            · rw [if_neg c] at h1 ⊢; exact .inl h1
          · exact .inr (List.mem_cons_of_mem _ h1)
        · split at h2 <;> rename_i c
          · rw [if_pos c]; omega
          · rw [if_neg c]; exact h2
        · rcases List.mem_cons.mp hz with e | e
          · subst e
            split at h2 <;> rename_i c
            · rw [if_pos c]; exact h2
            · rw [if_neg c]; omega
          · exact h3 z e
    obtain ⟨h1, h2, h3⟩ := key xs x
    refine ⟨_, rfl, h1.elim (fun e => by rw [e]; exact List.mem_cons_self ..) (List.mem_cons_of_mem _), fun y hy => ?_⟩
    rcases List.mem_cons.mp hy with e | e
    · rw [e]; exact h2
    · exact h3 y e
theorem Ok.lg1 (o : Ok B) : ∀ k, k < B.P.length → 1 ≤ B.lg k := by
  intro k
  induction k using Nat.strongRecOn with
  | ind k ih =>
    intro h
    rw [o.lg_eq h]
    have ok := o.pt_ok h
    cases e : B.pt k with
    | raise l t b => rw [e] at ok; exact ok.2.2.2.1
    | hold b => rw [e] at ok; exact ok.1
    | ring w b => rw [e] at ok; exact ok.2.1
    | row js =>
      rw [e] at ok
      show 1 ≤ (js.map B.lg).sum
      have := sum_ge (js := js) (f := B.lg) fun j hj => ih j (ok.2.2 j hj) (Nat.lt_trans (ok.2.2 j hj) h)
      have := ok.1
      omega
    | side js =>
      rw [e] at ok
      show 1 ≤ (maxL (js.map B.lg)).getD 0
      have ne : (js.map B.lg) ≠ [] := fun e => by
        have := congrArg List.length e
        rw [List.length_map] at this
        have h2 := ok.1
        rw [this] at h2
        exact absurd h2 (by decide)
      obtain ⟨m, e1, m1, _⟩ := maxL_ex ne
      rw [e1]
      obtain ⟨j, hj, rfl⟩ := List.mem_map.mp m1
      exact ih j (ok.2.2 j hj) (Nat.lt_trans (ok.2.2 j hj) h)
    | again z j =>
      rw [e] at ok
      show 1 ≤ z * B.lg j
      have := ih j ok.2.2 (Nat.lt_trans ok.2.2 h)
      have z1 : 1 ≤ z := ok.1
      have h2 := Int.mul_le_mul z1 this (by omega) (by omega)
      omega
end
/-! books looked at: numbers, limbs moved, lengths, ends -/
def numU (xs : List Str) : List (Key × U) := xs.mapIdx fun i x => (.inr x, .int i)
theorem numU_len (xs : List Str) : (numU xs).length = xs.length := List.length_mapIdx
theorem numU_snoc (xs : List Str) (y : Str) : numU (xs ++ [y]) = numU xs ++ [(.inr y, .int xs.length)] := by unfold numU; rw [List.mapIdx_append]; simp
theorem numU_any {xs : List Str} {y : Str} (h : y ∉ xs) : ((numU xs).any fun kv => decide (kv.1 = (.inr y : Key))) = false := by
  rw [List.any_eq_false]
  intro kv hk e
  obtain ⟨i, q⟩ := List.mem_iff_getElem?.mp hk
  unfold numU at q
  rw [List.getElem?_mapIdx] at q
  cases e2 : xs[i]? with
  | none => rw [e2] at q; cases q
  | some x =>
    rw [e2] at q; cases q
    have : (Sum.inr x : Key) = .inr y := of_decide_eq_true e
    cases this
    exact h (List.mem_of_getElem? e2)
theorem numU_put {xs : List Str} {y : Str} (h : y ∉ xs) : putKU (numU xs) (.inr y) (.int xs.length) = numU (xs ++ [y]) := by
  unfold putKU
  rw [numU_any h, numU_snoc]; rfl
theorem find_snoc {κ : Type} [DecidableEq κ] {kvs : List (κ × U)} {k : κ} {u : U} (h : (kvs.any fun kv => decide (kv.1 = k)) = false) : valU (kvs ++ [(k, u)]) k = some u := by
  unfold valU
  rw [List.find?_append]
  have : kvs.find? (fun kv => decide (kv.1 = k)) = none := by
    rw [List.find?_eq_none]
    intro x hx e
    rw [List.any_eq_false] at h
    exact h x hx e
  rw [this]
  simp
theorem find_app {κ : Type} [DecidableEq κ] {kvs ms : List (κ × U)} {k : κ} {u : U} (h : valU kvs k = some u) : valU (kvs ++ ms) k = some u := by
  unfold valU at h ⊢
  rw [List.find?_append]
  cases e : kvs.find? (fun kv => decide (kv.1 = k)) with
  | none => rw [e] at h; cases h
  | some x => rw [e] at h; exact h
theorem numU_val {xs : List Str} (nd : xs.Nodup) : ∀ {j : Nat} {y : Str}, xs[j]? = some y → valU (numU xs) (.inr y) = some (.int j) := by
  induction xs using snoc_ind with
  | h0 => intro j y q; simp at q
  | h1 xs x ih =>
    intro j y q
    rw [List.nodup_append] at nd
    rw [numU_snoc]
    by_cases hj : j < xs.length
    · rw [List.getElem?_append_left hj] at q
      exact find_app (ih nd.1 q)
    · rw [List.getElem?_append_right (by omega)] at q
      have e0 : j - xs.length = 0 := by have := (List.getElem?_eq_some_iff.mp q).1; simp at this; omega
      rw [e0] at q; cases q
      have e1 : j = xs.length := by omega
      rw [e1]
      exact find_snoc (numU_any fun h => nd.2.2 _ h _ (by simp) rfl)
theorem nd_take {xs : List Str} (nd : xs.Nodup) {j : Nat} {y : Str} (q : xs[j]? = some y) : y ∉ xs.take j := fun h => by
  obtain ⟨i, hi⟩ := List.mem_iff_getElem?.mp h
  have hl := (List.getElem?_eq_some_iff.mp hi).1
  rw [List.length_take] at hl
  rw [List.getElem?_take, if_pos (by omega)] at hi
  have := (List.getElem?_inj (l := xs) (show i < xs.length by omega) nd).mp (hi.trans q.symm)
  omega
/-! books looked at: numbers, limbs moved, lengths, ends, the code -/
theorem numbers_of_u {α : Type} {C : Ctx} {xs : List α} {f : α → U} {nm : α → Str} (hf : ∀ x, O2 opIx (f x) (.int 0) (.str (nm x))) (nd : (xs.map nm).Nodup) (l : xs.length ≤ 500) (fu : 1000 < C.fuel) : Fu (runFn C f_numbers_of) [.lst (xs.map f)] (.dic (numU (xs.map nm))) := by
  refine fu_of rfl (by simp only [List.map_cons, List.map_nil, List.length_cons, List.length_nil, List.cons_append, List.nil_append, Nat.reduceAdd, Nat.reduceSub, List.replicate_succ, List.replicate_zero]; exact rfl) ?_
  (repeat first | fail "p" | fail)
  · refine s_fore (xs := xs) (f := f) (S := fun j => [.s (.lst (xs.map f)), .o (.dic (numU ((xs.map nm).take j))), .n, .n]) ?_ (by omega) ?_ ?_
    · (repeat first | fail "p" | fail)
    · show Fgt _ [_, .o (.dic []), _, _]; (repeat first | fail "p" | fail)
    · intro j x q
      have q2 : (xs.map nm)[j]? = some (nm x) := by rw [List.getElem?_map, q]; rfl
      have jl := (List.getElem?_eq_some_iff.mp q2).1
      have tl : ((xs.map nm).take j).length = j := by rw [List.length_take]; omega
      have sz : (numU ((xs.map nm).take j)).length < sizeLine := sz_lt (by rw [numU_len, tl]; simp at jl; omega)
      refine ⟨_, by (repeat first | fail "p" | fail), bod_nx (by unfold b_numbers_of_1; (repeat first | fail "p" | with_reducible exact hf x | fail)) ?_⟩
      have := numU_put (nd_take nd q2)
      rw [tl] at this
      rw [this, ← take_snoc_g q2]
      (repeat first | fail "p" | fail)
  (repeat first | fail "p" | fail)
  show U.dic (numU ((xs.map nm).take xs.length)) = U.dic _
  rw [List.take_of_length_le (by simp)]
theorem named_u {C : Ctx} {ln pn : Nat → Str} {nums : List (Key × U)} {p : Pt} (fu : 1000 < C.fuel) (l8 : p.js.length ≤ 8) (hv : ∀ j ∈ p.js, valU nums (.inr (pn j)) = some (.int j)) : Fu (runFn C f_named) [p.u ln pn, .dic nums] (.lst (p.js.map fun j : Nat => .int j)) := by
  cases p with
  | raise => dsimp only [Pt.u, Pt.tag, Pt.its]; refine fu_of rfl (by simp only [List.map_cons, List.map_nil, List.length_cons, List.length_nil, List.cons_append, List.nil_append, Nat.reduceAdd, Nat.reduceSub, List.replicate_succ, List.replicate_zero]; exact rfl) ?_; (repeat first | fail "p" | fail)
  | hold => dsimp only [Pt.u, Pt.tag, Pt.its]; refine fu_of rfl (by simp only [List.map_cons, List.map_nil, List.length_cons, List.length_nil, List.cons_append, List.nil_append, Nat.reduceAdd, Nat.reduceSub, List.replicate_succ, List.replicate_zero]; exact rfl) ?_; (repeat first | fail "p" | fail)
  | ring => dsimp only [Pt.u, Pt.tag, Pt.its]; refine fu_of rfl (by simp only [List.map_cons, List.map_nil, List.length_cons, List.length_nil, List.cons_append, List.nil_append, Nat.reduceAdd, Nat.reduceSub, List.replicate_succ, List.replicate_zero]; exact rfl) ?_; (repeat first | fail "p" | fail)
  | row js =>
    dsimp only [Pt.u, Pt.tag, Pt.its, Pt.js] at l8 hv ⊢
    refine fu_of rfl (by simp only [List.map_cons, List.map_nil, List.length_cons, List.length_nil, List.cons_append, List.nil_append, Nat.reduceAdd, Nat.reduceSub, List.replicate_succ, List.replicate_zero]; exact rfl) ?_; (repeat first | fail "p" | with_reducible exact o_ixd rfl (hv _ (by assumption)) | fail)
  | side js =>
    dsimp only [Pt.u, Pt.tag, Pt.its, Pt.js] at l8 hv ⊢
    refine fu_of rfl (by simp only [List.map_cons, List.map_nil, List.length_cons, List.length_nil, List.cons_append, List.nil_append, Nat.reduceAdd, Nat.reduceSub, List.replicate_succ, List.replicate_zero]; exact rfl) ?_; (repeat first | fail "p" | with_reducible exact o_ixd rfl (hv _ (by assumption)) | fail)
  | again z j =>
    dsimp only [Pt.u, Pt.tag, Pt.its, Pt.js] at l8 hv ⊢
    have := hv j (by simp)
    refine fu_of rfl (by simp only [List.map_cons, List.map_nil, List.length_cons, List.length_nil, List.cons_append, List.nil_append, Nat.reduceAdd, Nat.reduceSub, List.replicate_succ, List.replicate_zero]; exact rfl) ?_; (repeat first | fail "p" | with_reducible exact o_ixd rfl this | fail)

theorem lmul {z x : Int} (z0 : 0 ≤ z) (z1 : z ≤ 10 ^ 18) (x0 : 0 ≤ x) (x1 : x ≤ 10 ^ 60) : mulOk z x = true := by
  have lb60 : ∀ x : Int, 0 ≤ x → x ≤ 10 ^ 60 → x.natAbs.log2 ≤ 300 := fun x x1 x2 => by
    by_cases h0 : x.natAbs = 0
    · rw [h0]; decide
    · exact Nat.le_of_lt ((Nat.log2_lt h0).mpr (Nat.lt_of_le_of_lt (show x.natAbs ≤ 10 ^ 60 by omega) (by decide)))
  unfold mulOk
  have h1 := lb60 z z0 (by omega)
  have h2 := lb60 x x0 x1
  exact decide_eq_true (by omega)
/-- a form's length by those of the parts named -/
def lenB (below : List Int) : Pt → Int
  | .raise _ _ b => b
  | .hold b => b
  | .ring _ b => b
  | .row _ => below.sum
  | .side _ => (maxL below).getD 0
  | .again z _ => z * below.getD 0 0
theorem lenB_eq {acc : List Int} {p : Pt} : lenB (p.js.map fun j => acc.getD j 0) p = lenF acc p := by
  cases p <;> rfl
theorem length_of_u {C : Ctx} {ln pn : Nat → Str} {nl k : Nat} {p : Pt} {below : List Int} (o : PtOk nl k p) (bl : below.length = p.js.length) (bb : ∀ x ∈ below, 0 ≤ x ∧ x ≤ 10 ^ 60) : Fu (runFn C f_length_of) [p.u ln pn, .lst (below.map U.int)] (.int (lenB below p)) := by
  have ixm : ∀ {us : List U} {u : U}, us.getLast? = some u → O2 opIx (.tup us) (.int (-1)) u := fun q => o_ixt (at_m1 q)
  cases p with
  | raise l t b => dsimp only [Pt.u, Pt.tag, Pt.its]; refine fu_of rfl (by simp only [List.map_cons, List.map_nil, List.length_cons, List.length_nil, List.cons_append, List.nil_append, Nat.reduceAdd, Nat.reduceSub, List.replicate_succ, List.replicate_zero]; exact rfl) ?_; (repeat first | fail "p" | with_reducible exact ixm rfl | fail)
  | hold b => dsimp only [Pt.u, Pt.tag, Pt.its]; refine fu_of rfl (by simp only [List.map_cons, List.map_nil, List.length_cons, List.length_nil, List.cons_append, List.nil_append, Nat.reduceAdd, Nat.reduceSub, List.replicate_succ, List.replicate_zero]; exact rfl) ?_; (repeat first | fail "p" | with_reducible exact ixm rfl | fail)
  | ring w b => dsimp only [Pt.u, Pt.tag, Pt.its]; refine fu_of rfl (by simp only [List.map_cons, List.map_nil, List.length_cons, List.length_nil, List.cons_append, List.nil_append, Nat.reduceAdd, Nat.reduceSub, List.replicate_succ, List.replicate_zero]; exact rfl) ?_; (repeat first | fail "p" | with_reducible exact ixm rfl | fail)
  | row js => dsimp only [Pt.u, Pt.tag, Pt.its]; refine fu_of rfl (by simp only [List.map_cons, List.map_nil, List.length_cons, List.length_nil, List.cons_append, List.nil_append, Nat.reduceAdd, Nat.reduceSub, List.replicate_succ, List.replicate_zero]; exact rfl) ?_; (repeat first | fail "p" | fail)
  | side js =>
    have ne : below ≠ [] := fun e => by
      rw [e] at bl
      have h2 := o.1
      rw [show js.length = 0 from bl.symm] at h2
      exact absurd h2 (by decide)
    obtain ⟨m, e, _, _⟩ := maxL_ex ne
    dsimp only [Pt.u, Pt.tag, Pt.its]
    show Fu _ _ (.int ((maxL below).getD 0))
    rw [e]
    refine fu_of rfl (by simp only [List.map_cons, List.map_nil, List.length_cons, List.length_nil, List.cons_append, List.nil_append, Nat.reduceAdd, Nat.reduceSub, List.replicate_succ, List.replicate_zero]; exact rfl) ?_; (repeat first | fail "p" | fail)
  | again z j =>
    cases below with
    | nil => cases bl
    | cons x r =>
      have hx := bb x (List.mem_cons_self ..)
      have z0 : 1 ≤ z := o.1
      have z1 : z ≤ 10 ^ 18 := o.2.1
      have mk : mulOk z x = true := lmul (by omega) z1 hx.1 hx.2
      have ix : O2 opIx (.lst ((x :: r).map U.int)) (.int 0) (.int x) := o_ixl (at_int (by decide) rfl)
      dsimp only [Pt.u, Pt.tag, Pt.its]
      refine fu_of rfl (by simp only [List.map_cons, List.map_nil, List.length_cons, List.length_nil, List.cons_append, List.nil_append, Nat.reduceAdd, Nat.reduceSub, List.replicate_succ, List.replicate_zero]; exact rfl) ?_; (repeat first | fail "p" | with_reducible exact ix | fail)

/-- nothing is refused -/
theorem look_at_side_u {C : Ctx} {n : Nat} {book : U} {ls : List U} {Ms : List (List Int)} {row : Int} (hb : O2 opIx book (.int 0) (.lst ls)) (hl : ls.length = n) (n8 : n ≤ 8) (m8 : Ms.length ≤ 100) (fu : 1000 < C.fuel) (ne : ∀ M ∈ Ms, M ≠ []) (dj : Ms.Pairwise fun M N => ∀ z ∈ M, z ∉ N) : Fu (runFn C f_look_at_side) [book, .int row, .lst (Ms.map fun M => .lst (M.map U.int))] .non := by
  subst hl
  have cl : Cl 2 (.lst (Ms.map fun M => U.lst (M.map U.int))) := .lst fun u hu => by
    obtain ⟨M, _, rfl⟩ := List.mem_map.mp hu
    exact cl_ints
  have nin : U.lst [] ∉ Ms.map fun M => U.lst (M.map U.int) := fun h => by
    obtain ⟨M, hm, e⟩ := List.mem_map.mp h
    have e : M.map U.int = [] := by injection e
    exact ne M hm (List.map_eq_nil_iff.mp e)
  have i1 : O2 opIn (.lst []) (.lst (Ms.map fun M => U.lst (M.map U.int))) (.bl false) := o_inf (n := 1) (.lst fun u hu => by cases hu) cl (by decide) (by decide) nin
  have one : ∀ z : Int, (Ms.filter fun M => decide (z ∈ M)).length ≤ 1 := fun z => by
    clear cl nin i1 m8 ne
    induction Ms with
    | nil => simp
    | cons M Ms ih =>
      rw [List.pairwise_cons] at dj
      have := ih dj.2
      rw [List.filter_cons]
      split
      · rename_i h
        have : Ms.filter (fun M => decide (z ∈ M)) = [] := by
          rw [List.filter_eq_nil_iff]
          intro N hN
          simpa using dj.1 N hN z (by simpa using h)
        rw [this]; simp
      · exact this
  refine fu_of rfl (by simp only [List.map_cons, List.map_nil, List.length_cons, List.length_nil, List.cons_append, List.nil_append, Nat.reduceAdd, Nat.reduceSub, List.replicate_succ, List.replicate_zero]; exact rfl) ?_
  (repeat first | fail "p" | with_reducible exact i1 | fail)
  · refine s_forn (n := ls.length) (S := fun j => [.s book, .s (.int row), .s (.lst (Ms.map fun M => .lst (M.map U.int))), .n, .n]) (by (repeat first | fail "p" | with_reducible exact hb | fail)) (by omega) (by (repeat first | fail "p" | fail)) ?_
    intro j hj
    refine ⟨_, by (repeat first | fail "p" | fail), ?_⟩
    apply bod_nx
    · unfold b_look_at_side_1
      have LC : Xf C [.s book, .s (.int row), .s (.lst (Ms.map fun M => .lst (M.map U.int))), .s (.int (j : Int)), .n] (eLc [4] (gN 4) (iA (eV 2)) (tV (eOp opIn (eV 3) (eV 4))) (eV 4)) (.lst ((Ms.filter fun M => decide ((j : Int) ∈ M)).map fun M => .lst (M.map U.int))) := by
        refine f_lcf (xs := Ms) (by (repeat first | fail "p" | fail)) (by (repeat first | fail "p" | fail)) (by (repeat first | fail "p" | fail)) (by omega) fun M hM => ⟨_, by (repeat first | fail "p" | fail), by (repeat first | fail "p" | fail), fun _ => by (repeat first | fail "p" | fail)⟩
      have n1 := one j
      have ln : ¬ (1 : Int) < (((Ms.filter fun M => decide ((j : Int) ∈ M)).map fun M => U.lst (M.map U.int)).length : Int) := by rw [List.length_map]; omega
      (repeat first | fail "p" | with_reducible exact LC.p.top | fail)
    · (repeat first | fail "p" | fail)
  (repeat first | fail "p" | fail)
/-! limbs moved, lengths, ends of a book -/
abbrev intsU (M : List Int) : U := .lst (M.map U.int)
theorem own_raise {l : Nat} : srtI (uniq [(l : Int)]) = [(l : Int)] := by simp [uniq, srtI]
def ownL : Pt → List Int
  | .raise l _ _ => [(l : Int)]
  | _ => []
theorem mvF_own {acc : List (List Int)} {p : Pt} : mvF acc p = srtI (uniq (ownL p ++ p.js.flatMap fun j => acc.getD j [])) := by
  cases p with
  | raise => show _ = srtI (uniq [_]); rw [own_raise]; rfl
  | _ => rfl
theorem fm_snoc {α β : Type} {f : α → List β} {xs : List α} {j : Nat} {x : α} (q : xs[j]? = some x) : (xs.take (j + 1)).flatMap f = (xs.take j).flatMap f ++ f x := by rw [take_snoc_g q, List.flatMap_append]; simp
theorem srt_mem {xs : List Int} {z : Int} : z ∈ srtI xs ↔ z ∈ xs := List.mem_mergeSort
theorem rise_len : ∀ (xs : List Int) (lo n : Int), xs.Pairwise (· < ·) → (∀ x ∈ xs, lo ≤ x ∧ x < n) → (xs.length : Int) ≤ max 0 (n - lo)
  | [], lo, n, _, _ => by simp; omega
  | x :: xs, lo, n, hp, hb => by
    rw [List.pairwise_cons] at hp
    have h1 := hb x (List.mem_cons_self ..)
    have ih := rise_len xs (x + 1) n hp.2 fun y hy => ⟨hp.1 y hy, (hb y (List.mem_cons_of_mem _ hy)).2⟩
    rw [List.length_cons]
    omega
theorem srt_lt {xs : List Int} (h : xs.Nodup) : (srtI xs).Pairwise (· < ·) := by
  have h1 : (srtI xs).Pairwise (fun a b => (decide (a ≤ b)) = true) := List.pairwise_mergeSort (fun a b c h1 h2 => by simp at *; omega) (fun a b => by simp; omega) xs
  have h2 : (srtI xs).Nodup := (List.mergeSort_perm xs _).nodup_iff.mpr h
  exact (h1.and h2).imp fun ⟨a, b⟩ => by simp at a; omega
theorem uniq_bd {ns : List Int} {n : Nat} (h : ∀ z ∈ ns, 0 ≤ z ∧ z < n) : (uniq ns).length ≤ n := by
  have := rise_len (srtI (uniq ns)) 0 n (srt_lt (uniq_nd ns)) fun z hz => h z (uniq_mem.mp (srt_mem.mp hz))
  have e : (srtI (uniq ns)).length = (uniq ns).length := (List.mergeSort_perm (uniq ns) _).length_eq
  omega
/-- what is moved is below nl -/
theorem mv_bd {nl : Nat} : ∀ ps : List Pt, (∀ k p, ps[k]? = some p → PtOk nl k p) → ∀ M ∈ tab mvF ps, (∀ z ∈ M, 0 ≤ z ∧ z < nl) ∧ M.Pairwise (· < ·) := by
  intro ps
  induction ps using snoc_ind with
  | h0 => intro _ M h; cases h
  | h1 ps p ih =>
    intro o M h
    rw [tab_snoc] at h
    have ih := ih fun k q e => o k q (by rw [List.getElem?_append_left (List.getElem?_eq_some_iff.mp e).1]; exact e)
    rcases List.mem_append.mp h with h | h
    · exact ih M h
    · rw [List.mem_singleton.mp h, mvF_own]
      have op := o ps.length p (by simp)
      refine ⟨fun z hz => ?_, ?_⟩
      · rw [srt_mem, uniq_mem] at hz
        rcases List.mem_append.mp hz with hz | hz
        · cases p with
          | raise l t b =>
            have h1 : l < nl := op.1
            have h2 : z = l := List.mem_singleton.mp hz
            omega
          | _ => cases hz
        · obtain ⟨j, hj, hz⟩ := List.mem_flatMap.mp hz
          cases e : (tab mvF ps)[j]? with
          | none => rw [List.getD_eq_getElem?_getD, e] at hz; cases hz
          | some N => rw [getD_of e] at hz; exact (ih N (List.mem_of_getElem? e)).1 z hz
      · exact srt_lt (uniq_nd _)
theorem Ok.mv_ok {B : Bk} (o : Ok B) {j : Nat} {M : List Int} (q : (B.mvs)[j]? = some M) : (∀ z ∈ M, 0 ≤ z ∧ z < B.L.length) ∧ M.Pairwise (· < ·) ∧ M.length ≤ 8 := by
  obtain ⟨h1, h2⟩ := mv_bd (nl := B.L.length) B.pts (fun k p e => by
    unfold Bk.pts at e
    rw [List.getElem?_map] at e
    cases e2 : B.P[k]? with
    | none => rw [e2] at e; cases e
    | some x => rw [e2] at e; cases e; exact o.pt k x e2) M (List.mem_of_getElem? q)
  refine ⟨h1, h2, ?_⟩
  have := rise_len _ 0 B.L.length h2 h1
  have := o.l1
  omega
theorem Bk.mv_at {B : Bk} {k : Nat} (h : k < B.P.length) : B.mvs[k]? = some (B.mv k) := get_getD [] (by rw [Bk.mvs_len]; exact h)
theorem Bk.lg_at {B : Bk} {k : Nat} (h : k < B.P.length) : B.lens[k]? = some (B.lg k) := get_getD 0 (by rw [Bk.lens_len]; exact h)
/-- the table's first rows -/
theorem tab_pts {β : Type} {f : List β → Pt → β} {B : Bk} {k : Nat} {x : Str × Pt} (q : B.P[k]? = some x) : tab f (B.pts.take (k + 1)) = tab f (B.pts.take k) ++ [f (tab f (B.pts.take k)) x.2] := by
  rw [take_snoc_g (Bk.pt_at q).2.2, tab_snoc]
theorem map_snoc {α β : Type} (f : α → β) (xs : List α) (x : α) : (xs ++ [x]).map f = xs.map f ++ [f x] := by simp
theorem intsU_snoc {M : List Int} {z : Int} : intsU (M ++ [z]) = .lst (M.map U.int ++ [.int z]) := by show U.lst _ = U.lst _; rw [map_snoc]
theorem side_of {p : Pt} (h : p.tag = "side") : ∃ js, p = .side js := by
  cases p with
  | side js => exact ⟨js, rfl⟩
  | raise => exact absurd h (show ("raise" : Str) ≠ "side" by decide)
  | hold => exact absurd h (show ("hold" : Str) ≠ "side" by decide)
  | ring => exact absurd h (show ("ring" : Str) ≠ "side" by decide)
  | row => exact absurd h (show ("row" : Str) ≠ "side" by decide)
  | again => exact absurd h (show ("again" : Str) ≠ "side" by decide)
/-! limbs moved, lengths: the code -/
structure C61 (C : Ctx) (B : Bk) : Prop where
  fu : 1000 < C.fuel
  L : Fu (C.call 61) [.lst (B.L.map limbU)] (.dic (numU (B.L.map (·.1))))
  P : Fu (C.call 61) [.lst (B.P.map (partU B.ln B.pn))] (.dic (numU (B.P.map (·.1))))
  nm : ∀ (k : Nat) (x : Str × Pt), B.P[k]? = some x → Fu (C.call 62) [x.2.u B.ln B.pn, .dic (numU (B.P.map (·.1)))] (.lst (x.2.js.map fun j : Nat => .int j))
theorem Ok.hand {B : Bk} (o : Ok B) {l : Nat} (h : l < B.L.length) : valU (numU (B.L.map (·.1))) (.inr (B.ln l)) = some (.int l) := numU_val o.ln (by rw [List.getElem?_map, Bk.L_at h]; rfl)
theorem Ok.num {B : Bk} (o : Ok B) {j : Nat} (h : j < B.P.length) : valU (numU (B.P.map (·.1))) (.inr (B.pn j)) = some (.int j) := numU_val o.pn (by rw [List.getElem?_map, Bk.P_at h]; rfl)
theorem moved_u {C : Ctx} {B : Bk} (o : Ok B) (c : C61 C B) : Ff (runFn C f_moved) [B.u] (.lst (B.mvs.map intsU)) := by
  have fu := c.fu
  have p1 := o.p1
  have cL := c.L
  have cP := c.P
  refine ff_of rfl (by simp only [List.map_cons, List.map_nil, List.length_cons, List.length_nil, List.cons_append, List.nil_append, Nat.reduceAdd, Nat.reduceSub, List.replicate_succ, List.replicate_zero]; exact rfl) ?_
  (repeat first | fail "p" | with_reducible exact cL | with_reducible exact cP | fail)
  · refine s_fors (xs := B.P) (f := partU B.ln B.pn) (S := fun j => [.s B.u, .s (.dic (numU (B.L.map (·.1)))), .s (.dic (numU (B.P.map (·.1)))), .o (.lst ((tab mvF (B.pts.take j)).map intsU)), .n, .n, .n, .n]) ?_ (by omega) ?_ ?_
    · (repeat first | fail "p" | fail)
    · show Fgt _ [_, _, _, .o (.lst []), _, _, _, _]; (repeat first | fail "p" | fail)
    intro k x q
    have kl := (List.getElem?_eq_some_iff.mp q).1
    have op := o.pt k x q
    have cn := c.nm k x q
    have ms : tab mvF (B.pts.take k) = B.mvs.take k := tab_take _ _
    refine ⟨_, by (repeat first | fail "p" | fail), ?_⟩
    obtain ⟨M, hM⟩ : ∃ M, M = tab mvF (B.pts.take k) := ⟨_, rfl⟩
    have ml : M.length = k := by rw [hM, ms, List.length_take, Bk.mvs_len]; omega
    have m8 : ∀ j, (M.getD j []).length ≤ 8 := fun j => by
      rw [hM, ms]
      cases e : (B.mvs.take k)[j]? with
      | none => rw [List.getD_eq_getElem?_getD, e]; simp
      | some N =>
        rw [getD_of e]
        rw [List.getElem?_take] at e
        split at e
        · exact (o.mv_ok e).2.2
        · cases e
    have mb : ∀ j, ∀ z ∈ M.getD j [], 0 ≤ z ∧ z < B.L.length := fun j => by
      rw [hM, ms]
      cases e : (B.mvs.take k)[j]? with
      | none => rw [List.getD_eq_getElem?_getD, e]; intro z hz; cases hz
      | some N =>
        rw [getD_of e]
        rw [List.getElem?_take] at e
        split at e
        · exact (o.mv_ok e).1
        · cases e
    have fl : ∀ js : List Nat, (js.flatMap fun j => M.getD j []).length ≤ 8 * js.length := fun js => by
      induction js with
      | nil => simp
      | cons j js ih => have := m8 j; rw [List.flatMap_cons, List.length_append, List.length_cons]; omega
    obtain ⟨n, p⟩ := x
    dsimp only at op cn
    -- the loop over the parts named
    have LP : ∀ (own : List Int), own.length ≤ 1 → Xs C [] [.s B.u, .s (.dic (numU (B.L.map (·.1)))), .s (.dic (numU (B.P.map (·.1)))), .o (.lst (M.map intsU)), .s (.str n), .s (p.u B.ln B.pn), .o (intsU own), .n] (sFo (gN 7) (iA (eCall 62 (aC (eV 5) (aC (eV 2) aN)) [])) b_moved_1)
        (.nx [.s B.u, .s (.dic (numU (B.L.map (·.1)))), .s (.dic (numU (B.P.map (·.1)))), .o (.lst (M.map intsU)), .s (.str n), .s (p.u B.ln B.pn), .o (intsU (own ++ p.js.flatMap fun j => M.getD j [])), .n]) := fun own o1 => by
      have j8 := op.js_len
      have := s_fors (C := C) (io := []) (g := gN 7) (mi := iA (eCall 62 (aC (eV 5) (aC (eV 2) aN)) [])) (b := b_moved_1) (pe := [.s B.u, .s (.dic (numU (B.L.map (·.1)))), .s (.dic (numU (B.P.map (·.1)))), .o (.lst (M.map intsU)), .s (.str n), .s (p.u B.ln B.pn), .o (intsU own), .n])
        (xs := p.js) (f := fun j : Nat => .int j) (S := fun i => [.s B.u, .s (.dic (numU (B.L.map (·.1)))), .s (.dic (numU (B.P.map (·.1)))), .o (.lst (M.map intsU)), .s (.str n), .s (p.u B.ln B.pn), .o (intsU (own ++ (p.js.take i).flatMap fun j => M.getD j [])), .n]) (by (repeat first | fail "p" | with_reducible exact cn | fail)) (by omega) (by
          show Fgt _ [_, _, _, _, _, _, .o (.lst ((own ++ []).map U.int)), _]
          rw [List.append_nil]; (repeat first | fail "p" | fail)) (fun i j qj => by
          have jk := op.js_lt j (List.mem_of_getElem? qj)
          have il := (List.getElem?_eq_some_iff.mp qj).1
          have ixm : O2 opIx (.lst (M.map intsU)) (.int (j : Int)) (intsU (M.getD j [])) := o_ixl (at_nat (by rw [List.getElem?_map, get_getD [] (by omega)]; rfl))
          have h1 := m8 j
          have h2 := fl (p.js.take i)
          have h3 : (p.js.take i).length = i := by rw [List.length_take]; omega
          have sz : ((own ++ (p.js.take i).flatMap fun j => M.getD j []).map U.int).length + ((M.getD j []).map U.int).length ≤ sizeLine := sz_le (by rw [List.length_map, List.length_map, List.length_append]; omega)
          refine ⟨_, by (repeat first | fail "p" | fail), ?_⟩
          apply bod_nx
          · unfold b_moved_1; (repeat first | fail "p" | with_reducible exact ixm | fail)
          · rw [← List.map_append, List.append_assoc, ← fm_snoc qj]
            (repeat first | fail "p" | fail))
      rwa [List.take_length] at this
    have sz2 : (M.map intsU).length < sizeLine := sz_lt (by rw [List.length_map]; omega)
    have key : ∀ own : List Int, own = ownL p → ∃ b : (own ++ p.js.flatMap fun j => M.getD j []).length + 1 < scanBound ∧ (uniq (own ++ p.js.flatMap fun j => M.getD j [])).length < 64, True := fun own e => by
      refine ⟨⟨?_, ?_⟩, trivial⟩
      · have h1 := fl p.js
        have h2 := op.js_len
        have h3 : (ownL p).length ≤ 1 := by cases p <;> simp [ownL]
        rw [List.length_append, e]
        refine Nat.lt_of_le_of_lt (show _ ≤ 1000 by omega) (by decide)
      · have := uniq_bd (n := B.L.length) (ns := own ++ p.js.flatMap fun j => M.getD j []) fun z hz => by
          rcases List.mem_append.mp hz with hz | hz
          · rw [e] at hz
            cases p with
            | raise l t b => have h1 : l < B.L.length := op.1; have h2 : z = l := List.mem_singleton.mp hz; omega
            | _ => cases hz
          · obtain ⟨j, _, hz⟩ := List.mem_flatMap.mp hz
            exact mb j z hz
        have := o.l1
        omega
    have fin : tab mvF (B.pts.take (k + 1)) = M ++ [srtI (uniq (ownL p ++ p.js.flatMap fun j => M.getD j []))] := by rw [tab_pts q, ← hM, mvF_own]
    rw [← hM]
    obtain ⟨szb, _⟩ := key _ rfl
    cases p with
    | raise l t b =>
      have hv := o.hand op.1
      have LP : Xs C [] [_, _, _, _, _, _, .o (.lst ([] ++ [.int (l : Int)])), _] _ _ := LP [(l : Int)] (by simp)
      dsimp only [Pt.u, Pt.tag, Pt.its] at LP ⊢
      apply bod_nx
      · unfold b_moved_2; (repeat first | fail "p" | with_reducible exact LP | with_reducible exact o_ixd rfl hv | exact (of_srs szb).o1 | fail)
      · rw [fin, map_snoc]; (repeat first | fail "p" | fail)
    | hold b =>
      have LP : Xs C [] [_, _, _, _, _, _, .o (.lst ([])), _] _ _ := LP [] (by simp)
      dsimp only [Pt.u, Pt.tag, Pt.its] at LP ⊢
      apply bod_nx
      · unfold b_moved_2; (repeat first | fail "p" | with_reducible exact LP | exact (of_srs szb).o1 | fail)
      · rw [fin, map_snoc]; (repeat first | fail "p" | fail)
    | ring w b =>
      have LP : Xs C [] [_, _, _, _, _, _, .o (.lst ([])), _] _ _ := LP [] (by simp)
      dsimp only [Pt.u, Pt.tag, Pt.its] at LP ⊢
      apply bod_nx
      · unfold b_moved_2; (repeat first | fail "p" | with_reducible exact LP | exact (of_srs szb).o1 | fail)
      · rw [fin, map_snoc]; (repeat first | fail "p" | fail)
    | row js =>
      have LP : Xs C [] [_, _, _, _, _, _, .o (.lst ([])), _] _ _ := LP [] (by simp)
      dsimp only [Pt.u, Pt.tag, Pt.its] at LP ⊢
      apply bod_nx
      · unfold b_moved_2; (repeat first | fail "p" | with_reducible exact LP | exact (of_srs szb).o1 | fail)
      · rw [fin, map_snoc]; (repeat first | fail "p" | fail)
    | side js =>
      have LP : Xs C [] [_, _, _, _, _, _, .o (.lst ([])), _] _ _ := LP [] (by simp)
      dsimp only [Pt.u, Pt.tag, Pt.its] at LP ⊢
      apply bod_nx
      · unfold b_moved_2; (repeat first | fail "p" | with_reducible exact LP | exact (of_srs szb).o1 | fail)
      · rw [fin, map_snoc]; (repeat first | fail "p" | fail)
    | again z j =>
      have LP : Xs C [] [_, _, _, _, _, _, .o (.lst ([])), _] _ _ := LP [] (by simp)
      dsimp only [Pt.u, Pt.tag, Pt.its] at LP ⊢
      apply bod_nx
      · unfold b_moved_2; (repeat first | fail "p" | with_reducible exact LP | exact (of_srs szb).o1 | fail)
      · rw [fin, map_snoc]; (repeat first | fail "p" | fail)
  (repeat first | fail "p" | fail)
  show U.lst ((tab mvF (B.pts.take B.P.length)).map intsU) = U.lst _
  rw [List.take_of_length_le (by rw [Bk.pts_len]; exact Nat.le_refl _)]; rfl
structure CLen (C : Ctx) (B : Bk) : Prop extends C61 C B where
  mv : Fu (C.call 63) [B.u] (.lst (B.mvs.map intsU))
  lo : ∀ (p : Pt) (nl k : Nat) (acc : List Int), PtOk nl k p → (∀ j ∈ p.js, 0 ≤ acc.getD j 0 ∧ acc.getD j 0 ≤ 10 ^ 60) → Fu (C.call 70) [p.u B.ln B.pn, .lst (p.js.map fun j => .int (acc.getD j 0))] (.int (lenF acc p))
  sd : ∀ (js : List Nat) (row : Int), js.length ≤ 100 → (∀ j ∈ js, B.mv j ≠ []) → (js.Pairwise fun i j => ∀ z ∈ B.mv i, z ∉ B.mv j) → Fu (C.call 71) [B.u, .int row, .lst (js.map fun j => intsU (B.mv j))] .non
theorem lengths_u {C : Ctx} {B : Bk} (o : Sound B) (c : CLen C B) : Ff (runFn C f_lengths) [B.u] (intsU B.lens) := by
  have fu := c.fu
  have p1 := o.p1
  have cP := c.P
  have cM := c.mv
  refine ff_of rfl (by simp only [List.map_cons, List.map_nil, List.length_cons, List.length_nil, List.cons_append, List.nil_append, Nat.reduceAdd, Nat.reduceSub, List.replicate_succ, List.replicate_zero]; exact rfl) ?_
  (repeat first | fail "p" | with_reducible exact cP | with_reducible exact cM | fail)
  · refine s_fore (xs := B.P) (f := partU B.ln B.pn) (S := fun j => [.s B.u, .s (.dic (numU (B.P.map (·.1)))), .s (.lst (B.mvs.map intsU)), .o (intsU (tab lenF (B.pts.take j))), .n, .n, .n, .n]) ?_ (by omega) ?_ ?_
    · (repeat first | fail "p" | fail)
    · show Fgt _ [_, _, _, .o (.lst []), _, _, _, _]; (repeat first | fail "p" | fail)
    intro k x q
    have kl := (List.getElem?_eq_some_iff.mp q).1
    have op := o.pt k x q
    have cn := c.nm k x q
    have hx := (Bk.pt_at q).1
    have ms : tab lenF (B.pts.take k) = B.lens.take k := tab_take _ _
    refine ⟨_, by (repeat first | fail "p" | fail), ?_⟩
    obtain ⟨M, hM⟩ : ∃ M, M = tab lenF (B.pts.take k) := ⟨_, rfl⟩
    have ml : M.length = k := by rw [hM, ms, List.length_take, Bk.lens_len]; omega
    have mg : ∀ j, j < k → M.getD j 0 = B.lg j := fun j hj => by rw [hM, ms, getD_take hj]; rfl
    obtain ⟨n, p⟩ := x
    dsimp only at op cn hx
    have jl := op.js_lt
    have j8 := op.js_len
    have bd : ∀ j ∈ p.js, 0 ≤ M.getD j 0 ∧ M.getD j 0 ≤ 10 ^ 60 := fun j hj => by
      have h1 := jl j hj
      rw [mg j h1]
      have := o.lg1 j (by omega)
      exact ⟨by omega, o.lgb j (by omega)⟩
    have cl := c.lo p _ k M op bd
    have ixM : ∀ j ∈ p.js, (M.map U.int)[j]? = some (.int (M.getD j 0)) := fun j hj => by rw [List.getElem?_map, get_getD 0 (by have := jl j hj; omega)]; rfl
    have ixV : ∀ j ∈ p.js, (B.mvs.map intsU)[j]? = some (intsU (B.mv j)) := fun j hj => by rw [List.getElem?_map, Bk.mv_at (by have := jl j hj; omega)]; rfl
    have lv : lenF M p = B.lg k := by
      rw [o.lg_eq kl, hx]
      exact lenF_congr fun j hj => mg j (jl j hj)
    have fin : tab lenF (B.pts.take (k + 1)) = M ++ [B.lg k] := by rw [tab_pts q, ← hM]; dsimp only; rw [lv]
    have le : B.lg k ≤ 10 ^ 60 := o.lgb k kl
    rw [lv] at cl
    rw [← hM]
    have sz : (M.map U.int).length < sizeLine := sz_lt (by rw [List.length_map]; omega)
    have ixl : O2 opIx (.lst (M.map U.int ++ [.int (B.lg k)])) (.int (-1)) (.int (B.lg k)) := o_ixl (at_m1 (by simp))
    by_cases hs : p.tag = "side"
    · obtain ⟨js, rfl⟩ := side_of hs
      have sv := o.mvs k js hx kl
      have cs : Fu (C.call 71) [B.u, .int k, .lst ((Pt.side js).js.map fun j => intsU (B.mv j))] .non := c.sd js k (Nat.le_trans j8 (by decide)) sv.1 sv.2
      apply bod_nx
      · unfold b_lengths_1; (repeat first | fail "p" | with_reducible exact cn | with_reducible exact cl | with_reducible exact cs | with_reducible exact ixl | with_reducible exact o_ixl (at_nat (ixM _ (by assumption))) | with_reducible exact o_ixl (at_nat (ixV _ (by assumption))) | fail)
      · rw [fin, intsU_snoc]; (repeat first | fail "p" | fail)
    · apply bod_nx
      · unfold b_lengths_1; (repeat first | fail "p" | with_reducible exact cn | with_reducible exact cl | with_reducible exact ixl | with_reducible exact o_ixl (at_nat (ixM _ (by assumption))) | fail)
      · rw [fin, intsU_snoc]; (repeat first | fail "p" | fail)
  (repeat first | fail "p" | fail)
  show U.lst ((tab lenF (B.pts.take B.P.length)).map U.int) = U.lst _
  rw [List.take_of_length_le (by rw [Bk.pts_len]; exact Nat.le_refl _)]; rfl
/-! ends of a book -/
/-- a dict of limbs' heights -/
structure DRep (nl : Nat) (kvs : List (Key × U)) (g : Nat → Option Int) : Prop where
  val : ∀ z : Nat, valU kvs (.inl (z : Int)) = (g z).map U.int
  nd : (kvs.map (·.1)).Nodup
  keys : ∀ k ∈ kvs.map (·.1), ∃ z : Nat, z < nl ∧ k = .inl (z : Int)
section
variable {nl : Nat} {kvs : List (Key × U)} {g : Nat → Option Int}
theorem DRep.nil : DRep nl [] (fun _ => none) := ⟨fun z => rfl, List.nodup_nil, fun k h => by cases h⟩
theorem find_map_ne {κ : Type} [DecidableEq κ] {k k' : κ} {u : U} (h : k' ≠ k) : ∀ kvs : List (κ × U), valU (kvs.map fun kv => if kv.1 = k then (kv.1, u) else kv) k' = valU kvs k'
  | [] => rfl
  | p :: kvs => by
    have ih := find_map_ne (k := k) (k' := k') (u := u) h kvs
    unfold valU at ih ⊢
    rw [List.map_cons, List.find?_cons, List.find?_cons]
    by_cases e : p.1 = k
    · have e2 : ¬ p.1 = k' := fun w => h (w.symm.trans e)
      simp only [e, if_true, e2, decide_false]
      rw [show decide (k = k') = false by simp [Ne.symm h]]
      exact ih
    · simp only [if_neg e]
      by_cases e2 : p.1 = k'
      · simp [e2]
      · simp only [e2, decide_false]; exact ih
theorem find_map_eq {κ : Type} [DecidableEq κ] {k : κ} {u : U} : ∀ kvs : List (κ × U), (kvs.any fun kv => decide (kv.1 = k)) = true → valU (kvs.map fun kv => if kv.1 = k then (kv.1, u) else kv) k = some u
  | [], h => by cases h
  | p :: kvs, h => by
    unfold valU
    rw [List.map_cons]
    by_cases e : p.1 = k
    · rw [if_pos e, List.find?_cons]; simp [e]
    · rw [if_neg e, List.find?_cons, decide_eq_false e]
      rw [List.any_cons, decide_eq_false e, Bool.false_or] at h
      exact find_map_eq kvs h
theorem keys_put {κ : Type} [DecidableEq κ] {kvs : List (κ × U)} {k : κ} {u : U} : (putKU kvs k u).map (·.1) = if (kvs.any fun kv => decide (kv.1 = k)) = true then kvs.map (·.1) else kvs.map (·.1) ++ [k] := by
  unfold putKU
  split
  · rw [List.map_map]
    refine List.map_congr_left fun p _ => ?_
    simp only [Function.comp]
    split <;> rfl
  · simp
theorem DRep.put (d : DRep nl kvs g) {z : Nat} {h : Int} (hz : z < nl) : DRep nl (putKU kvs (.inl (z : Int)) (.int h)) (fun y => if y = z then some h else g y) := by
  refine ⟨fun y => ?_, ?_, fun k hk => ?_⟩
  · by_cases e : y = z
    · subst e
      rw [if_pos rfl]
      unfold putKU
      split
      · rename_i a; exact find_map_eq kvs a
      · rename_i a; exact find_snoc (Bool.eq_false_iff.mpr a)
    · rw [if_neg e]
      have ne : (.inl (y : Int) : Key) ≠ .inl (z : Int) := fun w => e (by injection w; omega)
      unfold putKU
      split
      · rw [find_map_ne ne]; exact d.val y
      · rw [← d.val y]
        unfold valU
        rw [List.find?_append]
        cases kvs.find? (fun kv => decide (kv.1 = .inl (y : Int))) with
        | some x => rfl
        | none => simp [Ne.symm ne]
  · rw [keys_put]
    split
    · exact d.nd
    · rename_i a
      rw [List.nodup_append]
      refine ⟨d.nd, by simp, fun x hx y hy e => ?_⟩
      rw [List.mem_singleton.mp hy] at e
      obtain ⟨p, hp, e2⟩ := List.mem_map.mp hx
      exact a (List.any_eq_true.mpr ⟨p, hp, decide_eq_true (e2.trans e)⟩)
  · rw [keys_put] at hk
    split at hk
    · exact d.keys k hk
    · rcases List.mem_append.mp hk with w | w
      · exact d.keys k w
      · exact ⟨z, hz, List.mem_singleton.mp w⟩
theorem seqO_some {α β : Type} {f : α → Option β} {g : α → β} : ∀ {xs : List α}, (∀ x ∈ xs, f x = some (g x)) → seqO (xs.map f) = some (xs.map g)
  | [], _ => rfl
  | x :: xs, h => by
    rw [List.map_cons, h x (List.mem_cons_self ..), List.map_cons]
    show (seqO (xs.map f)).map _ = _
    rw [seqO_some fun y hy => h y (List.mem_cons_of_mem _ hy)]; rfl
def upK (nl : Nat) (g : Nat → Option Int) : List Nat := (List.range nl).filter fun z => (g z).isSome
theorem DRep.srt (d : DRep nl kvs g) : ∃ ks : List Int, seqO (kvs.map fun kv => intK kv.1) = some ks ∧ ks.length ≤ nl ∧ srtI ks = (upK nl g).map fun z : Nat => (z : Int) := by
  have e1 : seqO (kvs.map fun kv => intK kv.1) = some (kvs.map fun kv => (intK kv.1).getD 0) := seqO_some fun x hx => by
    obtain ⟨z, _, e⟩ := d.keys x.1 (List.mem_map.mpr ⟨x, hx, rfl⟩)
    rw [e]; rfl
  have mem : ∀ z : Nat, (z : Int) ∈ kvs.map (fun kv => (intK kv.1).getD 0) ↔ (g z).isSome = true := fun z => by
    constructor
    · intro h
      obtain ⟨x, hx, e⟩ := List.mem_map.mp h
      obtain ⟨y, _, e2⟩ := d.keys x.1 (List.mem_map.mpr ⟨x, hx, rfl⟩)
      rw [e2] at e
      have e : (y : Int) = z := e
      have : y = z := by omega
      subst this
      have hv := d.val y
      cases e3 : g y with
      | some _ => rfl
      | none =>
        rw [e3] at hv
        unfold valU at hv
        rw [Option.map_none, Option.map_eq_none_iff, List.find?_eq_none] at hv
        exact absurd (decide_eq_true e2) (hv x hx)
    · intro h
      obtain ⟨v, e⟩ := Option.isSome_iff_exists.mp h
      have hv := d.val z
      rw [e] at hv
      unfold valU at hv
      cases e4 : kvs.find? (fun kv => decide (kv.1 = .inl (z : Int))) with
      | none => rw [e4] at hv; cases hv
      | some x =>
        have h2 := List.find?_some e4
        have h3 := List.mem_of_find?_eq_some e4
        exact List.mem_map.mpr ⟨x, h3, by rw [of_decide_eq_true h2]; rfl⟩
  have all : ∀ x ∈ kvs.map (fun kv => (intK kv.1).getD 0), ∃ z : Nat, z < nl ∧ x = (z : Int) := fun x hx => by
    obtain ⟨p, hp, e⟩ := List.mem_map.mp hx
    obtain ⟨z, hz, e2⟩ := d.keys p.1 (List.mem_map.mpr ⟨p, hp, rfl⟩)
    exact ⟨z, hz, by rw [← e, e2]; rfl⟩
  have nd : (kvs.map fun kv => (intK kv.1).getD 0).Nodup := by
    have h := d.nd
    have key : ∀ l : List (Key × U), (∀ p ∈ l, ∃ z : Nat, p.1 = .inl (z : Int)) → (l.map (·.1)).Nodup → (l.map fun kv => (intK kv.1).getD 0).Nodup := fun l => by
      induction l with
      | nil => intro _ _; exact List.nodup_nil
      | cons p l ih =>
        intro hp hn
        rw [List.map_cons, List.nodup_cons] at hn ⊢
        refine ⟨fun hm => hn.1 ?_, ih (fun q hq => hp q (List.mem_cons_of_mem _ hq)) hn.2⟩
        obtain ⟨q, hq, e⟩ := List.mem_map.mp hm
        obtain ⟨y, ey⟩ := hp q (List.mem_cons_of_mem _ hq)
        obtain ⟨w, ew⟩ := hp p (List.mem_cons_self ..)
        rw [ey, ew] at e
        have e : (y : Int) = w := e
        rw [ew]
        exact List.mem_map.mpr ⟨q, hq, by rw [ey, e]⟩
    exact key kvs (fun p hp => by obtain ⟨z, _, e⟩ := d.keys p.1 (List.mem_map.mpr ⟨p, hp, rfl⟩); exact ⟨z, e⟩) h
  have rise : ((upK nl g).map fun z : Nat => (z : Int)).Pairwise (· < ·) := by
    rw [List.pairwise_map]
    exact (List.pairwise_lt_range.filter _).imp fun h => by omega
  refine ⟨_, e1, ?_, ?_⟩
  · have := rise_len (srtI (kvs.map fun kv => (intK kv.1).getD 0)) 0 nl (srt_lt nd) fun z hz => by
      obtain ⟨y, hy, e⟩ := all z (srt_mem.mp hz)
      omega
    have e : (srtI (kvs.map fun kv => (intK kv.1).getD 0)).length = (kvs.map fun kv => (intK kv.1).getD 0).length := (List.mergeSort_perm _ _).length_eq
    omega
  · refine (srt_uniq ((List.perm_ext_iff_of_nodup (rise.imp fun h => by omega) nd).mpr fun x => ?_) (rise.imp fun h => by omega)).symm
    constructor
    · intro hx
      obtain ⟨z, hz, rfl⟩ := List.mem_map.mp hx
      unfold upK at hz
      rw [List.mem_filter] at hz
      exact (mem z).mpr hz.2
    · intro hx
      obtain ⟨z, hz, rfl⟩ := all x hx
      exact List.mem_map.mpr ⟨z, List.mem_filter.mpr ⟨List.mem_range.mpr hz, (mem z).mp hx⟩, rfl⟩
theorem DRep.len (d : DRep nl kvs g) : kvs.length ≤ nl := by
  obtain ⟨ks, e, l, _⟩ := d.srt
  have : ks.length = kvs.length := by
    have key : ∀ (xs : List (Option Int)) (ys : List Int), seqO xs = some ys → ys.length = xs.length := fun xs => by
      induction xs with
      | nil => intro ys h; cases h; rfl
      | cons x xs ih =>
        intro ys h
        cases x with
        | none => cases h
        | some a =>
          have h : (seqO xs).map (fun l => a :: l) = some ys := h
          cases e2 : seqO xs with
          | none => rw [e2] at h; cases h
          | some zs => rw [e2] at h; cases h; simp [ih zs e2]
    rw [key _ _ e, List.length_map]
  omega
end
/-- pairs put one by one -/
def putsP (kvs : List (Key × U)) (ps : List (Int × Int)) : List (Key × U) := ps.foldl (fun acc p => putKU acc (.inl p.1) (.int p.2)) kvs
theorem putsP_snoc {kvs : List (Key × U)} {ps : List (Int × Int)} {i : Nat} {p : Int × Int} (q : ps[i]? = some p) : putsP kvs (ps.take (i + 1)) = putKU (putsP kvs (ps.take i)) (.inl p.1) (.int p.2) := by
  unfold putsP; rw [take_snoc_g q, List.foldl_append]; rfl
theorem endL_mem {n : Nat} {f : Nat → Option Int} {p : Int × Int} : p ∈ endL n f ↔ ∃ z : Nat, z < n ∧ f z = some p.2 ∧ p.1 = z := by
  unfold endL
  rw [List.mem_filterMap]
  constructor
  · rintro ⟨z, hz, e⟩
    cases e2 : f z with
    | none => rw [e2] at e; cases e
    | some h => rw [e2] at e; cases e; exact ⟨z, List.mem_range.mp hz, e2, rfl⟩
  · rintro ⟨z, hz, e, e1⟩
    exact ⟨z, List.mem_range.mpr hz, by rw [e]; show some ((z : Int), p.2) = _; rw [← e1]⟩
theorem endL_len {n : Nat} {f : Nat → Option Int} : (endL n f).length ≤ n := by
  have := List.length_filterMap_le (fun l : Nat => (f l).map fun h => ((l : Int), h)) (List.range n)
  rw [List.length_range] at this
  exact this
theorem DRep.puts {nl : Nat} {kvs : List (Key × U)} {g f : Nat → Option Int} (d : DRep nl kvs g) (bd : ∀ z, f z ≠ none → z < nl) : DRep nl (putsP kvs (endL nl f)) (fun z => (f z).or (g z)) ∧ ∀ i, ∃ g', DRep nl (putsP kvs ((endL nl f).take i)) g' := by
  have key : ∀ (ps : List (Int × Int)), (∀ p ∈ ps, ∃ z : Nat, z < nl ∧ f z = some p.2 ∧ p.1 = z) → DRep nl (putsP kvs ps) (fun z => if ∃ p ∈ ps, p.1 = (z : Int) then f z else g z) := fun ps => by
    induction ps using snoc_ind with
    | h0 => intro _; simpa [putsP] using d
    | h1 ps p ih =>
      intro h
      have d2 := ih fun q hq => h q (List.mem_append_left _ hq)
      obtain ⟨z, hz, e, e1⟩ := h p (by simp)
      have d3 := d2.put (h := p.2) hz
      have e4 : putsP kvs (ps ++ [p]) = putKU (putsP kvs ps) (.inl (z : Int)) (.int p.2) := by unfold putsP; rw [List.foldl_append, ← e1]; rfl
      rw [e4]
      refine ⟨fun y => ?_, d3.nd, d3.keys⟩
      rw [d3.val y]
      by_cases ey : y = z
      · subst ey
        rw [if_pos rfl, if_pos ⟨p, by simp, e1⟩, e]
      · rw [if_neg ey]
        congr 1
        have : (∃ q ∈ ps ++ [p], q.1 = (y : Int)) ↔ ∃ q ∈ ps, q.1 = (y : Int) := by
          constructor
          · rintro ⟨q, hq, eq⟩
            rcases List.mem_append.mp hq with w | w
            · exact ⟨q, w, eq⟩
            · rw [List.mem_singleton.mp w, e1] at eq; omega
          · rintro ⟨q, hq, eq⟩; exact ⟨q, List.mem_append_left _ hq, eq⟩
        by_cases c : ∃ q ∈ ps, q.1 = (y : Int)
        · rw [if_pos c, if_pos (this.mpr c)]
        · rw [if_neg c, if_neg (fun w => c (this.mp w))]
  refine ⟨?_, fun i => ⟨_, key _ fun p hp => endL_mem.mp (List.mem_of_mem_take hp)⟩⟩
  have d2 := key _ fun p hp => endL_mem.mp hp
  refine ⟨fun z => ?_, d2.nd, d2.keys⟩
  rw [d2.val z]
  congr 1
  cases e : f z with
  | none =>
    rw [if_neg]; · rfl
    rintro ⟨p, hp, e1⟩
    obtain ⟨y, _, e2, e3⟩ := endL_mem.mp hp
    have : y = z := by omega
    subst this
    rw [e] at e2; cases e2
  | some h =>
    rw [if_pos ⟨((z : Int), h), endL_mem.mpr ⟨z, bd z (by rw [e]; simp), e, rfl⟩, rfl⟩]; rfl
theorem ef_bd {nl : Nat} : ∀ ps : List Pt, (∀ k p, ps[k]? = some p → PtOk nl k p) → ∀ j z, ((tab eF ps).getD j fun _ => none) z ≠ none → z < nl := by
  intro ps
  induction ps using snoc_ind with
  | h0 => intro _ j z h; exact absurd rfl h
  | h1 ps p ih =>
    intro o j z h
    have ih := ih fun k q e => o k q (by rw [List.getElem?_append_left (List.getElem?_eq_some_iff.mp e).1]; exact e)
    rw [tab_snoc] at h
    by_cases hj : j < ps.length
    · rw [List.getD_eq_getElem?_getD, List.getElem?_append_left (by rw [tab_len]; exact hj), ← List.getD_eq_getElem?_getD] at h
      exact ih j z h
    · by_cases hj2 : j = ps.length
      · subst hj2
        rw [List.getD_eq_getElem?_getD, List.getElem?_append_right (by rw [tab_len]; exact Nat.le_refl _), tab_len, Nat.sub_self] at h
        have op := o ps.length p (by simp)
        have key : ∀ js : List Nat, (js.findSome? fun j => ((tab eF ps).getD j fun _ => none) z) ≠ none → z < nl := fun js hn => by
          cases e : js.findSome? fun j => ((tab eF ps).getD j fun _ => none) z with
          | none => exact absurd e hn
          | some v =>
            obtain ⟨i, _, e2⟩ := List.exists_of_findSome?_eq_some e
            exact ih i z (by rw [e2]; simp)
        cases p with
        | raise l t b =>
          by_cases e : z = l
          · rw [e]; exact op.1
          · exact absurd (by show (if z = l then some t else none) = none; rw [if_neg e]) h
        | row js => exact key _ h
        | side js => exact key _ h
        | again y i => exact key _ h
        | hold => exact absurd rfl h
        | ring => exact absurd rfl h
      · rw [List.getD_eq_getElem?_getD, List.getElem?_eq_none (by rw [List.length_append, tab_len]; simp; omega)] at h
        exact absurd rfl h
theorem Ok.ef_lt {B : Bk} (o : Ok B) : ∀ j z, B.ef j z ≠ none → z < B.L.length := ef_bd B.pts fun k p e => by
  unfold Bk.pts at e
  rw [List.getElem?_map] at e
  cases e2 : B.P[k]? with
  | none => rw [e2] at e; cases e
  | some x => rw [e2] at e; cases e; exact o.pt k x e2
def ownE : Pt → Nat → Option Int
  | .raise l t _ => fun z => if z = l then some t else none
  | _ => fun _ => none
theorem eF_own {acc : List (Nat → Option Int)} {p : Pt} : eF acc p = fun z => (p.js.reverse.findSome? fun j => (acc.getD j fun _ => none) z).or (ownE p z) := by
  cases p with
  | raise => rfl
  | hold => rfl
  | ring => rfl
  | row => funext z; show _ = Option.or _ none; rw [Option.or_none]; rfl
  | side => funext z; show _ = Option.or _ none; rw [Option.or_none]; rfl
  | again => funext z; show _ = Option.or _ none; rw [Option.or_none]; rfl
theorem raise_of {p : Pt} (h : p.tag = "raise") : ∃ l t b, p = .raise l t b := by
  cases p with
  | raise l t b => exact ⟨l, t, b, rfl⟩
  | side => exact absurd h (show ("side" : Str) ≠ "raise" by decide)
  | hold => exact absurd h (show ("hold" : Str) ≠ "raise" by decide)
  | ring => exact absurd h (show ("ring" : Str) ≠ "raise" by decide)
  | row => exact absurd h (show ("row" : Str) ≠ "raise" by decide)
  | again => exact absurd h (show ("again" : Str) ≠ "raise" by decide)
abbrev endsU (ps : List (Int × Int)) : U := .lst (ps.map pairU)
theorem endL_up {nl : Nat} {g : Nat → Option Int} : endL nl g = (upK nl g).map fun z : Nat => ((z : Int), (g z).getD 0) := by
  unfold endL upK
  rw [← List.filterMap_eq_map', List.filterMap_filter]
  congr 1
  funext z
  cases g z <;> rfl
theorem ends_u {C : Ctx} {B : Bk} (o : Ok B) (c : C61 C B) : Ff (runFn C f_ends) [B.u] (.lst (B.ends.map endsU)) := by
  have fu := c.fu
  have p1 := o.p1
  have cL := c.L
  have cP := c.P
  have l8 := o.l1
  refine ff_of rfl (by simp only [List.map_cons, List.map_nil, List.length_cons, List.length_nil, List.cons_append, List.nil_append, Nat.reduceAdd, Nat.reduceSub, List.replicate_succ, List.replicate_zero]; exact rfl) ?_
  (repeat first | fail "p" | with_reducible exact cL | with_reducible exact cP | fail)
  · refine s_fors (xs := B.P) (f := partU B.ln B.pn) (S := fun j => [.s B.u, .s (.dic (numU (B.L.map (·.1)))), .s (.dic (numU (B.P.map (·.1)))), .o (.lst ((B.ends.take j).map endsU)), .n, .n, .n, .n, .n, .n]) ?_ (by omega) ?_ ?_
    · (repeat first | fail "p" | fail)
    · show Fgt _ [_, _, _, .o (.lst []), _, _, _, _, _, _]; (repeat first | fail "p" | fail)
    intro k x q
    have kl := (List.getElem?_eq_some_iff.mp q).1
    have op := o.pt k x q
    have cn := c.nm k x q
    have hx := (Bk.pt_at q).1
    refine ⟨_, by (repeat first | fail "p" | fail), ?_⟩
    obtain ⟨n, p⟩ := x
    dsimp only at op cn hx
    have jl := op.js_lt
    have j8 := op.js_len
    obtain ⟨M, hM⟩ : ∃ M, M = B.ends.take k := ⟨_, rfl⟩
    have el : B.ends.length = B.P.length := by unfold Bk.ends; rw [List.length_map, Bk.efs_len]
    have ml : M.length = k := by rw [hM, List.length_take]; omega
    have mg : ∀ j, j < k → M[j]? = some (endL B.L.length (B.ef j)) := fun j hj => by
      rw [hM, List.getElem?_take, if_pos hj]
      unfold Bk.ends
      rw [List.getElem?_map, get_getD (fun _ => none) (by rw [Bk.efs_len]; omega)]; rfl
    have ixM : ∀ j, j < k → O2 opIx (.lst (M.map endsU)) (.int (j : Int)) (endsU (endL B.L.length (B.ef j))) := fun j hj => o_ixl (at_nat (by rw [List.getElem?_map, mg j hj]; rfl))
    -- what is left behind the first parts named
    obtain ⟨G, hG⟩ : ∃ G : Nat → Nat → Option Int, ∀ i z, G i z = ((p.js.take i).reverse.findSome? fun j => B.ef j z).or (ownE p z) := ⟨_, fun _ _ => rfl⟩
    have dstep : ∀ i j kvs, p.js[i]? = some j → DRep B.L.length kvs (G i) → DRep B.L.length (putsP kvs (endL B.L.length (B.ef j))) (G (i + 1)) := fun i j kvs q d => by
      have := (d.puts (f := B.ef j) (o.ef_lt j)).1
      refine ⟨fun z => ?_, this.nd, this.keys⟩
      rw [this.val z, hG, hG, take_snoc_g q, List.reverse_append]
      congr 1
      show _ = Option.or (List.findSome? _ (j :: (p.js.take i).reverse)) _
      rw [List.findSome?_cons]
      cases B.ef j z <;> rfl
    have gfin : G p.js.length = B.ef k := by
      funext z
      rw [hG, List.take_length, o.ef_eq kl, hx, eF_own]
      rfl
    -- the dicts
    obtain ⟨Kv, hK⟩ : ∃ Kv : List (Key × U) → Nat → List (Key × U), ∀ k0 i, Kv k0 i = (p.js.take i).foldl (fun acc j => putsP acc (endL B.L.length (B.ef j))) k0 := ⟨_, fun _ _ => rfl⟩
    have kvS : ∀ k0 i j, p.js[i]? = some j → Kv k0 (i + 1) = putsP (Kv k0 i) (endL B.L.length (B.ef j)) := fun k0 i j q => by rw [hK, hK, take_snoc_g q, List.foldl_append]; rfl
    have kvD : ∀ k0, DRep B.L.length k0 (ownE p) → ∀ i, i ≤ p.js.length → DRep B.L.length (Kv k0 i) (G i) := fun k0 d i => by
      induction i with
      | zero =>
        intro _
        rw [hK]
        exact ⟨fun z => by rw [hG]; exact d.val z, d.nd, d.keys⟩
      | succ i ih =>
        intro hi
        have q : p.js[i]? = some p.js[i] := List.getElem?_eq_getElem (by omega)
        rw [kvS k0 i _ q]
        exact dstep i _ _ q (ih (by omega))
    have LP : ∀ k0, DRep B.L.length k0 (ownE p) → Xs C [] [.s B.u, .s (.dic (numU (B.L.map (·.1)))), .s (.dic (numU (B.P.map (·.1)))), .o (.lst (M.map endsU)), .s (.str n), .s (p.u B.ln B.pn), .o (.dic k0), .n, .n, .n] (sFo (gN 7) (iA (eCall 62 (aC (eV 5) (aC (eV 2) aN)) [])) b_ends_2)
        (.nx [.s B.u, .s (.dic (numU (B.L.map (·.1)))), .s (.dic (numU (B.P.map (·.1)))), .o (.lst (M.map endsU)), .s (.str n), .s (p.u B.ln B.pn), .o (.dic (Kv k0 p.js.length)), .n, .n, .n]) := fun k0 d => by
      have k00 : Kv k0 0 = k0 := by rw [hK]; rfl
      refine s_fors (C := C) (io := []) (xs := p.js) (f := fun j : Nat => .int j) (S := fun i => [.s B.u, .s (.dic (numU (B.L.map (·.1)))), .s (.dic (numU (B.P.map (·.1)))), .o (.lst (M.map endsU)), .s (.str n), .s (p.u B.ln B.pn), .o (.dic (Kv k0 i)), .n, .n, .n]) ?_ (by omega) ?_ ?_
      · (repeat first | fail "p" | with_reducible exact cn | fail)
      · show Fgt _ [_, _, _, _, _, _, .o (.dic (Kv k0 0)), _, _, _]
        rw [k00]; (repeat first | fail "p" | fail)
      intro i j qj
      have jk := jl j (List.mem_of_getElem? qj)
      have il := (List.getElem?_eq_some_iff.mp qj).1
      have dI := kvD k0 d i (by omega)
      have ix := ixM j jk
      refine ⟨_, by (repeat first | fail "p" | fail), ?_⟩
      rw [kvS k0 i j qj]
      obtain ⟨ps, hps⟩ : ∃ ps, ps = endL B.L.length (B.ef j) := ⟨_, rfl⟩
      have pl : ps.length ≤ 8 := by rw [hps]; have := endL_len (n := B.L.length) (f := B.ef j); omega
      have LI : Xs C [] [.s B.u, .s (.dic (numU (B.L.map (·.1)))), .s (.dic (numU (B.P.map (·.1)))), .o (.lst (M.map endsU)), .s (.str n), .s (p.u B.ln B.pn), .o (.dic (Kv k0 i)), .s (.int (j : Int)), .n, .n] (sFo (gT [8, 9]) (iA (eOp opIx (eV 3) (eV 7))) b_ends_1)
          (.nx [.s B.u, .s (.dic (numU (B.L.map (·.1)))), .s (.dic (numU (B.P.map (·.1)))), .o (.lst (M.map endsU)), .s (.str n), .s (p.u B.ln B.pn), .o (.dic (putsP (Kv k0 i) ps)), .s (.int (j : Int)), .n, .n]) := by
        have := s_fors (C := C) (io := []) (g := gT [8, 9]) (mi := iA (eOp opIx (eV 3) (eV 7))) (b := b_ends_1) (pe := [.s B.u, .s (.dic (numU (B.L.map (·.1)))), .s (.dic (numU (B.P.map (·.1)))), .o (.lst (M.map endsU)), .s (.str n), .s (p.u B.ln B.pn), .o (.dic (Kv k0 i)), .s (.int (j : Int)), .n, .n])
          (xs := ps) (f := pairU) (S := fun m => [.s B.u, .s (.dic (numU (B.L.map (·.1)))), .s (.dic (numU (B.P.map (·.1)))), .o (.lst (M.map endsU)), .s (.str n), .s (p.u B.ln B.pn), .o (.dic (putsP (Kv k0 i) (ps.take m))), .s (.int (j : Int)), .n, .n]) (by rw [hps]; (repeat first | fail "p" | with_reducible exact ix | fail)) (by omega) (by
            show Fgt _ [_, _, _, _, _, _, .o (.dic (Kv k0 i)), _, _, _]; (repeat first | fail "p" | fail)) (fun m pr qm => by
            obtain ⟨g', dm⟩ := (dI.puts (f := B.ef j) (o.ef_lt j)).2 m
            have sz : (putsP (Kv k0 i) (ps.take m)).length < sizeLine := sz_lt (by rw [hps]; have := dm.len; omega)
            refine ⟨_, by (repeat first | fail "p" | fail), ?_⟩
            apply bod_nx
            · unfold b_ends_1; (repeat first | fail "p" | fail)
            · rw [putsP_snoc qm]; (repeat first | fail "p" | fail))
        rwa [List.take_length] at this
      rw [← hps]
      apply bod_nx
      · unfold b_ends_2; (repeat first | fail "p" | with_reducible exact LI | fail)
      · (repeat first | fail "p" | fail)
    have fin : B.ends.take (k + 1) = M ++ [endL B.L.length (B.ef k)] := by
      rw [hM]
      refine take_snoc_g ?_
      unfold Bk.ends
      rw [List.getElem?_map, get_getD (fun _ => none) (by rw [Bk.efs_len]; omega)]; rfl
    have TL : ∀ k0, DRep B.L.length k0 (ownE p) → ∃ pe2, Xs C [] [.s B.u, .s (.dic (numU (B.L.map (·.1)))), .s (.dic (numU (B.P.map (·.1)))), .o (.lst (M.map endsU)), .s (.str n), .s (p.u B.ln B.pn), .o (.dic (Kv k0 p.js.length)), .n, .n, .n] (sEx (eBk okL mApp (eV 3) (aC (eLc [8] (gN 8) (iA (eBf bSr2 (aC (eV 6) aN))) tY (eTup (aC (eV 8) (aC (eOp opIx (eV 6) (eV 8)) aN)))) aN))) (.nx pe2) ∧ Fgt pe2 [.s B.u, .s (.dic (numU (B.L.map (·.1)))), .s (.dic (numU (B.P.map (·.1)))), .o (.lst ((B.ends.take (k + 1)).map endsU)), .n, .n, .n, .n, .n, .n] := fun k0 d => by
      have dF := kvD k0 d p.js.length (Nat.le_refl _)
      rw [gfin] at dF
      obtain ⟨ks, e1, e2, e3⟩ := dF.srt
      have ul : (upK B.L.length (B.ef k)).length ≤ 8 := by
        unfold upK
        have := List.length_filter_le (fun z => (B.ef k z).isSome) (List.range B.L.length)
        rw [List.length_range] at this
        omega
      have sr : B1 bSr2 [.dic (Kv k0 p.js.length)] (.lst ((upK B.L.length (B.ef k)).map fun z : Nat => .int (z : Int))) := by
        have := (bf_sr2d e1 (by omega)).b1
        rw [e3, List.map_map] at this
        exact this
      have sz : (M.map endsU).length < sizeLine := sz_lt (by rw [List.length_map]; omega)
      have vl : ∀ z ∈ upK B.L.length (B.ef k), valU (Kv k0 p.js.length) (.inl (z : Int)) = some (.int ((B.ef k z).getD 0)) := fun z hz => by
        rw [dF.val z]
        unfold upK at hz
        rw [List.mem_filter] at hz
        obtain ⟨v, e⟩ := Option.isSome_iff_exists.mp hz.2
        rw [e]; rfl
      apply Exists.intro
      apply And.intro
      · (repeat first | fail "p" | with_reducible exact sr | with_reducible exact o_ixd rfl (vl _ (by assumption)) | fail)
      · rw [fin, map_snoc, show endsU (endL B.L.length (B.ef k)) = .lst ((upK B.L.length (B.ef k)).map fun z : Nat => .tup [.int (z : Int), .int ((B.ef k z).getD 0)]) by rw [endL_up]; show U.lst _ = U.lst _; rw [List.map_map]; rfl]
        (repeat first | fail "p" | fail)
    rw [← hM]
    by_cases hr : p.tag = "raise"
    · obtain ⟨l, t, b, rfl⟩ := raise_of hr
      have hv := o.hand op.1
      have d0 : DRep B.L.length (putKU [] (.inl (l : Int)) (.int t)) (ownE (.raise l t b)) := DRep.nil.put op.1
      have LP := LP _ d0
      obtain ⟨pe2, TL, fg⟩ := TL _ d0
      refine ⟨pe2, .inl ?_, fg⟩
      unfold b_ends_3
      (repeat first | fail "p" | with_reducible exact o_ixd rfl hv | with_reducible exact LP | with_reducible exact TL | fail)
    · have d0 : DRep B.L.length [] (ownE p) := by
        have : ownE p = fun _ => none := by
          cases p with
          | raise => exact absurd rfl hr
          | _ => rfl
        rw [this]; exact DRep.nil
      have LP := LP _ d0
      obtain ⟨pe2, TL, fg⟩ := TL _ d0
      refine ⟨pe2, .inl ?_, fg⟩
      unfold b_ends_3
      (repeat first | fail "p" | with_reducible exact LP | with_reducible exact TL | fail)
  (repeat first | fail "p" | fail)
  show U.lst ((B.ends.take B.P.length).map endsU) = U.lst _
  rw [List.take_of_length_le (by unfold Bk.ends; rw [List.length_map, Bk.efs_len]; exact Nat.le_refl _)]
/-! sizes of ints -/
structure Lt2 (i : Int) (a : Nat) : Prop where
  h : i.natAbs < 2 ^ a
theorem log2_le {n a : Nat} (h : n < 2 ^ a) : n.log2 ≤ a := by
  by_cases h0 : n = 0
  · subst h0; simp
  · exact Nat.le_of_lt ((Nat.log2_lt h0).mpr h)
theorem mulOk_of {i j : Int} {a b : Nat} (hi : Lt2 i a) (hj : Lt2 j b) (h : a + b < 100000000) : mulOk i j = true := by
  unfold mulOk
  have h1 := log2_le hi.h
  have h2 := log2_le hj.h
  exact decide_eq_true (by omega)
theorem Lt2.mul {i j : Int} {a b : Nat} (hi : Lt2 i a) (hj : Lt2 j b) : Lt2 (i * j) (a + b) := ⟨by rw [Int.natAbs_mul, Nat.pow_add]; exact Nat.mul_lt_mul'' hi.h hj.h⟩
theorem Lt2.add {i j : Int} {a : Nat} (hi : Lt2 i a) (hj : Lt2 j a) : Lt2 (i + j) (a + 1) := ⟨by
  have h1 := hi.h
  have h2 := hj.h
  rw [Nat.pow_succ]
  omega⟩
theorem Lt2.sub {i j : Int} {a : Nat} (hi : Lt2 i a) (hj : Lt2 j a) : Lt2 (i - j) (a + 1) := ⟨by
  have h1 := hi.h
  have h2 := hj.h
  rw [Nat.pow_succ]
  omega⟩
theorem Lt2.div {i j : Int} {a : Nat} (hi : Lt2 i a) : Lt2 (i / j) a := ⟨by
  refine Nat.lt_of_le_of_lt ?_ hi.h
  exact Int.natAbs_ediv_le_natAbs i j⟩
theorem divOk_of {j : Int} {a : Nat} (h0 : j ≠ 0) (h : Lt2 j a) (ha : a < 9000) : divOk j = true := by
  unfold divOk
  rw [decide_eq_true h0, decide_eq_true (Nat.lt_of_le_of_lt (log2_le h.h) ha)]; rfl
theorem mulOk_sm {i j : Int} (hi : i.natAbs ≤ 10 ^ 300) (hj : j.natAbs ≤ 10 ^ 300) : mulOk i j = true := mulOk_of (a := 1000) (b := 1000) ⟨Nat.lt_of_le_of_lt hi (by decide)⟩ ⟨Nat.lt_of_le_of_lt hj (by decide)⟩ (by decide)
theorem divOk_sm {j : Int} (h0 : j ≠ 0) (hj : j.natAbs ≤ 10 ^ 300) : divOk j = true := divOk_of h0 (a := 1000) ⟨Nat.lt_of_le_of_lt hj (by decide)⟩ (by decide)
theorem lenFz {ns : List Int} : B1 bLen [.fz (ns.map U.int)] (.int ns.length) := by have := b_lenz (us := ns.map U.int); rwa [List.length_map] at this
theorem ixFz {ns : List Int} {k : Nat} (h : k < ns.length) : O2 opIx (.fz (ns.map U.int)) (.int (k : Int)) (.int (ns.getD k 0)) := o_ixz (at_nat (by rw [List.getElem?_map, get_getD 0 h]; rfl))
theorem fuT (n : Nat) : 1000 < (ctx T n).fuel := by
  have : (ctx T n).fuel = FUEL := by cases n <;> rfl
  rw [this]; unfold FUEL; omega
/-! lengths, moved, ends of a sound book, as calls -/
theorem calls29 {B : Bk} (o : Sound B) (n : Nat) : Ff ((ctx T (n + 5)).call 72) [B.u] (intsU B.lens) ∧ Ff ((ctx T (n + 5)).call 63) [B.u] (.lst (B.mvs.map intsU)) ∧ Ff ((ctx T (n + 5)).call 76) [B.u] (.lst (B.ends.map endsU)) := by
  have c61 : ∀ n, C61 (ctx T (n + 1)) B := fun n => ⟨fuT _, numbers_of_u (C := ctx T n) (fun x => o_ixt rfl) o.ln (by have := o.l1; omega) (fuT n), numbers_of_u (C := ctx T n) (fun x => o_ixt rfl) o.pn (by have := o.p1; omega) (fuT n), fun k x q => by
    have kl := (List.getElem?_eq_some_iff.mp q).1
    have op := o.pt k x q
    exact named_u (C := ctx T n) (fuT n) op.js_len fun j hj => o.num (by have := op.js_lt j hj; omega)⟩
  have c63 : ∀ n, Ff ((ctx T (n + 2)).call 63) [B.u] (.lst (B.mvs.map intsU)) := fun n => moved_u (C := ctx T (n + 1)) o.toOk (c61 n)
  refine ⟨?_, c63 (n + 3), ends_u (C := ctx T (n + 4)) o.toOk (c61 (n + 3))⟩
  refine lengths_u (C := ctx T (n + 4)) o ⟨c61 (n + 3), (c63 (n + 2)).fu, fun p nl k acc op bd => ?_, fun js row jl ne dj => ?_⟩
  · have := length_of_u (C := ctx T (n + 3)) (ln := B.ln) (pn := B.pn) (below := p.js.map fun j => acc.getD j 0) op (by simp) (fun x hx => by
      obtain ⟨j, hj, rfl⟩ := List.mem_map.mp hx
      exact bd j hj)
    rw [lenB_eq, List.map_map] at this
    exact this
  · have := look_at_side_u (C := ctx T (n + 3)) (n := B.L.length) (book := B.u) (ls := B.L.map limbU) (Ms := js.map B.mv) (row := row) (o_ixt rfl) (by simp) o.l1.2 (by simpa using jl) (fuT _) (fun M hM => by
      obtain ⟨j, hj, rfl⟩ := List.mem_map.mp hM
      exact ne j hj) (by rw [List.pairwise_map]; exact dj)
    rw [List.map_map] at this
    exact this
/-! x[k] = a, x a dict, a changes other things -/
/-- a loop over xs by a state, left early or gone through -/
theorem s_forS {α σ : Type} {C : Ctx} {io : List Nat} {pe : List Sl} {g : Tg} {mi : MI} {b : MS} {xs : List α} {f : α → U} (S : σ → List Sl) (inv : Nat → σ → Prop) (fin : PF → Prop) {a0 : σ} (hi : Xi C pe mi (xs.map f)) (fu : xs.length < C.fuel) (h0 : Fgt pe (S a0)) (i0 : inv 0 a0)
    (hs : ∀ j x a, xs[j]? = some x → inv j a → ∃ pe1, Tp io g (S a) (f x) pe1 ∧ ((∃ a', inv (j + 1) a' ∧ Bod C io pe1 b (S a')) ∨ ∃ q, fin q ∧ ((∃ pe2, q = .nx pe2 ∧ Xs C io pe1 b (.bk pe2)) ∨ (Xs C io pe1 b q ∧ ((∃ u p, q = .rt u p) ∨ (∃ u p, q = .rf u p) ∨ ∃ c u p, q = .ex c u p))))) :
    (∃ a, inv xs.length a ∧ Xs C io pe (sFo g mi b) (.nx (S a))) ∨ ∃ q, fin q ∧ Xs C io pe (sFo g mi b) q := by
  obtain ⟨r, e, x⟩ := s_fo (C := C) (g := g) (b := b) (io := io) hi (by simpa using fu) (fun j pe => ∃ a, inv j a ∧ Fgt pe (S a)) (fun r => (∃ a pe2, inv xs.length a ∧ r = .nx pe2 ∧ Fgt pe2 (S a)) ∨ fin r) ⟨a0, i0, h0⟩ (fun j u pe hu ⟨a, ia, p⟩ => by
    rw [List.getElem?_map] at hu
    cases e : xs[j]? with
    | none => rw [e] at hu; cases hu
    | some x =>
      rw [e] at hu; cases hu
      obtain ⟨pe1, tp, h⟩ := hs j x a e ia
      refine ⟨pe1, fun B Sg e h d st r => ?_, ?_⟩
      · obtain ⟨e1, g1, s1, o1, k1⟩ := tp (p.sta st) (r.tr (Tr.less fun a => p.ow))
        exact ⟨e1, g1, s1, fun a w => p.ow (o1 a w), k1⟩
      · rcases h with ⟨a', ia', pe2, xs | xs, fg⟩ | ⟨q, fq, ⟨pe2, rfl, xs⟩ | ⟨xs, w⟩⟩
        · exact ⟨_, xs, a', ia', fg⟩
        · exact ⟨_, xs, a', ia', fg⟩
        · exact ⟨_, xs, .inr fq⟩
        · refine ⟨q, xs, ?_⟩
          rcases w with ⟨u, p, rfl⟩ | ⟨u, p, rfl⟩ | ⟨c, u, p, rfl⟩ <;> exact .inr fq) (fun pe ⟨a, ia, p⟩ => .inl ⟨a, pe, by simpa using ia, rfl, p⟩)
  rcases e with ⟨a, pe2, ia, rfl, fg⟩ | fr
  · exact .inl ⟨a, ia, s_fg x fg⟩
  · exact .inr ⟨r, fr, x⟩
/-! heights at a beat, plain -/
def rampV (s g b j : Int) : Int := s + (g - s) * j / b
def setH (hs : List Int) (ps : List (Int × Int)) : List Int := ps.foldl (fun hs p => hs.set p.1.toNat p.2) hs
def Bk.leave (B : Bk) (k : Nat) (hs : List Int) : List Int := setH hs (endL B.L.length (B.ef k))
abbrev PutT := Int → List Int → List Int
def idP : PutT := fun _ hs => hs
def rowH (B : Bk) (f : Nat → PutT) : List Nat → PutT
  | [], _, hs => hs
  | j :: js, beat, hs => if beat < B.lg j then f j beat hs else rowH B f js (beat - B.lg j) (B.leave j hs)
def sideH (B : Bk) (f : Nat → PutT) (js : List Nat) : PutT := fun beat hs => js.foldl (fun hs j => if beat < B.lg j then f j beat hs else B.leave j hs) hs
def pF (B : Bk) (acc : List PutT) : Pt → PutT
  | .raise l t b => fun beat hs => hs.set l (rampV (hs.getD l 0) t b beat)
  | .side js => sideH B (fun j => acc.getD j idP) js
  | .row js => rowH B (fun j => acc.getD j idP) js
  | .again _ j => fun beat hs => acc.getD j idP (beat % B.lg j) (if 0 < beat / B.lg j then B.leave j hs else hs)
  | _ => idP
def Bk.put (B : Bk) (k : Nat) : PutT := (tab (pF B) B.pts).getD k idP
def Bk.hs0 (B : Bk) : List Int := B.L.map (·.2)
def Bk.stand (B : Bk) (beat : Int) : List Int := if beat = B.lg (B.P.length - 1) then B.leave (B.P.length - 1) B.hs0 else B.put (B.P.length - 1) beat B.hs0
structure HsOk (n : Nat) (hs : List Int) : Prop where
  len : hs.length = n
  bd : ∀ h ∈ hs, 0 ≤ h ∧ h ≤ 10 ^ 18
theorem HsOk.set {n : Nat} {hs : List Int} (o : HsOk n hs) {i : Nat} {h : Int} (b : 0 ≤ h ∧ h ≤ 10 ^ 18) : HsOk n (hs.set i h) := ⟨by rw [List.length_set]; exact o.len, fun x hx => (List.mem_or_eq_of_mem_set hx).elim (o.bd x) fun e => e ▸ b⟩
theorem HsOk.at_ {n : Nat} {hs : List Int} (o : HsOk n hs) {i : Nat} (h : i < n) : hs[i]? = some (hs.getD i 0) ∧ 0 ≤ hs.getD i 0 ∧ hs.getD i 0 ≤ 10 ^ 18 := by
  have q := get_getD (xs := hs) 0 (by rw [o.len]; exact h)
  exact ⟨q, o.bd _ (List.mem_of_getElem? q)⟩
theorem rampV_bd {s g b j : Int} (hs : 0 ≤ s ∧ s ≤ 10 ^ 18) (hg : 0 ≤ g ∧ g ≤ 10 ^ 18) (hb : 1 ≤ b) (hj : 0 ≤ j ∧ j < b) : 0 ≤ rampV s g b j ∧ rampV s g b j ≤ 10 ^ 18 := by
  unfold rampV
  by_cases c : s ≤ g
  · have h0 : 0 ≤ (g - s) * j := Int.mul_nonneg (by omega) hj.1
    have h1 : (g - s) * j ≤ (g - s) * b := Int.mul_le_mul_of_nonneg_left (by omega) (by omega)
    have d0 : 0 ≤ (g - s) * j / b := Int.ediv_nonneg h0 (by omega)
    have d1 : (g - s) * j / b ≤ g - s := Int.ediv_le_of_le_mul (by omega) h1
    omega
  · have e : (g - s) * j = -((s - g) * j) := by rw [← Int.neg_mul]; congr 1; omega
    have h0 : 0 ≤ (s - g) * j := Int.mul_nonneg (by omega) hj.1
    have h1 : (s - g) * j ≤ (s - g) * b := Int.mul_le_mul_of_nonneg_left (by omega) (by omega)
    rw [e]
    have d0 : -((s - g) * j) / b ≤ 0 := Int.ediv_le_of_le_mul (by omega) (by rw [Int.zero_mul]; omega)
    have d1 : -(s - g) ≤ -((s - g) * j) / b := Int.le_ediv_of_mul_le (by omega) (by rw [Int.neg_mul]; omega)
    omega
section
variable {B : Bk}
theorem setH_ok {n : Nat} : ∀ {ps : List (Int × Int)} {hs : List Int}, HsOk n hs → (∀ p ∈ ps, 0 ≤ p.2 ∧ p.2 ≤ 10 ^ 18) → HsOk n (setH hs ps)
  | [], _, o, _ => o
  | p :: ps, hs, o, b => by
    show HsOk n (setH (hs.set p.1.toNat p.2) ps)
    exact setH_ok (o.set (b p (List.mem_cons_self ..))) fun q hq => b q (List.mem_cons_of_mem _ hq)
theorem ef_h (o : Ok B) : ∀ k, k < B.P.length → ∀ z h, B.ef k z = some h → 0 ≤ h ∧ h ≤ 10 ^ 18 := by
  intro k
  induction k using Nat.strongRecOn with
  | ind k ih =>
    intro hk z h e
    rw [o.ef_eq hk] at e
    have op := o.pt_ok hk
    have jl := op.js_lt
    have many : ∀ js : List Nat, (∀ j ∈ js, j < k) → (js.reverse.findSome? fun j => (B.efs.getD j fun _ => none) z) = some h → 0 ≤ h ∧ h ≤ 10 ^ 18 := fun js hj e => by
      obtain ⟨j, hm, e⟩ := List.exists_of_findSome?_eq_some e
      rw [List.mem_reverse] at hm
      exact ih j (hj j hm) (by have := hj j hm; omega) z h e
    cases ep : B.pt k with
    | raise l t b =>
      rw [ep] at e op
      have e : (if z = l then some t else none) = some h := e
      split at e
      · cases e; exact ⟨op.2.1, op.2.2.1⟩
      · cases e
    | row js => rw [ep] at e jl; exact many js jl e
    | side js => rw [ep] at e jl; exact many js jl e
    | again z' j => rw [ep] at e jl; exact many [j] jl e
    | hold b => rw [ep] at e; cases e
    | ring w b => rw [ep] at e; cases e
theorem leave_ok (o : Ok B) {k : Nat} (hk : k < B.P.length) {hs : List Int} (h : HsOk B.L.length hs) : HsOk B.L.length (B.leave k hs) := setH_ok h fun p hp => by
  obtain ⟨z, _, e, _⟩ := endL_mem.mp hp
  exact ef_h o k hk z p.2 e
theorem rowH_congr {f g : Nat → PutT} : ∀ {js : List Nat} {beat : Int} {hs : List Int}, (∀ j ∈ js, f j = g j) → rowH B f js beat hs = rowH B g js beat hs
  | [], _, _, _ => rfl
  | j :: js, beat, hs, e => by
    unfold rowH
    rw [e j (List.mem_cons_self ..), rowH_congr fun i hi => e i (List.mem_cons_of_mem _ hi)]
theorem sideH_cons {f : Nat → PutT} {j : Nat} {js : List Nat} {beat : Int} {hs : List Int} : sideH B f (j :: js) beat hs = sideH B f js beat (if beat < B.lg j then f j beat hs else B.leave j hs) := rfl
theorem sideH_congr {f g : Nat → PutT} : ∀ {js : List Nat} {beat : Int} {hs : List Int}, (∀ j ∈ js, f j = g j) → sideH B f js beat hs = sideH B g js beat hs
  | [], _, _, _ => rfl
  | j :: js, beat, hs, e => by
    rw [sideH_cons, sideH_cons, e j (List.mem_cons_self ..), sideH_congr fun i hi => e i (List.mem_cons_of_mem _ hi)]
theorem pF_congr {a a' : List PutT} {p : Pt} (h : ∀ j ∈ p.js, a.getD j idP = a'.getD j idP) : pF B a p = pF B a' p := by
  cases p with
  | row js => funext beat hs; exact rowH_congr h
  | side js => funext beat hs; exact sideH_congr h
  | again z j => funext beat hs; show a.getD j idP _ _ = _; rw [h j (List.mem_singleton.mpr rfl)]; rfl
  | _ => rfl
theorem Ok.put_eq (o : Ok B) {k : Nat} (h : k < B.P.length) : B.put k = pF B (tab (pF B) B.pts) (B.pt k) := by
  unfold Bk.put
  rw [getD_of (tab_at (Bk.pt_at (Bk.P_at h)).2.2)]
  exact pF_congr fun j hj => getD_take ((o.pt_ok h).js_lt j hj)
theorem row_beat (o : Ok B) {f : Nat → PutT} {n : Nat} (k : Nat) (hk : k ≤ B.P.length) (hf : ∀ j, j < k → ∀ beat hs, 0 ≤ beat → beat < B.lg j → HsOk n hs → HsOk n (f j beat hs)) (hn : n = B.L.length) : ∀ {js : List Nat} {beat : Int} {hs : List Int}, (∀ j ∈ js, j < k) → 0 ≤ beat → HsOk n hs → HsOk n (rowH B f js beat hs)
  | [], _, _, _, _, h => h
  | j :: js, beat, hs, jl, b0, h => by
    unfold rowH
    have := jl j (List.mem_cons_self ..)
    split
    · exact hf j this beat hs b0 (by assumption) h
    · exact row_beat o k hk hf hn (fun i hi => jl i (List.mem_cons_of_mem _ hi)) (by omega) (by subst hn; exact leave_ok o (by omega) h)
theorem side_beat (o : Ok B) {f : Nat → PutT} (k : Nat) (hk : k ≤ B.P.length) (hf : ∀ j, j < k → ∀ beat hs, 0 ≤ beat → beat < B.lg j → HsOk B.L.length hs → HsOk B.L.length (f j beat hs)) : ∀ {js : List Nat} {beat : Int} {hs : List Int}, (∀ j ∈ js, j < k) → 0 ≤ beat → HsOk B.L.length hs → HsOk B.L.length (sideH B f js beat hs)
  | [], _, _, _, _, h => h
  | j :: js, beat, hs, jl, b0, h => by
    rw [sideH_cons]
    have := jl j (List.mem_cons_self ..)
    refine side_beat o k hk hf (fun i hi => jl i (List.mem_cons_of_mem _ hi)) b0 ?_
    split
    · exact hf j this beat hs b0 (by assumption) h
    · exact leave_ok o (by omega) h
theorem put_ok (o : Ok B) : ∀ k, k < B.P.length → ∀ beat hs, 0 ≤ beat → beat < B.lg k → HsOk B.L.length hs → HsOk B.L.length (B.put k beat hs) := by
  intro k
  induction k using Nat.strongRecOn with
  | ind k ih =>
    intro hk beat hs b0 b1 h
    have op := o.pt_ok hk
    have jl := op.js_lt
    have lge := o.lg_eq hk
    rw [o.put_eq hk]
    have ih : ∀ j, j < k → ∀ beat hs, 0 ≤ beat → beat < B.lg j → HsOk B.L.length hs → HsOk B.L.length ((tab (pF B) B.pts).getD j idP beat hs) := fun j hj => ih j hj (by omega)
    cases ep : B.pt k with
    | raise l t b =>
      rw [ep] at op lge
      have lge : B.lg k = b := lge
      exact h.set (rampV_bd (h.at_ op.1).2 ⟨op.2.1, op.2.2.1⟩ op.2.2.2.1 ⟨b0, by omega⟩)
    | row js => rw [ep] at jl; exact row_beat o k (by omega) ih rfl jl b0 h
    | side js => rw [ep] at jl; exact side_beat o k (by omega) ih jl b0 h
    | again z j =>
      rw [ep] at jl
      have hj := jl j (List.mem_singleton.mpr rfl)
      have lj := o.lg1 j (by omega)
      refine ih j hj _ _ (Int.emod_nonneg _ (by omega)) (Int.emod_lt_of_pos _ (by omega)) ?_
      split
      · exact leave_ok o (by omega) h
      · exact h
    | hold b => exact h
    | ring w b => exact h
theorem hs0_ok (o : Ok B) : HsOk B.L.length B.hs0 := ⟨List.length_map _, fun h hh => by
  obtain ⟨x, hx, rfl⟩ := List.mem_map.mp hh
  exact (o.ls x hx).2⟩
theorem stand_ok (o : Ok B) {beat : Int} (b0 : 0 ≤ beat) (b1 : beat ≤ B.lg (B.P.length - 1)) : HsOk B.L.length (B.stand beat) := by
  have p1 := o.p1
  unfold Bk.stand
  split
  · exact leave_ok o (by omega) (hs0_ok o)
  · exact put_ok o _ (by omega) beat _ b0 (by omega) (hs0_ok o)
end
/-! the guide made -/
abbrev gF (B : Bk) : List (Str × U) := [("forms", .lst (B.P.map fun x => x.2.u B.ln B.pn)), ("numbers", .dic (numU (B.P.map (·.1)))), ("limbs", .dic (numU (B.L.map (·.1)))), ("lengths", intsU B.lens), ("ends", .lst (B.ends.map endsU))]
abbrev gU (B : Bk) : U := .obj 1 (gF B)
/-- what stands in the guide -/
structure GIx (B : Bk) : Prop where
  lg : ∀ k, k < B.P.length → O2 opIx (intsU B.lens) (.int (k : Int)) (.int (B.lg k))
  fm : ∀ k, k < B.P.length → O2 opIx (.lst (B.P.map fun x => x.2.u B.ln B.pn)) (.int (k : Int)) ((B.pt k).u B.ln B.pn)
  nm : ∀ k, k < B.P.length → O2 opIx (.dic (numU (B.P.map (·.1)))) (.str (B.pn k)) (.int (k : Int))
  lm : ∀ l, l < B.L.length → O2 opIx (.dic (numU (B.L.map (·.1)))) (.str (B.ln l)) (.int (l : Int))
  en : ∀ k, k < B.P.length → O2 opIx (.lst (B.ends.map endsU)) (.int (k : Int)) (endsU (endL B.L.length (B.ef k)))
theorem Ok.gIx {B : Bk} (o : Ok B) : GIx B := ⟨fun k hk => o_ixl (at_nat (by rw [List.getElem?_map, Bk.lg_at hk]; rfl)), fun k hk => o_ixl (at_nat (by rw [List.getElem?_map, Bk.P_at hk]; rfl)), fun k hk => o_ixd rfl (o.num hk), fun l hl => o_ixd rfl (o.hand hl), fun k hk => o_ixl (at_nat (by
  unfold Bk.ends
  rw [List.getElem?_map, List.getElem?_map, show B.efs[k]? = some (B.ef k) from get_getD (fun _ => none) (by rw [Bk.efs_len]; exact hk)]; rfl))⟩
section
variable {B : Bk} {C : Ctx}
theorem guide_init_u (o : Ok B) (fu : 1000 < C.fuel) (c72 : Fu (C.call 72) [B.u] (intsU B.lens)) (c76 : Fu (C.call 76) [B.u] (.lst (B.ends.map endsU))) :
    FnO (runFn C f_m_Guide_init) (.o (.obj 1 []) :: [B.u].map Sl.s) .non (.o (gU B) :: [B.u].map Sl.s) := by
  have p1 := o.p1
  have l8 := o.l1
  have L1 : Xs C [0] [.o (.obj 1 [("forms", .lst (B.P.map fun x : Str × Pt => x.2.u B.ln B.pn)), ("numbers", .dic [])]), .s B.u, .n, .n, .n, .n, .n] (sFo (gT [2, 3]) (iEn (eOp opIx (eV 1) (eC (.int 1)))) b_m_Guide_init_1) (.nx [.o (.obj 1 [("forms", .lst (B.P.map fun x : Str × Pt => x.2.u B.ln B.pn)), ("numbers", .dic (numU (B.P.map (·.1))))]), .s B.u, .n, .n, .n, .n, .n]) := by
    have nd := o.pn
    have := s_fore (C := C) (io := [0]) (g := gT [2, 3]) (mi := iEn (eOp opIx (eV 1) (eC (.int 1)))) (b := b_m_Guide_init_1) (pe := [.o (.obj 1 [("forms", .lst (B.P.map fun x : Str × Pt => x.2.u B.ln B.pn)), ("numbers", .dic [])]), .s B.u, .n, .n, .n, .n, .n]) (xs := B.P) (f := partU B.ln B.pn) (S := fun j => [.o (.obj 1 [("forms", .lst (B.P.map fun x : Str × Pt => x.2.u B.ln B.pn)), ("numbers", .dic (numU ((B.P.map (·.1)).take j)))]), .s B.u, .n, .n, .n, .n, .n]) (by (repeat first | fail "p" | fail)) (by omega) (by show Fgt _ [.o (.obj 1 [_, ("numbers", .dic [])]), _, _, _, _, _, _]; (repeat first | fail "p" | fail)) (fun j x q => by
      have q2 : (B.P.map (·.1))[j]? = some x.1 := by rw [List.getElem?_map, q]; rfl
      have jl := (List.getElem?_eq_some_iff.mp q2).1
      have tl : ((B.P.map (·.1)).take j).length = j := by rw [List.length_take]; omega
      have sz : (numU ((B.P.map (·.1)).take j)).length < sizeLine := sz_lt (by rw [numU_len, tl]; simp at jl; omega)
      have := numU_put (nd_take nd q2)
      rw [tl] at this
      refine ⟨_, by (repeat first | fail "p" | fail), ?_⟩
      rw [take_snoc_g q2, ← this]
      apply bod_nx
      · unfold b_m_Guide_init_1; (repeat first | fail "p" | fail)
      · (repeat first | fail "p" | fail))
    rw [List.take_of_length_le (show (B.P.map (·.1)).length ≤ B.P.length by simp)] at this
    exact this
  have L2 : Xs C [0] [.o (.obj 1 [("forms", .lst (B.P.map fun x : Str × Pt => x.2.u B.ln B.pn)), ("numbers", .dic (numU (B.P.map (·.1)))), ("limbs", .dic [])]), .s B.u, .n, .n, .n, .n, .n] (sFo (gT [2, 4]) (iEn (eOp opIx (eV 1) (eC (.int 0)))) b_m_Guide_init_2) (.nx [.o (.obj 1 [("forms", .lst (B.P.map fun x : Str × Pt => x.2.u B.ln B.pn)), ("numbers", .dic (numU (B.P.map (·.1)))), ("limbs", .dic (numU (B.L.map (·.1))))]), .s B.u, .n, .n, .n, .n, .n]) := by
    have nd := o.ln
    have := s_fore (C := C) (io := [0]) (g := gT [2, 4]) (mi := iEn (eOp opIx (eV 1) (eC (.int 0)))) (b := b_m_Guide_init_2) (pe := [.o (.obj 1 [("forms", .lst (B.P.map fun x : Str × Pt => x.2.u B.ln B.pn)), ("numbers", .dic (numU (B.P.map (·.1)))), ("limbs", .dic [])]), .s B.u, .n, .n, .n, .n, .n]) (xs := B.L) (f := limbU) (S := fun j => [.o (.obj 1 [("forms", .lst (B.P.map fun x : Str × Pt => x.2.u B.ln B.pn)), ("numbers", .dic (numU (B.P.map (·.1)))), ("limbs", .dic (numU ((B.L.map (·.1)).take j)))]), .s B.u, .n, .n, .n, .n, .n]) (by (repeat first | fail "p" | fail)) (by omega) (by show Fgt _ [.o (.obj 1 [_, _, ("limbs", .dic [])]), _, _, _, _, _, _]; (repeat first | fail "p" | fail)) (fun j x q => by
      have q2 : (B.L.map (·.1))[j]? = some x.1 := by rw [List.getElem?_map, q]; rfl
      have jl := (List.getElem?_eq_some_iff.mp q2).1
      have tl : ((B.L.map (·.1)).take j).length = j := by rw [List.length_take]; omega
      have sz : (numU ((B.L.map (·.1)).take j)).length < sizeLine := sz_lt (by rw [numU_len, tl]; simp at jl; omega)
      have := numU_put (nd_take nd q2)
      rw [tl] at this
      refine ⟨_, by (repeat first | fail "p" | fail), ?_⟩
      rw [take_snoc_g q2, ← this]
      apply bod_nx
      · unfold b_m_Guide_init_2; (repeat first | fail "p" | fail)
      · (repeat first | fail "p" | fail))
    rw [List.take_of_length_le (show (B.L.map (·.1)).length ≤ B.L.length by simp)] at this
    exact this
  show FnO _ [.o (.obj 1 []), .s B.u] _ _
  refine Z.fo_of (io := [0]) rfl (by simp only [List.map_cons, List.map_nil, List.length_cons, List.length_nil, List.cons_append, List.nil_append, Nat.reduceAdd, Nat.reduceSub, List.replicate_succ, List.replicate_zero]; exact rfl) ?_
  (repeat first | fail "p" | with_reducible exact c72 | with_reducible exact c76 | with_reducible exact L1 | with_reducible exact L2 | fail)
  exact outs0 (us := [B.u]) rfl
theorem look_u (o : Ok B) {beat : Int} (b0 : 0 ≤ beat) (b1 : beat ≤ B.lg (B.P.length - 1)) : Fu (runFn C f_m_Guide_look_at) [gU B, .int beat] (.bl (decide (beat = B.lg (B.P.length - 1)))) := by
  have p1 := o.p1
  have ix : O2 opIx (intsU B.lens) (.int (-1)) (.int (B.lg (B.P.length - 1))) := o_ixl (at_m1 (by
    rw [List.getLast?_eq_getElem?, List.length_map, Bk.lens_len, List.getElem?_map, Bk.lg_at (by omega)]; rfl))
  have c1 : O2 opLt (.int beat) (.int 0) (.bl false) := by have := o_lt (p := beat) (q := 0); rwa [decide_eq_false (by omega)] at this
  have c2 : O2 opGt (.int beat) (.int (B.lg (B.P.length - 1))) (.bl false) := by have := o_gt (p := beat) (q := B.lg (B.P.length - 1)); rwa [decide_eq_false (by omega)] at this
  refine fu_of rfl (by simp only [List.map_cons, List.map_nil, List.length_cons, List.length_nil, List.cons_append, List.nil_append, Nat.reduceAdd, Nat.reduceSub, List.replicate_succ, List.replicate_zero]; exact rfl) ?_
  (repeat first | fail "p" | with_reducible exact ix | with_reducible exact c1 | with_reducible exact c2 | fail)
end
theorem guide_new {B : Bk} (o : Sound B) (n : Nat) : Ff ((ctx T (n + 7)).make 1) [B.u] (gU B) := by
  obtain ⟨c72, _, c76⟩ := calls29 o n
  exact ff_make T (guide_init_u (C := ctx T (n + 5)) o.toOk (fuT _) c72.fu c76.fu)
/-! heights at a beat: the code -/
def LeaveF (B : Bk) (C : Ctx) : Prop := ∀ k hs, k < B.P.length → HsOk B.L.length hs → FnO (C.meth 1 2) [.s (gU B), .s (.int (k : Nat)), .o (intsU hs)] .non [.s (gU B), .s (.int (k : Nat)), .o (intsU (B.leave k hs))]
def PutF (B : Bk) (C : Ctx) (k : Nat) : Prop := ∀ beat hs, 0 ≤ beat → beat < B.lg k → HsOk B.L.length hs → FnO (C.meth 1 3) [.s (gU B), .s (.int (k : Nat)), .s (.int beat), .o (intsU hs)] .non [.s (gU B), .s (.int (k : Nat)), .s (.int beat), .o (intsU (B.put k beat hs))]
section
variable {B : Bk} {C : Ctx}
theorem leave_u (o : Ok B) (fu : 1000 < C.fuel) {k : Nat} {hs : List Int} (hk : k < B.P.length) (h : HsOk B.L.length hs) : FnO (runFn C f_m_Guide_leave) [.s (gU B), .s (.int (k : Nat)), .o (intsU hs)] .non [.s (gU B), .s (.int (k : Nat)), .o (intsU (B.leave k hs))] := by
  have ix := (o.gIx).en k hk
  have l1 := o.l1
  have L : Xs C [2] [.s (gU B), .s (.int (k : Nat)), .o (intsU hs), .n, .n] (sFo (gT [3, 4]) (iA (eOp opIx (eFld [1] (eV 0) "ends") (eV 1))) b_m_Guide_leave_1) (.nx [.s (gU B), .s (.int (k : Nat)), .o (intsU (B.leave k hs)), .n, .n]) := by
    have el : (endL B.L.length (B.ef k)).length ≤ B.L.length := endL_len
    have := s_fors (C := C) (io := [2]) (g := gT [3, 4]) (mi := iA (eOp opIx (eFld [1] (eV 0) "ends") (eV 1))) (b := b_m_Guide_leave_1) (pe := [.s (gU B), .s (.int (k : Nat)), .o (intsU hs), .n, .n]) (xs := endL B.L.length (B.ef k)) (f := pairU) (S := fun j => [.s (gU B), .s (.int (k : Nat)), .o (intsU (setH hs ((endL B.L.length (B.ef k)).take j))), .n, .n]) (by (repeat first | fail "p" | with_reducible exact ix | fail)) (by omega) (by show Fgt _ [_, _, .o (intsU hs), _, _]; (repeat first | fail "p" | fail)) (fun j p q => by
      obtain ⟨z, hz, e, e1⟩ := endL_mem.mp (List.mem_of_getElem? q)
      have ho : HsOk B.L.length (setH hs ((endL B.L.length (B.ef k)).take j)) := setH_ok h fun p hp => by
        obtain ⟨y, _, e, _⟩ := endL_mem.mp (List.mem_of_mem_take hp)
        exact ef_h o k hk y p.2 e
      have e2 : setH hs ((endL B.L.length (B.ef k)).take (j + 1)) = (setH hs ((endL B.L.length (B.ef k)).take j)).set z p.2 := by
        unfold setH
        rw [take_snoc_g q, List.foldl_append]
        show List.set _ p.1.toNat p.2 = _
        rw [e1, Int.toNat_natCast]
      obtain ⟨V, hV⟩ : ∃ V, V = setH hs ((endL B.L.length (B.ef k)).take j) := ⟨_, rfl⟩
      rw [← hV] at ho e2
      have hn : ixN (V.map U.int).length ((z : Nat) : Int) = some z := by
        unfold ixN
        rw [List.length_map, ho.len, if_pos (by omega), if_pos (by omega), Int.toNat_natCast]
      obtain ⟨p1, p2⟩ := p
      dsimp only at e1 e2
      show ∃ pe1, Tp [2] (gT [3, 4]) [.s (gU B), .s (.int (k : Nat)), .o (intsU (setH hs ((endL B.L.length (B.ef k)).take j))), .n, .n] (.tup [.int p1, .int p2]) pe1 ∧ Bod C [2] pe1 b_m_Guide_leave_1 [.s (gU B), .s (.int (k : Nat)), .o (intsU (setH hs ((endL B.L.length (B.ef k)).take (j + 1)))), .n, .n]
      rw [e2, ← hV, e1]
      refine ⟨_, by (repeat first | fail "p" | fail), ?_⟩
      apply bod_nx
      · unfold b_m_Guide_leave_1
        exact s_stl (n := z) rfl (x_v rfl) (x_v rfl) hn (toS (toS to0))
      · show Fgt [_, _, .o (.lst ((V.map U.int).set z (.int p2))), _, _] [_, _, .o (.lst ((V.set z p2).map U.int)), _, _]
        rw [List.map_set]
        (repeat first | fail "p" | fail))
    rw [List.take_length] at this
    exact this
  refine Z.fo_of (io := [2]) rfl (by simp only [List.map_cons, List.map_nil, List.length_cons, List.length_nil, List.cons_append, List.nil_append, Nat.reduceAdd, Nat.reduceSub, List.replicate_succ, List.replicate_zero]; exact rfl) ?_
  exact ⟨_, L, rfl, outsE (us := [gU B, .int (k : Nat)]) rfl⟩
theorem ramp_u {s g b j : Int} (hs : 0 ≤ s ∧ s ≤ 10 ^ 18) (hg : 0 ≤ g ∧ g ≤ 10 ^ 18) (hb : 1 ≤ b ∧ b ≤ 10 ^ 18) (hj : 0 ≤ j ∧ j < b) : Fu (runFn C f_ramp) [.int s, .int g, .int b, .int j] (.int (rampV s g b j)) := by
  have big : (10 : Nat) ^ 18 ≤ 10 ^ 300 := Nat.pow_le_pow_right (by decide) (by decide)
  have m1 : mulOk (g - s) j = true := mulOk_sm (Nat.le_trans (show (g - s).natAbs ≤ 10 ^ 18 by omega) big) (Nat.le_trans (show j.natAbs ≤ 10 ^ 18 by omega) big)
  have d1 : divOk b = true := divOk_sm (by omega) (Nat.le_trans (show b.natAbs ≤ 10 ^ 18 by omega) big)
  have b0 : 0 < b := by omega
  unfold rampV
  refine fu_of rfl (by simp only [List.map_cons, List.map_nil, List.length_cons, List.length_nil, List.cons_append, List.nil_append, Nat.reduceAdd, Nat.reduceSub, List.replicate_succ, List.replicate_zero]; exact rfl) ?_
  (repeat first | fail "p" | with_reducible exact o_mul m1 | with_reducible exact o_div d1 b0 | fail)
theorem s_meth3 {pe pe1 : List Sl} {io : List Nat} {cs : List Nat} {m : Nat} {nm : Str} {a b : ME} {x y : U} {u v : U} (ho : pe[0]? = some (.s (gU B))) (hc : 1 ∈ cs) (hn : ((gF B).lookup nm).isNone = true) (ha : Xp C pe a u) (hb : Xp C pe b v) (l : pe[3]? = some (.o x)) (hf : FnO (C.meth 1 m) [.s (gU B), .s u, .s v, .o x] .non [.s (gU B), .s u, .s v, .o y]) (q1 : SetO 3 pe y pe1) : Xs C io pe (sEx (eMeth cs (eV 0) m nm (aC a (aC b (aC (eV 3) aN))))) (.nx pe1) :=
  s_exz (z_methq (i := 3) (k := 3) (x_v ho) hc hn l (q_s ha (q_s hb (q_o l q_n))) hf (oneS (oneS (oneS oneO))) (oneS (oneS (oneS oneO))) q1)
theorem s_meth2 {pe pe1 : List Sl} {io : List Nat} {cs : List Nat} {m : Nat} {nm : Str} {a : ME} {x y : U} {u : U} (ho : pe[0]? = some (.s (gU B))) (hc : 1 ∈ cs) (hn : ((gF B).lookup nm).isNone = true) (ha : Xp C pe a u) (l : pe[3]? = some (.o x)) (hf : FnO (C.meth 1 m) [.s (gU B), .s u, .o x] .non [.s (gU B), .s u, .o y]) (q1 : SetO 3 pe y pe1) : Xs C io pe (sEx (eMeth cs (eV 0) m nm (aC a (aC (eV 3) aN)))) (.nx pe1) :=
  s_exz (z_methq (i := 3) (k := 2) (x_v ho) hc hn l (q_s ha (q_o l q_n)) hf (oneS (oneS oneO)) (oneS (oneS oneO)) q1)
theorem beside_u (o : Ok B) (lv : LeaveF B C) {j : Nat} (hj : j < B.P.length) (pf : PutF B C j) {beat : Int} {hs : List Int} (b0 : 0 ≤ beat) (h : HsOk B.L.length hs) : FnO (runFn C f_m_Guide_put_beside) [.s (gU B), .s (.int (j : Nat)), .s (.int beat), .o (intsU hs)] .non [.s (gU B), .s (.int (j : Nat)), .s (.int beat), .o (intsU (if beat < B.lg j then B.put j beat hs else B.leave j hs))] := by
  have ix := (o.gIx).lg j hj
  by_cases c : beat < B.lg j
  · rw [if_pos c]
    have M : Xs C [3] [.s (gU B), .s (.int (j : Nat)), .s (.int beat), .o (intsU hs)] (sEx (eMeth [1] (eV 0) 3 "put" (aC (eV 1) (aC (eV 2) (aC (eV 3) aN))))) (.nx [.s (gU B), .s (.int (j : Nat)), .s (.int beat), .o (intsU (B.put j beat hs))]) := s_meth3 rfl (by decide) rfl (x_v rfl) (x_v rfl) rfl (pf beat hs b0 c h) (toS (toS (toS to0)))
    refine Z.fo_of (io := [3]) rfl (by simp only [List.map_cons, List.map_nil, List.length_cons, List.length_nil, List.cons_append, List.nil_append, Nat.reduceAdd, Nat.reduceSub, List.replicate_succ, List.replicate_zero]; exact rfl) ?_
    (repeat first | fail "p" | with_reducible exact ix | with_reducible exact M | fail)
    exact outsE (us := [gU B, .int (j : Nat), .int beat]) rfl
  · rw [if_neg c]
    have M : Xs C [3] [.s (gU B), .s (.int (j : Nat)), .s (.int beat), .o (intsU hs)] (sEx (eMeth [1] (eV 0) 2 "leave" (aC (eV 1) (aC (eV 3) aN)))) (.nx [.s (gU B), .s (.int (j : Nat)), .s (.int beat), .o (intsU (B.leave j hs))]) := s_meth2 rfl (by decide) rfl (x_v rfl) rfl (lv j hs hj h) (toS (toS (toS to0)))
    refine Z.fo_of (io := [3]) rfl (by simp only [List.map_cons, List.map_nil, List.length_cons, List.length_nil, List.cons_append, List.nil_append, Nat.reduceAdd, Nat.reduceSub, List.replicate_succ, List.replicate_zero]; exact rfl) ?_
    (repeat first | fail "p" | with_reducible exact ix | with_reducible exact M | fail)
    exact outsE (us := [gU B, .int (j : Nat), .int beat]) rfl
theorem in_row_h (o : Ok B) (lv : LeaveF B C) (fu : 1000 < C.fuel) {js : List Nat} (hj : ∀ j ∈ js, j < B.P.length ∧ PutF B C j) (j8 : js.length ≤ 8) {beat : Int} {hs : List Int} (b0 : 0 ≤ beat) (h : HsOk B.L.length hs) : FnO (runFn C f_m_Guide_put_in_row) [.s (gU B), .s (.lst (js.map fun j => .int (j : Nat))), .s (.int beat), .o (intsU hs)] .non [.s (gU B), .s (.lst (js.map fun j => .int (j : Nat))), .s (.int beat), .o (intsU (rowH B B.put js beat hs))] := by
  obtain ⟨R, hR⟩ : ∃ R, R = rowH B B.put js beat hs := ⟨_, rfl⟩
  obtain ⟨N, hN⟩ : ∃ N, N = U.lst (js.map fun j => .int (j : Nat)) := ⟨_, rfl⟩
  have IT : Xi C [.s (gU B), .s N, .s (.int beat), .o (intsU hs), .n] (iA (eV 1)) (js.map fun j => .int (j : Nat)) := by rw [hN]; (repeat first | fail "p" | fail)
  have L := s_forS (C := C) (io := [3]) (g := gN 4) (mi := iA (eV 1)) (b := b_m_Guide_put_in_row_1) (pe := [.s (gU B), .s N, .s (.int beat), .o (intsU hs), .n]) (xs := js) (f := fun j : Nat => .int (j : Nat)) (S := fun a : Int × List Int => [.s (gU B), .s N, .s (.int a.1), .o (intsU a.2), .n]) (inv := fun i a => 0 ≤ a.1 ∧ HsOk B.L.length a.2 ∧ rowH B B.put (js.drop i) a.1 a.2 = R) (fin := fun q => ∃ pe, q = .rt .non pe ∧ pe[3]? = some (.o (intsU R))) (a0 := (beat, hs)) IT (by omega) (by (repeat first | fail "p" | fail)) ⟨b0, h, by rw [List.drop_zero, hR]⟩ (fun i j a q ⟨a0, ho, e⟩ => by
    obtain ⟨bt, hv⟩ := a
    dsimp only at a0 ho e ⊢
    obtain ⟨jl, pf⟩ := hj j (List.mem_of_getElem? q)
    have ix := (o.gIx).lg j jl
    have il := (List.getElem?_eq_some_iff.mp q).1
    have ed : js.drop i = j :: js.drop (i + 1) := by
      rw [List.drop_eq_getElem_cons il]
      rw [List.getElem?_eq_getElem il] at q
      cases q; rfl
    rw [ed] at e
    unfold rowH at e
    refine ⟨[.s (gU B), .s N, .s (.int bt), .o (intsU hv), .s (.int (j : Nat))], by (repeat first | fail "p" | fail), ?_⟩
    by_cases c : bt < B.lg j
    · rw [if_pos c] at e
      right
      have M : Xs C [3] [.s (gU B), .s N, .s (.int bt), .o (intsU hv), .s (.int (j : Nat))] (sEx (eMeth [1] (eV 0) 3 "put" (aC (eV 4) (aC (eV 2) (aC (eV 3) aN))))) (.nx [.s (gU B), .s N, .s (.int bt), .o (intsU R), .s (.int (j : Nat))]) := by
        rw [← e]
        exact s_meth3 rfl (by decide) rfl (x_v rfl) (x_v rfl) rfl (pf bt hv a0 c ho) (toS (toS (toS to0)))
      refine ⟨.rt .non [.s (gU B), .s N, .s (.int bt), .o (intsU R), .s (.int (j : Nat))], ⟨_, rfl, rfl⟩, .inr ⟨?_, .inl ⟨_, _, rfl⟩⟩⟩
      unfold b_m_Guide_put_in_row_1
      (repeat first | fail "p" | with_reducible exact ix | with_reducible exact M | fail)
    · rw [if_neg c] at e
      left
      refine ⟨(bt - B.lg j, B.leave j hv), ⟨by dsimp only; omega, leave_ok o jl ho, e⟩, ?_⟩
      have M : Xs C [3] [.s (gU B), .s N, .s (.int (bt - B.lg j)), .o (intsU hv), .s (.int (j : Nat))] (sEx (eMeth [1] (eV 0) 2 "leave" (aC (eV 4) (aC (eV 3) aN)))) (.nx [.s (gU B), .s N, .s (.int (bt - B.lg j)), .o (intsU (B.leave j hv)), .s (.int (j : Nat))]) := s_meth2 rfl (by decide) rfl (x_v rfl) rfl (lv j hv jl ho) (toS (toS (toS to0)))
      apply bod_nx
      · unfold b_m_Guide_put_in_row_1
        (repeat first | fail "p" | with_reducible exact ix | with_reducible exact M | fail)
      · (repeat first | fail "p" | fail))
  rw [← hN, ← hR]
  refine Z.fo_of (io := [3]) rfl (by simp only [List.map_cons, List.map_nil, List.length_cons, List.length_nil, List.cons_append, List.nil_append, Nat.reduceAdd, Nat.reduceSub, List.replicate_succ, List.replicate_zero]; exact rfl) ?_
  rcases L with ⟨⟨bt, hv⟩, ⟨_, _, e⟩, X⟩ | ⟨q, ⟨pe, rfl, e⟩, X⟩
  · rw [List.drop_length] at e
    have e : hv = R := e
    subst e
    exact ⟨_, X, rfl, outsE (us := [gU B, N, .int beat]) rfl⟩
  · exact ⟨_, X, rfl, outsE (us := [gU B, N, .int beat]) e⟩
structure CPut (C : Ctx) (B : Bk) (k : Nat) : Prop where
  fu : 1000 < C.fuel
  lv : LeaveF B C
  ra : ∀ s g b j : Int, (0 ≤ s ∧ s ≤ 10 ^ 18) → (0 ≤ g ∧ g ≤ 10 ^ 18) → (1 ≤ b ∧ b ≤ 10 ^ 18) → (0 ≤ j ∧ j < b) → Fu (C.call 8) [.int s, .int g, .int b, .int j] (.int (rampV s g b j))
  pf : ∀ j, j < k → PutF B C j
  bs : ∀ j, j < k → ∀ beat hs, 0 ≤ beat → HsOk B.L.length hs → FnO (C.meth 1 5) [.s (gU B), .s (.int (j : Nat)), .s (.int beat), .o (intsU hs)] .non [.s (gU B), .s (.int (j : Nat)), .s (.int beat), .o (intsU (if beat < B.lg j then B.put j beat hs else B.leave j hs))]
  rw_ : ∀ js : List Nat, (∀ j ∈ js, j < k) → js.length ≤ 8 → ∀ beat hs, 0 ≤ beat → HsOk B.L.length hs → FnO (C.meth 1 6) [.s (gU B), .s (.lst (js.map fun j => .int (j : Nat))), .s (.int beat), .o (intsU hs)] .non [.s (gU B), .s (.lst (js.map fun j => .int (j : Nat))), .s (.int beat), .o (intsU (rowH B B.put js beat hs))]
theorem put_u (so : Sound B) {k : Nat} (hk : k < B.P.length) (c : CPut C B k) {beat : Int} {hs : List Int} (b0 : 0 ≤ beat) (b1 : beat < B.lg k) (h : HsOk B.L.length hs) : FnO (runFn C f_m_Guide_put) [.s (gU B), .s (.int (k : Nat)), .s (.int beat), .o (intsU hs)] .non [.s (gU B), .s (.int (k : Nat)), .s (.int beat), .o (intsU (B.put k beat hs))] := by
  have o := so.toOk
  have fu := c.fu
  have op := o.pt_ok hk
  have jl := op.js_lt
  have lge := o.lg_eq hk
  have g := o.gIx
  have fm := g.fm k hk
  have pe := o.put_eq hk
  have ps : ∀ j, (tab (pF B) B.pts).getD j idP = B.put j := fun j => rfl
  cases ep : B.pt k with
  | raise l t b =>
    rw [ep] at op lge fm pe
    have lge : B.lg k = b := lge
    obtain ⟨q, q1, q2⟩ := h.at_ op.1
    have F := c.ra (hs.getD l 0) t b beat ⟨q1, q2⟩ ⟨op.2.1, op.2.2.1⟩ op.2.2.2 ⟨b0, by omega⟩
    have lm := g.lm l op.1
    have ixh : O2 opIx (intsU hs) (.int (l : Nat)) (.int (hs.getD l 0)) := o_ixl (at_nat (by rw [List.getElem?_map, q]; rfl))
    have hn : ixN (hs.map U.int).length ((l : Nat) : Int) = some l := by
      have := op.1
      unfold ixN
      rw [List.length_map, h.len, if_pos (by omega), if_pos (by omega), Int.toNat_natCast]
    have e : B.put k beat hs = hs.set l (rampV (hs.getD l 0) t b beat) := by rw [pe]; rfl
    have fm : O2 opIx (.lst (B.P.map fun x => x.2.u B.ln B.pn)) (.int (k : Int)) (.tup [.str "raise", .str (B.ln l), .int t, .int b]) := fm
    rw [e]
    have ST : Xs C [3] [.s (gU B), .s (.int (k : Nat)), .s (.int beat), .o (intsU hs), .s (.tup [.str "raise", .str (B.ln l), .int t, .int b]), .s (.int (l : Nat)), .n, .n, .n, .n] (sSt stD (eV 3) (eV 5) (eCall 8 (aC (eOp opIx (eV 3) (eV 5)) (aC (eOp opIx (eV 4) (eC (.int 2))) (aC (eOp opIx (eV 4) (eC (.int 3))) (aC (eV 2) aN)))) []))
        (.nx [.s (gU B), .s (.int (k : Nat)), .s (.int beat), .o (intsU (hs.set l (rampV (hs.getD l 0) t b beat))), .s (.tup [.str "raise", .str (B.ln l), .int t, .int b]), .s (.int (l : Nat)), .n, .n, .n, .n]) := by
      have := s_stl (C := C) (io := [3]) (pe := [.s (gU B), .s (.int (k : Nat)), .s (.int beat), .o (intsU hs), .s (.tup [.str "raise", .str (B.ln l), .int t, .int b]), .s (.int (l : Nat)), .n, .n, .n, .n]) (i := 3) (n := l) (us := hs.map U.int) (u := .int (rampV (hs.getD l 0) t b beat)) (a := eCall 8 (aC (eOp opIx (eV 3) (eV 5)) (aC (eOp opIx (eV 4) (eC (.int 2))) (aC (eOp opIx (eV 4) (eC (.int 3))) (aC (eV 2) aN)))) []) (b := eV 5) rfl (by (repeat first | fail "p" | with_reducible exact F | with_reducible exact ixh | fail)) (x_v rfl) hn (toS (toS (toS to0)))
      rw [show intsU (hs.set l (rampV (hs.getD l 0) t b beat)) = .lst ((hs.map U.int).set l (.int (rampV (hs.getD l 0) t b beat))) by unfold intsU; rw [List.map_set]]
      exact this
    refine Z.fo_of (io := [3]) rfl (by simp only [List.map_cons, List.map_nil, List.length_cons, List.length_nil, List.cons_append, List.nil_append, Nat.reduceAdd, Nat.reduceSub, List.replicate_succ, List.replicate_zero]; exact rfl) ?_
    (repeat first | fail "p" | with_reducible exact fm | with_reducible exact lm | with_reducible exact ST | fail)
    exact outsE (us := [gU B, .int (k : Nat), .int beat]) rfl
  | hold b =>
    rw [ep] at fm pe
    have e : B.put k beat hs = hs := by rw [pe]; rfl
    have fm : O2 opIx (.lst (B.P.map fun x => x.2.u B.ln B.pn)) (.int (k : Int)) (.tup [.str "hold", .int b]) := fm
    rw [e]
    refine Z.fo_of (io := [3]) rfl (by simp only [List.map_cons, List.map_nil, List.length_cons, List.length_nil, List.cons_append, List.nil_append, Nat.reduceAdd, Nat.reduceSub, List.replicate_succ, List.replicate_zero]; exact rfl) ?_
    (repeat first | fail "p" | with_reducible exact fm | fail)
    exact outsE (us := [gU B, .int (k : Nat), .int beat]) rfl
  | ring w b =>
    rw [ep] at fm pe
    have e : B.put k beat hs = hs := by rw [pe]; rfl
    have fm : O2 opIx (.lst (B.P.map fun x => x.2.u B.ln B.pn)) (.int (k : Int)) (.tup [.str "ring", .str w, .int b]) := fm
    rw [e]
    refine Z.fo_of (io := [3]) rfl (by simp only [List.map_cons, List.map_nil, List.length_cons, List.length_nil, List.cons_append, List.nil_append, Nat.reduceAdd, Nat.reduceSub, List.replicate_succ, List.replicate_zero]; exact rfl) ?_
    (repeat first | fail "p" | with_reducible exact fm | fail)
    exact outsE (us := [gU B, .int (k : Nat), .int beat]) rfl
  | side js =>
    rw [ep] at fm pe op jl
    have j4 : js.length ≤ 4 := op.2.1
    have jl : ∀ j ∈ js, j < k := jl
    have e : B.put k beat hs = sideH B B.put js beat hs := by rw [pe]; exact sideH_congr fun j _ => rfl
    have fm : O2 opIx (.lst (B.P.map fun x => x.2.u B.ln B.pn)) (.int (k : Int)) (.tup [.str "side", .tup (js.map fun j => .str (B.pn j))]) := fm
    rw [e]
    have L : Xs C [3] [.s (gU B), .s (.int (k : Nat)), .s (.int beat), .o (intsU hs), .s (.tup [.str "side", .tup (js.map fun j => .str (B.pn j))]), .n, .n, .n, .n, .n] (sFo (gN 6) (iA (eOp opIx (eV 4) (eC (.int 1)))) b_m_Guide_put_1)
        (.nx [.s (gU B), .s (.int (k : Nat)), .s (.int beat), .o (intsU (sideH B B.put js beat hs)), .s (.tup [.str "side", .tup (js.map fun j => .str (B.pn j))]), .n, .n, .n, .n, .n]) := by
      have := s_fors (C := C) (io := [3]) (g := gN 6) (mi := iA (eOp opIx (eV 4) (eC (.int 1)))) (b := b_m_Guide_put_1) (pe := [.s (gU B), .s (.int (k : Nat)), .s (.int beat), .o (intsU hs), .s (.tup [.str "side", .tup (js.map fun j => .str (B.pn j))]), .n, .n, .n, .n, .n]) (xs := js) (f := fun j => .str (B.pn j)) (S := fun i => [.s (gU B), .s (.int (k : Nat)), .s (.int beat), .o (intsU (sideH B B.put (js.take i) beat hs)), .s (.tup [.str "side", .tup (js.map fun j => .str (B.pn j))]), .n, .n, .n, .n, .n]) (by (repeat first | fail "p" | fail)) (by omega) (by show Fgt _ [_, _, _, .o (intsU hs), _, _, _, _, _, _]; (repeat first | fail "p" | fail)) (fun i j q => by
        have hjk := jl j (List.mem_of_getElem? q)
        have nm := g.nm j (by omega)
        have ho : HsOk B.L.length (sideH B B.put (js.take i) beat hs) := side_beat o k (by omega) (fun j hj bt hv a b c => put_ok o j (by omega) bt hv a b c) (fun i hi => jl i (List.mem_of_mem_take hi)) b0 h
        have e2 : sideH B B.put (js.take (i + 1)) beat hs = (if beat < B.lg j then B.put j beat (sideH B B.put (js.take i) beat hs) else B.leave j (sideH B B.put (js.take i) beat hs)) := by
          unfold sideH
          rw [take_snoc_g q, List.foldl_append]; rfl
        have F := c.bs j hjk beat _ b0 ho
        rw [e2]
        generalize sideH B B.put (js.take i) beat hs = V at F ⊢
        refine ⟨_, by (repeat first | fail "p" | fail), ?_⟩
        apply bod_nx
        · unfold b_m_Guide_put_1
          exact s_meth3 (pe1 := [.s (gU B), .s (.int (k : Nat)), .s (.int beat), .o (intsU (if beat < B.lg j then B.put j beat V else B.leave j V)), .s (.tup [.str "side", .tup (js.map fun j => .str (B.pn j))]), .n, .s (.str (B.pn j)), .n, .n, .n]) rfl (by decide) rfl (by (repeat first | fail "p" | with_reducible exact nm | fail)) (x_v rfl) rfl F (toS (toS (toS to0)))
        · (repeat first | fail "p" | fail))
      rw [List.take_length] at this
      exact this
    refine Z.fo_of (io := [3]) rfl (by simp only [List.map_cons, List.map_nil, List.length_cons, List.length_nil, List.cons_append, List.nil_append, Nat.reduceAdd, Nat.reduceSub, List.replicate_succ, List.replicate_zero]; exact rfl) ?_
    (repeat first | fail "p" | with_reducible exact fm | with_reducible exact L | fail)
    exact outsE (us := [gU B, .int (k : Nat), .int beat]) rfl
  | row js =>
    rw [ep] at fm pe op jl
    have j8 : js.length ≤ 8 := op.2.1
    have jl : ∀ j ∈ js, j < k := jl
    have e : B.put k beat hs = rowH B B.put js beat hs := by rw [pe]; exact rowH_congr fun j _ => rfl
    have fm : O2 opIx (.lst (B.P.map fun x => x.2.u B.ln B.pn)) (.int (k : Int)) (.tup [.str "row", .tup (js.map fun j => .str (B.pn j))]) := fm
    rw [e]
    have F := c.rw_ js jl j8 beat hs b0 h
    have nm : ∀ j ∈ js, O2 opIx (.dic (numU (B.P.map (·.1)))) (.str (B.pn j)) (.int (j : Int)) := fun j hj => g.nm j (by have := jl j hj; omega)
    have M : ∀ {cs : List Nat}, 1 ∈ cs → Xs C [3] [.s (gU B), .s (.int (k : Nat)), .s (.int beat), .o (intsU hs), .s (.tup [.str "row", .tup (js.map fun j => .str (B.pn j))]), .n, .n, .n, .n, .n] (sEx (eMeth [1] (eV 0) 6 "put_in_row" (aC (eLc [6] (gN 6) (iA (eOp opIx (eV 4) (eC (.int 1)))) tY (eOp opIx (eFld cs (eV 0) "numbers") (eV 6))) (aC (eV 2) (aC (eV 3) aN)))))
        (.nx [.s (gU B), .s (.int (k : Nat)), .s (.int beat), .o (intsU (rowH B B.put js beat hs)), .s (.tup [.str "row", .tup (js.map fun j => .str (B.pn j))]), .n, .n, .n, .n, .n]) := fun {cs} hc => by
      refine s_meth3 rfl (by decide) rfl ?_ (x_v rfl) rfl F (toS (toS (toS to0)))
      (repeat first | fail "p" | with_reducible exact nm _ (by assumption) | fail)
    refine Z.fo_of (io := [3]) rfl (by simp only [List.map_cons, List.map_nil, List.length_cons, List.length_nil, List.cons_append, List.nil_append, Nat.reduceAdd, Nat.reduceSub, List.replicate_succ, List.replicate_zero]; exact rfl) ?_
    (repeat first | fail "p" | with_reducible exact fm | with_reducible exact M (by decide) | fail)
    exact outsE (us := [gU B, .int (k : Nat), .int beat]) rfl
  | again z j =>
    rw [ep] at fm pe op jl
    have hjk : j < k := jl j (List.mem_singleton.mpr rfl)
    have lj := o.lg1 j (by omega)
    have nm := g.nm j (by omega)
    have ixl := g.lg j (by omega)
    have e : B.put k beat hs = B.put j (beat % B.lg j) (if 0 < beat / B.lg j then B.leave j hs else hs) := by rw [pe]; rfl
    have m0 := Int.emod_nonneg beat (show B.lg j ≠ 0 by omega)
    have m1 := Int.emod_lt_of_pos beat (show 0 < B.lg j by omega)
    have ld : divOk (B.lg j) = true := divOk_sm (by omega) (Nat.le_trans (show (B.lg j).natAbs ≤ 10 ^ 60 by have := so.lgb j (by omega); omega) (Nat.pow_le_pow_right (by decide) (by decide)))
    have dv : B1 bDvm [.int beat, .int (B.lg j)] (.tup [.int (beat / B.lg j), .int (beat % B.lg j)]) := b_dvm (by omega) ld
    have fm : O2 opIx (.lst (B.P.map fun x => x.2.u B.ln B.pn)) (.int (k : Int)) (.tup [.str "again", .int z, .str (B.pn j)]) := fm
    rw [e]
    obtain ⟨t, ht⟩ : ∃ t, t = beat / B.lg j := ⟨_, rfl⟩
    obtain ⟨r, hr⟩ : ∃ r, r = beat % B.lg j := ⟨_, rfl⟩
    rw [← ht, ← hr] at dv
    rw [← hr] at m0 m1
    rw [← ht, ← hr]
    by_cases c0 : 0 < t
    · rw [if_pos c0]
      have F1 := c.lv j hs (by omega) h
      have F2 := c.pf j hjk r (B.leave j hs) m0 m1 (leave_ok o (by omega) h)
      generalize B.leave j hs = V at F1 F2 ⊢
      have M1 : Xs C [3] [.s (gU B), .s (.int (k : Nat)), .s (.int beat), .o (intsU hs), .s (.tup [.str "again", .int z, .str (B.pn j)]), .n, .n, .s (.int (j : Nat)), .s (.int t), .s (.int r)] (sEx (eMeth [1] (eV 0) 2 "leave" (aC (eV 7) (aC (eV 3) aN))))
        (.nx [.s (gU B), .s (.int (k : Nat)), .s (.int beat), .o (intsU V), .s (.tup [.str "again", .int z, .str (B.pn j)]), .n, .n, .s (.int (j : Nat)), .s (.int t), .s (.int r)]) := s_meth2 rfl (by decide) rfl (x_v rfl) rfl F1 (toS (toS (toS to0)))
      have M2 : Xs C [3] [.s (gU B), .s (.int (k : Nat)), .s (.int beat), .o (intsU V), .s (.tup [.str "again", .int z, .str (B.pn j)]), .n, .n, .s (.int (j : Nat)), .s (.int t), .s (.int r)] (sEx (eMeth [1] (eV 0) 3 "put" (aC (eV 7) (aC (eV 9) (aC (eV 3) aN)))))
        (.nx [.s (gU B), .s (.int (k : Nat)), .s (.int beat), .o (intsU (B.put j r V)), .s (.tup [.str "again", .int z, .str (B.pn j)]), .n, .n, .s (.int (j : Nat)), .s (.int t), .s (.int r)]) := s_meth3 rfl (by decide) rfl (x_v rfl) (x_v rfl) rfl F2 (toS (toS (toS to0)))
      refine Z.fo_of (io := [3]) rfl (by simp only [List.map_cons, List.map_nil, List.length_cons, List.length_nil, List.cons_append, List.nil_append, Nat.reduceAdd, Nat.reduceSub, List.replicate_succ, List.replicate_zero]; exact rfl) ?_
      (repeat first | fail "p" | with_reducible exact fm | with_reducible exact nm | with_reducible exact ixl | with_reducible exact dv | with_reducible exact M1 | with_reducible exact M2 | fail)
      exact outsE (us := [gU B, .int (k : Nat), .int beat]) rfl
    · rw [if_neg c0]
      have F2 := c.pf j hjk r hs m0 m1 h
      have M2 : Xs C [3] [.s (gU B), .s (.int (k : Nat)), .s (.int beat), .o (intsU hs), .s (.tup [.str "again", .int z, .str (B.pn j)]), .n, .n, .s (.int (j : Nat)), .s (.int t), .s (.int r)] (sEx (eMeth [1] (eV 0) 3 "put" (aC (eV 7) (aC (eV 9) (aC (eV 3) aN)))))
        (.nx [.s (gU B), .s (.int (k : Nat)), .s (.int beat), .o (intsU (B.put j r hs)), .s (.tup [.str "again", .int z, .str (B.pn j)]), .n, .n, .s (.int (j : Nat)), .s (.int t), .s (.int r)]) := s_meth3 rfl (by decide) rfl (x_v rfl) (x_v rfl) rfl F2 (toS (toS (toS to0)))
      refine Z.fo_of (io := [3]) rfl (by simp only [List.map_cons, List.map_nil, List.length_cons, List.length_nil, List.cons_append, List.nil_append, Nat.reduceAdd, Nat.reduceSub, List.replicate_succ, List.replicate_zero]; exact rfl) ?_
      (repeat first | fail "p" | with_reducible exact fm | with_reducible exact nm | with_reducible exact ixl | with_reducible exact dv | with_reducible exact M2 | fail)
      exact outsE (us := [gU B, .int (k : Nat), .int beat]) rfl
end
/-! stand -/
section
variable {B : Bk}
theorem leave_all (o : Ok B) (n : Nat) : LeaveF B (ctx T (n + 1)) := fun k hs hk h => leave_u (C := ctx T n) o (fuT n) hk h
theorem put_all (so : Sound B) : ∀ k, k < B.P.length → ∀ n, 2 * k + 3 ≤ n → PutF B (ctx T n) k := by
  have o := so.toOk
  intro k
  induction k using Nat.strongRecOn with
  | ind k ih =>
    intro hk n hn beat hs b0 b1 h
    obtain ⟨n, rfl⟩ : ∃ i, n = i + 3 := ⟨n - 3, by omega⟩
    exact put_u (C := ctx T (n + 2)) so hk ⟨fuT _, leave_all o (n + 1), fun s g b j hs hg hb hj => ramp_u (C := ctx T (n + 1)) hs hg hb hj, fun j hj => ih j hj (by omega) (n + 2) (by omega),
      fun j hj bt hv c0 ho => beside_u (C := ctx T (n + 1)) o (leave_all o n) (by omega) (ih j hj (by omega) (n + 1) (by omega)) c0 ho,
      fun js hj j8 bt hv c0 ho => in_row_h (C := ctx T (n + 1)) o (leave_all o n) (fuT _) (fun j hm => ⟨by have := hj j hm; omega, ih j (hj j hm) (by have := hj j hm; omega) (n + 1) (by have := hj j hm; omega)⟩) j8 c0 ho⟩ b0 b1 h
theorem stand_u (so : Sound B) {n : Nat} (hn : 150 ≤ n) {beat : Int} (b0 : 0 ≤ beat) (b1 : beat ≤ B.lg (B.P.length - 1)) : Ff (runFn (ctx T n) f_stand) [B.u, .int beat] (intsU (B.stand beat)) := by
  have o := so.toOk
  have p1 := o.p1
  have l1 := o.l1
  obtain ⟨m, rfl⟩ : ∃ m, n = m + 7 := ⟨n - 7, by omega⟩
  have f7 := fuT (m + 7)
  have G := guide_new so m
  have LK : Fu ((ctx T (m + 7)).meth 1 1) [gU B, .int beat] (.bl (decide (beat = B.lg (B.P.length - 1)))) := look_u (C := ctx T (m + 6)) o b0 b1
  have ln : B1 bLen [.lst (B.P.map (partU B.ln B.pn))] (.int (B.P.length : Int)) := by have := b_lenl (us := B.P.map (partU B.ln B.pn)); rwa [List.length_map] at this
  have sb : O2 opSub (.int (B.P.length : Int)) (.int 1) (.int ((B.P.length - 1 : Nat) : Int)) := by
    have := o_sub (p := (B.P.length : Int)) (q := 1)
    rwa [show (B.P.length : Int) - 1 = ((B.P.length - 1 : Nat) : Int) by omega] at this
  have LC : Xf (ctx T (m + 7)) [.s B.u, .s (.int beat), .s (gU B), .n, .n, .n] (eLc [4, 5] (gT [4, 5]) (iA (eOp opIx (eV 0) (eC (.int 0)))) tY (eV 5)) (intsU B.hs0) := by
    unfold Bk.hs0
    show Xf _ _ _ (.lst ((B.L.map (·.2)).map U.int))
    rw [List.map_map]
    apply f_lcm (f := limbU) (xs := B.L)
    case hi => (repeat first | fail "p" | fail)
    case hw => (repeat first | fail "p" | fail)
    case hn => exact sz_le (by omega)
    case fu => omega
    case hs => intro x hx; exact ⟨_, by (repeat first | fail "p" | fail), by (repeat first | fail "p" | fail)⟩
  have h0 := hs0_ok o
  have kl : B.P.length - 1 < B.P.length := by omega
  have IF : Xs (ctx T (m + 7)) [] [.s B.u, .s (.int beat), .s (gU B), .o (intsU B.hs0), .n, .n] (sIf (tV (eMeth [1] (eV 2) 1 "look_at" (aC (eV 1) aN))) (sEx (eMeth [1] (eV 2) 2 "leave" (aC (eOp opSub (eBf bLen (aC (eOp opIx (eV 0) (eC (.int 1))) aN)) (eC (.int 1))) (aC (eV 3) aN)))) (sEx (eMeth [1] (eV 2) 3 "put" (aC (eOp opSub (eBf bLen (aC (eOp opIx (eV 0) (eC (.int 1))) aN)) (eC (.int 1))) (aC (eV 1) (aC (eV 3) aN))))))
      (.nx [.s B.u, .s (.int beat), .s (gU B), .o (intsU (B.stand beat)), .n, .n]) := by
    unfold Bk.stand
    by_cases c : beat = B.lg (B.P.length - 1)
    · rw [decide_eq_true c] at LK
      rw [if_pos c]
      have F := leave_all o (m + 6) (B.P.length - 1) B.hs0 kl h0
      have M : Xs (ctx T (m + 7)) [] [.s B.u, .s (.int beat), .s (gU B), .o (intsU B.hs0), .n, .n] (sEx (eMeth [1] (eV 2) 2 "leave" (aC (eOp opSub (eBf bLen (aC (eOp opIx (eV 0) (eC (.int 1))) aN)) (eC (.int 1))) (aC (eV 3) aN)))) (.nx [.s B.u, .s (.int beat), .s (gU B), .o (intsU (B.leave (B.P.length - 1) B.hs0)), .n, .n]) := by
        refine s_exz (z_methq (i := 3) (k := 2) (x_v rfl) (by decide) rfl rfl (q_s (u := .int ((B.P.length - 1 : Nat) : Int)) ?_ (q_o rfl q_n)) F (oneS (oneS oneO)) (oneS (oneS oneO)) (toS (toS (toS to0))))
        (repeat first | fail "p" | with_reducible exact ln | with_reducible exact sb | fail)
      (repeat first | fail "p" | with_reducible exact LK | with_reducible exact M | fail)
    · rw [decide_eq_false c] at LK
      rw [if_neg c]
      have F := put_all so (B.P.length - 1) kl (m + 7) (by omega) beat B.hs0 b0 (by omega) h0
      have M : Xs (ctx T (m + 7)) [] [.s B.u, .s (.int beat), .s (gU B), .o (intsU B.hs0), .n, .n] (sEx (eMeth [1] (eV 2) 3 "put" (aC (eOp opSub (eBf bLen (aC (eOp opIx (eV 0) (eC (.int 1))) aN)) (eC (.int 1))) (aC (eV 1) (aC (eV 3) aN))))) (.nx [.s B.u, .s (.int beat), .s (gU B), .o (intsU (B.put (B.P.length - 1) beat B.hs0)), .n, .n]) := by
        refine s_exz (z_methq (i := 3) (k := 3) (x_v rfl) (by decide) rfl rfl (q_s (u := .int ((B.P.length - 1 : Nat) : Int)) ?_ (q_s (x_v rfl) (q_o rfl q_n))) F (oneS (oneS (oneS oneO))) (oneS (oneS (oneS oneO))) (toS (toS (toS to0))))
        (repeat first | fail "p" | with_reducible exact ln | with_reducible exact sb | fail)
      (repeat first | fail "p" | with_reducible exact LK | with_reducible exact M | fail)
  refine ff_of rfl (by simp only [List.map_cons, List.map_nil, List.length_cons, List.length_nil, List.cons_append, List.nil_append, Nat.reduceAdd, Nat.reduceSub, List.replicate_succ, List.replicate_zero]; exact rfl) ⟨.rf (intsU (B.stand beat)) [.s B.u, .s (.int beat), .s (gU B), .n, .n, .n], ?_, rfl⟩
  apply s_sq (f1 := .nx [.s B.u, .s (.int beat), .s (gU B), .n, .n, .n])
  · (repeat first | fail "p" | with_reducible exact G | with_reducible exact G.fu | fail)
  apply k_n
  apply s_sq (f1 := .nx [.s B.u, .s (.int beat), .s (gU B), .o (intsU B.hs0), .n, .n])
  · show Xs _ [] _ (sAs (gNo 3) _) _
    (repeat first | fail "p" | with_reducible exact LC | fail)
  apply k_n
  apply s_sq (f1 := .nx [.s B.u, .s (.int beat), .s (gU B), .o (intsU (B.stand beat)), .n, .n])
  · exact IF
  apply k_n
  exact s_ro rfl (txS (txS (txS tx0)))
theorem stand_call (so : Sound B) {n : Nat} (hn : 151 ≤ n) {beat : Int} (b0 : 0 ≤ beat) (b1 : beat ≤ B.lg (B.P.length - 1)) : Ff ((ctx T n).call 87) [B.u, .int beat] (intsU (B.stand beat)) := by
  obtain ⟨m, rfl⟩ : ∃ m, n = m + 1 := ⟨n - 1, by omega⟩
  exact stand_u so (by omega) b0 b1
end
/-! what is moved is what is left somewhere -/
/-- moved, left -/
theorem mv_ef {nl : Nat} : ∀ ps : List Pt, (∀ k p, ps[k]? = some p → PtOk nl k p) → ∀ (j l : Nat), ((l : Int) ∈ (tab mvF ps).getD j []) ↔ ((tab eF ps).getD j fun _ => none) l ≠ none := by
  intro ps
  induction ps using snoc_ind with
  | h0 => intro _ j l; constructor
          · intro h; cases h
          · intro h; exact absurd rfl h
  | h1 ps p ih =>
    intro o j l
    have ih := ih fun k q e => o k q (by rw [List.getElem?_append_left (List.getElem?_eq_some_iff.mp e).1]; exact e)
    rw [tab_snoc, tab_snoc]
    by_cases hj : j < ps.length
    · rw [List.getD_eq_getElem?_getD, List.getElem?_append_left (by rw [tab_len]; exact hj), ← List.getD_eq_getElem?_getD, List.getD_eq_getElem?_getD (l := tab eF ps ++ _), List.getElem?_append_left (by rw [tab_len]; exact hj), ← List.getD_eq_getElem?_getD]
      exact ih j l
    · by_cases hj2 : j = ps.length
      · subst hj2
        rw [List.getD_eq_getElem?_getD, List.getElem?_append_right (by rw [tab_len]; exact Nat.le_refl _), tab_len, Nat.sub_self, List.getD_eq_getElem?_getD (l := tab eF ps ++ _), List.getElem?_append_right (by rw [tab_len]; exact Nat.le_refl _), tab_len, Nat.sub_self]
        show _ ∈ mvF (tab mvF ps) p ↔ eF (tab eF ps) p l ≠ none
        rw [mvF_own, eF_own, srt_mem, uniq_mem, List.mem_append]
        show _ ↔ Option.or (p.js.reverse.findSome? fun j => ((tab eF ps).getD j fun _ => none) l) (ownE p l) ≠ none
        have e1 : ((l : Int) ∈ ownL p) ↔ ownE p l ≠ none := by
          cases p with
          | raise i t b =>
            show (l : Int) ∈ [(i : Int)] ↔ (if l = i then some t else none) ≠ none
            rw [List.mem_singleton]
            by_cases e : l = i
            · simp [e]
            · rw [if_neg e]; simp; omega
          | _ => exact ⟨fun h => (by cases h), fun h => absurd rfl h⟩
        have e2 : ((l : Int) ∈ p.js.flatMap fun j => (tab mvF ps).getD j []) ↔ (p.js.reverse.findSome? fun j => ((tab eF ps).getD j fun _ => none) l) ≠ none := by
          rw [List.mem_flatMap, Ne, List.findSome?_eq_none_iff]
          constructor
          · rintro ⟨i, hi, hm⟩ h
            exact ((ih i l).mp hm) (h i (List.mem_reverse.mpr hi))
          · intro h
            rw [Classical.not_forall] at h
            obtain ⟨i, h⟩ := h
            rw [Classical.not_imp] at h
            exact ⟨i, List.mem_reverse.mp h.1, (ih i l).mpr h.2⟩
        rw [e1, e2]
        cases (p.js.reverse.findSome? fun j => ((tab eF ps).getD j fun _ => none) l) <;> simp
      · rw [List.getD_eq_getElem?_getD, List.getElem?_eq_none (by rw [List.length_append, tab_len]; simp; omega), List.getD_eq_getElem?_getD (l := tab eF ps ++ _), List.getElem?_eq_none (by rw [List.length_append, tab_len]; simp; omega)]
        constructor
        · intro h; cases h
        · intro h; exact absurd rfl h
theorem Ok.pts_ok {B : Bk} (o : Ok B) (k : Nat) (p : Pt) (e : B.pts[k]? = some p) : PtOk B.L.length k p := by
  unfold Bk.pts at e
  rw [List.getElem?_map] at e
  cases e2 : B.P[k]? with
  | none => rw [e2] at e; cases e
  | some x => rw [e2] at e; cases e; exact o.pt k x e2
theorem Ok.mv_ef {B : Bk} (o : Ok B) (j l : Nat) : ((l : Int) ∈ B.mv j) ↔ B.ef j l ≠ none := Z.k32.mv_ef B.pts o.pts_ok j l
/-- heights left -/
theorem ef_ht {nl : Nat} : ∀ ps : List Pt, (∀ k p, ps[k]? = some p → PtOk nl k p) → ∀ (j l : Nat) v, ((tab eF ps).getD j fun _ => none) l = some v → 0 ≤ v ∧ v ≤ 10 ^ 18 := by
  intro ps
  induction ps using snoc_ind with
  | h0 => intro _ j l v h; cases h
  | h1 ps p ih =>
    intro o j l v h
    have ih := ih fun k q e => o k q (by rw [List.getElem?_append_left (List.getElem?_eq_some_iff.mp e).1]; exact e)
    rw [tab_snoc] at h
    by_cases hj : j < ps.length
    · rw [List.getD_eq_getElem?_getD, List.getElem?_append_left (by rw [tab_len]; exact hj), ← List.getD_eq_getElem?_getD] at h
      exact ih j l v h
    · by_cases hj2 : j = ps.length
      · subst hj2
        rw [List.getD_eq_getElem?_getD, List.getElem?_append_right (by rw [tab_len]; exact Nat.le_refl _), tab_len, Nat.sub_self] at h
        have h : eF (tab eF ps) p l = some v := h
        rw [eF_own] at h
        have h : Option.or (p.js.reverse.findSome? fun j => ((tab eF ps).getD j fun _ => none) l) (ownE p l) = some v := h
        have op := o ps.length p (by simp)
        cases e : p.js.reverse.findSome? fun j => ((tab eF ps).getD j fun _ => none) l with
        | some w =>
          rw [e] at h
          cases h
          obtain ⟨i, _, e2⟩ := List.exists_of_findSome?_eq_some e
          exact ih i l v e2
        | none =>
          rw [e] at h
          have h : ownE p l = some v := h
          cases p with
          | raise i t b =>
            have h : (if l = i then some t else none) = some v := h
            split at h
            · cases h; exact ⟨op.2.1, op.2.2.1⟩
            · cases h
          | _ => cases h
      · rw [List.getD_eq_getElem?_getD, List.getElem?_eq_none (by rw [List.length_append, tab_len]; simp; omega)] at h
        cases h
theorem Ok.ef_ht {B : Bk} (o : Ok B) {j l : Nat} {v : Int} (h : B.ef j l = some v) : 0 ≤ v ∧ v ≤ 10 ^ 18 := Z.k32.ef_ht B.pts o.pts_ok j l v h
/-! the search for one limb's first jump -/
def rampJ (s g b m : Int) : Option (Int × Int) := if m < ((g - s) / b).natAbs then some (0, (g - s) / b) else if 0 < (g - s) % b ∧ m < ((g - s) / b + 1).natAbs then some ((b - 1) / ((g - s) % b), (g - s) / b + 1) else none
abbrev jmpU (r : Option (Int × Int)) : U := match r with
  | none => .non
  | some p => .tup [.int p.1, .int p.2]
theorem ramp_jump_u {C : Ctx} {s g b m : Int} (hs : 0 ≤ s ∧ s ≤ 10 ^ 18) (hg : 0 ≤ g ∧ g ≤ 10 ^ 18) (hb : 1 ≤ b ∧ b ≤ 10 ^ 18) : Fu (runFn C f_ramp_jump) [.int s, .int g, .int b, .int m] (jmpU (rampJ s g b m)) := by
  have dk : ∀ x : Int, 1 ≤ x → x ≤ 10 ^ 18 → divOk x = true := fun x h1 h2 => by
    unfold divOk
    have : x.natAbs.log2 < 9000 := by
      have h0 : x.natAbs ≠ 0 := by omega
      exact Nat.lt_of_lt_of_le ((Nat.log2_lt h0).mpr (Nat.lt_of_le_of_lt (show x.natAbs ≤ 10 ^ 18 by omega) (show 10 ^ 18 < 2 ^ 100 by decide))) (by decide)
    rw [decide_eq_true (show x ≠ 0 by omega), decide_eq_true this]; rfl
  have kb := dk b hb.1 hb.2
  have r0 := Int.emod_nonneg (g - s) (show b ≠ 0 by omega)
  have r1 := Int.emod_lt_of_pos (g - s) (show 0 < b by omega)
  obtain ⟨c, hc⟩ : ∃ c, c = (g - s) / b := ⟨_, rfl⟩
  obtain ⟨r, hr⟩ : ∃ r, r = (g - s) % b := ⟨_, rfl⟩
  have dv : B1 bDvm [.int (g - s), .int b] (.tup [.int c, .int r]) := by rw [hc, hr]; exact b_dvm (by omega) kb
  rw [← hr] at r0 r1
  unfold rampJ
  rw [← hc, ← hr]
  by_cases h1 : m < (c.natAbs : Int)
  · rw [if_pos h1]; refine fu_of rfl (by simp only [List.map_cons, List.map_nil, List.length_cons, List.length_nil, List.cons_append, List.nil_append, Nat.reduceAdd, Nat.reduceSub, List.replicate_succ, List.replicate_zero]; exact rfl) ?_; (repeat first | fail "p" | with_reducible exact dv | fail)
  · rw [if_neg h1]
    by_cases h2 : 0 < r
    · have kr := dk r (by omega) (by omega)
      by_cases h3 : m < ((c + 1).natAbs : Int)
      · rw [if_pos ⟨h2, h3⟩]; refine fu_of rfl (by simp only [List.map_cons, List.map_nil, List.length_cons, List.length_nil, List.cons_append, List.nil_append, Nat.reduceAdd, Nat.reduceSub, List.replicate_succ, List.replicate_zero]; exact rfl) ?_; (repeat first | fail "p" | with_reducible exact dv | fail)
      · rw [if_neg fun h => h3 h.2]; refine fu_of rfl (by simp only [List.map_cons, List.map_nil, List.length_cons, List.length_nil, List.cons_append, List.nil_append, Nat.reduceAdd, Nat.reduceSub, List.replicate_succ, List.replicate_zero]; exact rfl) ?_; (repeat first | fail "p" | with_reducible exact dv | fail)
    · rw [if_neg fun h => h2 h.1]; refine fu_of rfl (by simp only [List.map_cons, List.map_nil, List.length_cons, List.length_nil, List.cons_append, List.nil_append, Nat.reduceAdd, Nat.reduceSub, List.replicate_succ, List.replicate_zero]; exact rfl) ?_; (repeat first | fail "p" | with_reducible exact dv | fail)
/-! Search's methods -/
def rowJ (f : Nat → Int → Option (Int × Int)) (mv : Nat → Bool) (lf lg : Nat → Int) : List Nat → Int → Int → Option (Int × Int)
  | [], _, _ => none
  | j :: js, h, gone => match f j h with
    | some r => some (gone + r.1, r.2)
    | none => rowJ f mv lf lg js (if mv j = true then lf j else h) (gone + lg j)
def Bk.mb (B : Bk) (l j : Nat) : Bool := decide ((l : Int) ∈ B.mv j)
def Bk.lf (B : Bk) (l j : Nat) : Int := (B.ef j l).getD 0
def jmp (B : Bk) (l : Nat) (m : Int) : Nat → Nat → Int → Option (Int × Int)
  | 0, _, _ => none
  | n + 1, k, h => if B.mb l k = true then (match B.pt k with
      | .raise _ t b => rampJ h t b m
      | .again z j => match jmp B l m n j h with
        | some r => some r
        | none => if z = 1 then none else (jmp B l m n j (B.lf l j)).map fun r => (B.lg j + r.1, r.2)
      | .side js => match js.find? (B.mb l) with
        | some j => jmp B l m n j h
        | none => none
      | .row js => rowJ (jmp B l m n) (B.mb l) (B.lf l) B.lg js h 0
      | _ => none) else none
def jm (B : Bk) (l : Nat) (m : Int) (k : Nat) (h : Int) : Option (Int × Int) := jmp B l m (k + 1) k h
theorem rowJ_congr {f f' : Nat → Int → Option (Int × Int)} {mv : Nat → Bool} {lf lg : Nat → Int} : ∀ {js : List Nat} {h g : Int}, (∀ j ∈ js, ∀ h, f j h = f' j h) → rowJ f mv lf lg js h g = rowJ f' mv lf lg js h g
  | [], _, _, _ => rfl
  | j :: js, h, g, e => by
    unfold rowJ
    rw [e j (List.mem_cons_self ..) h]
    cases f' j h with
    | some r => rfl
    | none => exact rowJ_congr fun i hi => e i (List.mem_cons_of_mem _ hi)
section
variable {B : Bk} {l : Nat} {m : Int}
theorem jmp_fuel (o : Ok B) : ∀ k, k < B.P.length → ∀ n h, k < n → jmp B l m n k h = jm B l m k h := by
  intro k
  induction k using Nat.strongRecOn with
  | ind k ih =>
    intro hk n h hn
    obtain ⟨n, rfl⟩ : ∃ i, n = i + 1 := ⟨n - 1, by omega⟩
    have op := o.pt_ok hk
    have jl := op.js_lt
    have e : ∀ j, j < k → ∀ h, jmp B l m n j h = jmp B l m k j h := fun j hj h => by
      rw [ih j hj (by omega) n h (by omega), ih j hj (by omega) k h hj]
    unfold jm jmp
    split
    · cases hp : B.pt k with
      | again z j =>
        rw [hp] at jl
        have hj := jl j (by simp [Pt.js])
        simp only [e j hj]
      | side js =>
        rw [hp] at jl
        simp only
        cases hf : js.find? (B.mb l) with
        | none => rfl
        | some j => exact e j (jl j (List.mem_of_find?_eq_some hf)) h
      | row js =>
        rw [hp] at jl
        exact rowJ_congr fun j hj h => e j (jl j hj) h
      | _ => rfl
    · rfl
theorem jm_eq (o : Ok B) {k : Nat} (hk : k < B.P.length) (h : Int) : jm B l m k h = if B.mb l k = true then (match B.pt k with
      | .raise _ t b => rampJ h t b m
      | .again z j => match jm B l m j h with
        | some r => some r
        | none => if z = 1 then none else (jm B l m j (B.lf l j)).map fun r => (B.lg j + r.1, r.2)
      | .side js => match js.find? (B.mb l) with
        | some j => jm B l m j h
        | none => none
      | .row js => rowJ (jm B l m) (B.mb l) (B.lf l) B.lg js h 0
      | _ => none) else none := by
  have op := o.pt_ok hk
  have jl := op.js_lt
  conv => lhs; unfold jm jmp
  split
  · cases hp : B.pt k with
    | again z j =>
      rw [hp] at jl
      have hj := jl j (by simp [Pt.js])
      simp only [jmp_fuel o j (by omega) k _ hj]
    | side js =>
      rw [hp] at jl
      simp only
      cases hf : js.find? (B.mb l) with
      | none => rfl
      | some j => have hj := jl j (List.mem_of_find?_eq_some hf); exact jmp_fuel o j (by omega) k h hj
    | row js =>
      rw [hp] at jl
      exact rowJ_congr fun j hj h => jmp_fuel o j (by have := jl j hj; omega) k h (jl j hj)
    | _ => rfl
  · rfl
/-! the object -/
abbrev optU (x : Option Int) : U := match x with
  | none => .non
  | some h => .int h
abbrev seF (B : Bk) (l : Nat) (m : Int) (kn : List (List Key × U)) : List (Str × U) := [("forms", .lst (B.P.map fun x => x.2.u B.ln B.pn)), ("numbers", .dic (numU (B.P.map (·.1)))), ("name", .str (B.ln l)), ("most", .int m), ("long", intsU B.lens), ("moves", .lst (B.mvs.map fun M => .bl (decide ((l : Int) ∈ M)))), ("leaves", .lst (B.efs.map fun g => optU (g l))), ("known", .dct kn)]
abbrev seU (B : Bk) (l : Nat) (m : Int) (kn : List (List Key × U)) : U := .obj 7 (seF B l m kn)
structure Kn (B : Bk) (l : Nat) (m : Int) (H : List Int) (kn : List (List Key × U)) : Prop where
  nd : (kn.map (·.1)).Nodup
  keys : ∀ k ∈ kn.map (·.1), ∃ (p : Nat) (h : Int), p < B.P.length ∧ h ∈ H ∧ k = [.inl (p : Int), .inl h]
  val : ∀ (p : Nat) (h : Int) (u : U), valU kn [.inl (p : Int), .inl h] = some u → u = jmpU (jm B l m p h)
theorem Kn.nil {H : List Int} : Kn B l m H [] := ⟨List.nodup_nil, fun k h => (by cases h), fun p h u e => (by cases e)⟩
theorem Kn.len {H : List Int} {kn : List (List Key × U)} (k : Kn B l m H kn) (p1 : B.P.length ≤ 70) (h1 : H.length ≤ 100) : kn.length < sizeLine := by
  have := sub_len (ys := (List.range B.P.length).flatMap fun p : Nat => H.map fun h => ([.inl (p : Int), .inl h] : List Key)) k.nd fun x hx => by
    obtain ⟨p, h, hp, hh, e⟩ := k.keys x hx
    exact List.mem_flatMap.mpr ⟨p, List.mem_range.mpr hp, List.mem_map.mpr ⟨h, hh, e.symm⟩⟩
  have l2 : ((List.range B.P.length).flatMap fun p : Nat => H.map fun h => ([.inl (p : Int), .inl h] : List Key)).length = B.P.length * H.length := by
    rw [List.length_flatMap]
    simp [List.map_const']
  rw [l2, List.length_map] at this
  have := Nat.mul_le_mul p1 h1
  exact sz_lt (by omega)
theorem Kn.put {H : List Int} {kn : List (List Key × U)} (k : Kn B l m H kn) {p : Nat} {h : Int} (hp : p < B.P.length) (hh : h ∈ H) : Kn B l m H (putKU kn [.inl (p : Int), .inl h] (jmpU (jm B l m p h))) := by
  refine ⟨?_, fun x hx => ?_, fun p' h' u e => ?_⟩
  · rw [keys_put]
    split
    · exact k.nd
    · rename_i a
      rw [List.nodup_append]
      refine ⟨k.nd, by simp, fun x hx y hy e => ?_⟩
      rw [List.mem_singleton.mp hy] at e
      obtain ⟨q, hq, e2⟩ := List.mem_map.mp hx
      exact a (List.any_eq_true.mpr ⟨q, hq, decide_eq_true (e2.trans e)⟩)
  · rw [keys_put] at hx
    split at hx
    · exact k.keys x hx
    · rcases List.mem_append.mp hx with w | w
      · exact k.keys x w
      · exact ⟨p, h, hp, hh, List.mem_singleton.mp w⟩
  · by_cases eq : ([.inl (p' : Int), .inl h'] : List Key) = [.inl (p : Int), .inl h]
    · have e1 : p' = p := by injection eq with a b; injection a; omega
      have e2 : h' = h := by injection eq with a b; injection b with c d; injection c
      subst e1 e2
      have : valU (putKU kn [.inl (p' : Int), .inl h'] (jmpU (jm B l m p' h'))) [.inl (p' : Int), .inl h'] = some (jmpU (jm B l m p' h')) := by
        unfold putKU
        split
        · rename_i a; exact find_map_eq kn a
        · rename_i a; exact find_snoc (Bool.eq_false_iff.mpr a)
      rw [this] at e; cases e; rfl
    · refine k.val p' h' u ?_
      rw [← e]
      unfold putKU
      split
      · exact (find_map_ne eq kn).symm
      · unfold valU
        rw [List.find?_append]
        cases kn.find? (fun kv => decide (kv.1 = [.inl (p' : Int), .inl h'])) with
        | some x => rfl
        | none => simp [Ne.symm eq]
/-- heights at which a part may begin -/
structure Hs (B : Bk) (l : Nat) (H : List Int) : Prop where
  bd : ∀ h ∈ H, 0 ≤ h ∧ h ≤ 10 ^ 18
  lf : ∀ j, j < B.P.length → B.mb l j = true → B.lf l j ∈ H
  len : H.length ≤ 100
def Found (B : Bk) (l : Nat) (m : Int) (H : List Int) (C : Ctx) (k : Nat) : Prop := ∀ h ∈ H, ∀ kn, Kn B l m H kn → ∃ kn', Kn B l m H kn' ∧ FnO (C.meth 7 20) [.o (seU B l m kn), .s (.int k), .s (.int h)] (jmpU (jm B l m k h)) [.o (seU B l m kn'), .s (.int k), .s (.int h)]
/-- what stands in the object's lists -/
structure SeIx (B : Bk) (l : Nat) : Prop where
  mv : ∀ k, k < B.P.length → O2 opIx (.lst (B.mvs.map fun M => .bl (decide ((l : Int) ∈ M)))) (.int (k : Int)) (.bl (B.mb l k))
  lv : ∀ k, k < B.P.length → B.mb l k = true → O2 opIx (.lst (B.efs.map fun g => optU (g l))) (.int (k : Int)) (.int (B.lf l k))
  lg : ∀ k, k < B.P.length → O2 opIx (intsU B.lens) (.int (k : Int)) (.int (B.lg k))
  fm : ∀ k, k < B.P.length → O2 opIx (.lst (B.P.map fun x => x.2.u B.ln B.pn)) (.int (k : Int)) ((B.pt k).u B.ln B.pn)
  nm : ∀ k, k < B.P.length → O2 opIx (.dic (numU (B.P.map (·.1)))) (.str (B.pn k)) (.int (k : Int))
theorem Ok.seIx (o : Ok B) : SeIx B l := ⟨fun k hk => o_ixl (at_nat (by rw [List.getElem?_map, Bk.mv_at hk]; rfl)), fun k hk hm => o_ixl (at_nat (by
    rw [List.getElem?_map, get_getD (fun _ => none) (by rw [Bk.efs_len]; exact hk)]
    show some (optU (B.ef k l)) = some (.int (B.lf l k))
    have := (o.mv_ef k l).mp (of_decide_eq_true hm)
    unfold Bk.lf
    cases e : B.ef k l with
    | none => exact absurd e this
    | some v => rfl)), fun k hk => o_ixl (at_nat (by rw [List.getElem?_map, Bk.lg_at hk]; rfl)), fun k hk => o_ixl (at_nat (by rw [List.getElem?_map, Bk.P_at hk]; rfl)), fun k hk => o_ixd rfl (o.num hk)⟩
end
/-! what Search's methods find -/
section
variable {B : Bk} {l : Nat} {m : Int} {H : List Int} {C : Ctx}
theorem found_u (o : Ok B) {k : Nat} (hk : k < B.P.length) (hs : Hs B l H) (p1 : B.P.length ≤ 70)
    (lk : B.mb l k = true → ∀ h ∈ H, ∀ kn, Kn B l m H kn → ∃ kn', Kn B l m H kn' ∧ FnO (C.meth 7 21) [.o (seU B l m kn), .s ((B.pt k).u B.ln B.pn), .s (.int h)] (jmpU (jm B l m k h)) [.o (seU B l m kn'), .s ((B.pt k).u B.ln B.pn), .s (.int h)]) :
    ∀ h ∈ H, ∀ kn, Kn B l m H kn → ∃ kn', Kn B l m H kn' ∧ FnO (runFn C f_m_Search_found) [.o (seU B l m kn), .s (.int k), .s (.int h)] (jmpU (jm B l m k h)) [.o (seU B l m kn'), .s (.int k), .s (.int h)] := fun h hh kn ik => by
  have ix := o.seIx (l := l)
  have imv := ix.mv k hk
  have ifm := ix.fm k hk
  cases em : B.mb l k with
  | false =>
    rw [em] at imv
    refine ⟨kn, ik, ?_⟩
    rw [jm_eq o hk, em]
    simp only [Bool.false_eq_true, if_false]
    refine Z.fo_of (io := [0]) rfl (by simp only [List.map_cons, List.map_nil, List.length_cons, List.length_nil, List.cons_append, List.nil_append, Nat.reduceAdd, Nat.reduceSub, List.replicate_succ, List.replicate_zero]; exact rfl) ?_
    (repeat first | fail "p" | with_reducible exact imv | fail)
    exact outs0 (us := [.int k, .int h]) rfl
  | true =>
    rw [em] at imv
    cases e : valU kn [.inl (k : Int), .inl h] with
    | some u =>
      have e2 := ik.val k h u e
      subst e2
      refine ⟨kn, ik, ?_⟩
      have nin : O2 opNin (.tup [.int (k : Int), .int h]) (.dct kn) (.bl (!true)) := by
        have := o_nidt (us := [.int (k : Int), .int h]) (kvs := kn) (k := [.inl (k : Int), .inl h]) rfl
        rw [e] at this; exact this
      have ixk : O2 opIx (.dct kn) (.tup [.int (k : Int), .int h]) (jmpU (jm B l m k h)) := o_ixdt rfl e
      refine Z.fo_of (io := [0]) rfl (by simp only [List.map_cons, List.map_nil, List.length_cons, List.length_nil, List.cons_append, List.nil_append, Nat.reduceAdd, Nat.reduceSub, List.replicate_succ, List.replicate_zero]; exact rfl) ?_
      (repeat first | fail "p" | with_reducible exact imv | with_reducible exact nin | with_reducible exact ixk | fail)
      exact outs0 (us := [.int k, .int h]) rfl
    | none =>
      obtain ⟨kn1, ik1, F⟩ := lk em h hh kn ik
      have ik2 := ik1.put hk hh
      refine ⟨_, ik2, ?_⟩
      have nin : O2 opNin (.tup [.int (k : Int), .int h]) (.dct kn) (.bl (!false)) := by
        have := o_nidt (us := [.int (k : Int), .int h]) (kvs := kn) (k := [.inl (k : Int), .inl h]) rfl
        rw [e] at this; exact this
      have ev : valU (putKU kn1 [.inl (k : Int), .inl h] (jmpU (jm B l m k h))) [.inl (k : Int), .inl h] = some (jmpU (jm B l m k h)) := by
        unfold putKU
        split
        · rename_i a; exact find_map_eq kn1 a
        · rename_i a; exact find_snoc (Bool.eq_false_iff.mpr a)
      have ixk : O2 opIx (.dct (putKU kn1 [.inl (k : Int), .inl h] (jmpU (jm B l m k h)))) (.tup [.int (k : Int), .int h]) (jmpU (jm B l m k h)) := o_ixdt rfl ev
      have sz := ik1.len p1 hs.len
      have ST : Xs C [0] [.o (seU B l m kn), .s (.int k), .s (.int h)] (sSt stD (eFld [7] (eV 0) "known") (eTup (aC (eV 1) (aC (eV 2) aN))) (eMeth [7] (eV 0) 21 "looked" (aC (eOp opIx (eFld [7, 1] (eV 0) "forms") (eV 1)) (aC (eV 2) aN)))) (.nx [.o (seU B l m (putKU kn1 [.inl (k : Int), .inl h] (jmpU (jm B l m k h)))), .s (.int k), .s (.int h)]) := by
        refine s_fsttz (fs := seF B l m kn1) (pe0 := [.o (seU B l m kn1), .s (.int k), .s (.int h)]) (us := [.int k, .int h]) (u := jmpU (jm B l m k h)) (fs2 := seF B l m (putKU kn1 [.inl (k : Int), .inl h] (jmpU (jm B l m k h)))) ?_ rfl (by decide) rfl (by decide) ?_ rfl sz ?_ ?_
        · refine z_methO (us := [(B.pt k).u B.ln B.pn, .int h]) (y := seU B l m kn1) rfl (by decide) rfl ?_ F ?_
          · (repeat first | fail "p" | with_reducible exact ifm | fail)
          · (repeat first | fail "p" | fail)
        · (repeat first | fail "p" | fail)
        · (repeat first | fail "p" | fail)
        · (repeat first | fail "p" | fail)
      refine Z.fo_of (io := [0]) rfl (by simp only [List.map_cons, List.map_nil, List.length_cons, List.length_nil, List.cons_append, List.nil_append, Nat.reduceAdd, Nat.reduceSub, List.replicate_succ, List.replicate_zero]; exact rfl) ?_
      (repeat first | fail "p" | with_reducible exact imv | with_reducible exact nin | with_reducible exact ST | with_reducible exact ixk | fail)
      exact outs0 (us := [.int k, .int h]) rfl
theorem in_turns_u (o : Ok B) {j : Nat} (hj : j < B.P.length) (hs : Hs B l H) (em : B.mb l j = true) (fd : Found B l m H C j) {z h : Int} (hh : h ∈ H) {kn : List (List Key × U)} (ik : Kn B l m H kn) :
    ∃ kn', Kn B l m H kn' ∧ FnO (runFn C f_m_Search_in_turns) [.o (seU B l m kn), .s (.int j), .s (.int z), .s (.int h)] (jmpU (match jm B l m j h with
        | some r => some r
        | none => if z = 1 then none else (jm B l m j (B.lf l j)).map fun r => (B.lg j + r.1, r.2))) [.o (seU B l m kn'), .s (.int j), .s (.int z), .s (.int h)] := by
  have ix := o.seIx (l := l)
  have ilv := ix.lv j hj em
  have ilg := ix.lg j hj
  obtain ⟨kn1, ik1, F1⟩ := fd h hh kn ik
  obtain ⟨kn2, ik2, F2⟩ := fd _ (hs.lf j hj em) kn1 ik1
  cases e1 : jm B l m j h with
  | some r =>
    rw [e1] at F1
    refine ⟨kn1, ik1, ?_⟩
    refine Z.fo_of (io := [0]) rfl (by simp only [List.map_cons, List.map_nil, List.length_cons, List.length_nil, List.cons_append, List.nil_append, Nat.reduceAdd, Nat.reduceSub, List.replicate_succ, List.replicate_zero]; exact rfl) ?_
    (repeat first | fail "p" | exact F1 | fail)
    exact outs0 (us := [.int j, .int z, .int h]) rfl
  | none =>
    rw [e1] at F1
    by_cases hz : z = 1
    · refine ⟨kn1, ik1, ?_⟩
      simp only [if_pos hz]
      refine Z.fo_of (io := [0]) rfl (by simp only [List.map_cons, List.map_nil, List.length_cons, List.length_nil, List.cons_append, List.nil_append, Nat.reduceAdd, Nat.reduceSub, List.replicate_succ, List.replicate_zero]; exact rfl) ?_
      (repeat first | fail "p" | exact F1 | fail)
      exact outs0 (us := [.int j, .int z, .int h]) rfl
    · refine ⟨kn2, ik2, ?_⟩
      simp only [if_neg hz]
      cases e2 : jm B l m j (B.lf l j) with
      | none =>
        rw [e2] at F2
        refine Z.fo_of (io := [0]) rfl (by simp only [List.map_cons, List.map_nil, List.length_cons, List.length_nil, List.cons_append, List.nil_append, Nat.reduceAdd, Nat.reduceSub, List.replicate_succ, List.replicate_zero]; exact rfl) ?_
        (repeat first | fail "p" | exact F1 | exact F2 | with_reducible exact ilv | fail)
        exact outs0 (us := [.int j, .int z, .int h]) rfl
      | some r =>
        rw [e2] at F2
        refine Z.fo_of (io := [0]) rfl (by simp only [List.map_cons, List.map_nil, List.length_cons, List.length_nil, List.cons_append, List.nil_append, Nat.reduceAdd, Nat.reduceSub, List.replicate_succ, List.replicate_zero]; exact rfl) ?_
        (repeat first | fail "p" | exact F1 | exact F2 | with_reducible exact ilv | with_reducible exact ilg | fail)
        exact outs0 (us := [.int j, .int z, .int h]) rfl
theorem in_row_u (o : Ok B) {js : List Nat} (hj : ∀ j ∈ js, j < B.P.length) (j8 : js.length ≤ 8) (fu : 1000 < C.fuel) (hs : Hs B l H) (fd : ∀ j ∈ js, Found B l m H C j) {h : Int} (hh : h ∈ H) {kn : List (List Key × U)} (ik : Kn B l m H kn) :
    ∃ kn', Kn B l m H kn' ∧ FnO (runFn C f_m_Search_in_row) [.o (seU B l m kn), .s (.tup (js.map fun j => .str (B.pn j))), .s (.int h)] (jmpU (rowJ (jm B l m) (B.mb l) (B.lf l) B.lg js h 0)) [.o (seU B l m kn'), .s (.tup (js.map fun j => .str (B.pn j))), .s (.int h)] := by
  have ix := o.seIx (l := l)
  obtain ⟨Rr, hR⟩ : ∃ Rr, Rr = rowJ (jm B l m) (B.mb l) (B.lf l) B.lg js h 0 := ⟨_, rfl⟩
  obtain ⟨f, hf, X⟩ := s_fo (C := C) (io := [0]) (g := gN 4) (mi := iA (eV 1)) (b := b_m_Search_in_row_1) (us := js.map fun j => .str (B.pn j)) (pe := [.o (seU B l m kn), .s (.tup (js.map fun j => .str (B.pn j))), .s (.int h), .s (.int 0), .n, .n, .n]) (by (repeat first | fail "p" | fail)) (by rw [List.length_map]; omega)
    (fun i pe => ∃ kn1 h1 g1, Kn B l m H kn1 ∧ h1 ∈ H ∧ Fgt pe [.o (seU B l m kn1), .s (.tup (js.map fun j => .str (B.pn j))), .s (.int h1), .s (.int g1), .n, .n, .n] ∧ rowJ (jm B l m) (B.mb l) (B.lf l) B.lg (js.drop i) h1 g1 = Rr)
    (fun f => ∃ kn1 pe', Kn B l m H kn1 ∧ pe'[0]? = some (.o (seU B l m kn1)) ∧ (f = .rt (jmpU Rr) pe' ∨ (Rr = none ∧ f = .nx pe')))
    ⟨kn, h, 0, ik, hh, Fgt.refl _, by rw [List.drop_zero]; exact hR.symm⟩
    (fun i u pe q ⟨kn1, h1, g1, ik1, hh1, fg, e⟩ => by
      rw [List.getElem?_map] at q
      cases ej : js[i]? with
      | none => rw [ej] at q; cases q
      | some j =>
        rw [ej] at q; cases q
        have jm_ := List.mem_of_getElem? ej
        have hjl := hj j jm_
        obtain ⟨kn2, ik2, F⟩ := fd j jm_ h1 hh1 kn1 ik1
        have il := (List.getElem?_eq_some_iff.mp ej).1
        have dr : js.drop i = j :: js.drop (i + 1) := by rw [List.drop_eq_getElem_cons il]; congr 1; exact (Option.some.inj ((List.getElem?_eq_getElem il).symm.trans ej))
        have inm := ix.nm j hjl
        have imv := ix.mv j hjl
        have ilg := ix.lg j hjl
        rw [dr] at e
        unfold rowJ at e
        have tp0 : Tp [0] (gN 4) [.o (seU B l m kn1), .s (.tup (js.map fun j => .str (B.pn j))), .s (.int h1), .s (.int g1), .n, .n, .n] (.str (B.pn j)) [.o (seU B l m kn1), .s (.tup (js.map fun j => .str (B.pn j))), .s (.int h1), .s (.int g1), .s (.str (B.pn j)), .n, .n] := by (repeat first | fail "p" | fail)
        refine ⟨[.o (seU B l m kn1), .s (.tup (js.map fun j => .str (B.pn j))), .s (.int h1), .s (.int g1), .s (.str (B.pn j)), .n, .n], fun B' Sg' e' h' d' st r => ?_, ?_⟩
        · obtain ⟨e1, w1, w2, w3, w4⟩ := tp0 (fg.sta st) (r.tr (Tr.less fun a => fg.ow))
          exact ⟨e1, w1, w2, fun a w => fg.ow (w3 a w), w4⟩
        cases ej2 : jm B l m j h1 with
        | some r =>
          rw [ej2] at F e
          refine ⟨.rt (jmpU Rr) [.o (seU B l m kn2), .s (.tup (js.map fun j => .str (B.pn j))), .s (.int h1), .s (.int g1), .s (.str (B.pn j)), .s (.int j), .s (jmpU (some r))], ?_, kn2, _, ik2, rfl, .inl rfl⟩
          rw [← e]
          unfold b_m_Search_in_row_1
          (repeat first | fail "p" | exact F | with_reducible exact inm | fail)
        | none =>
          rw [ej2] at F e
          simp only at e
          cases em : B.mb l j with
          | true =>
            rw [em] at imv e
            have ilv := ix.lv j hjl em
            refine ⟨.nx [.o (seU B l m kn2), .s (.tup (js.map fun j => .str (B.pn j))), .s (.int (B.lf l j)), .s (.int (g1 + B.lg j)), .s (.str (B.pn j)), .s (.int j), .s .non], ?_, kn2, B.lf l j, g1 + B.lg j, ik2, hs.lf j hjl em, by (repeat first | fail "p" | fail), by simpa using e⟩
            unfold b_m_Search_in_row_1
            (repeat first | fail "p" | exact F | with_reducible exact inm | with_reducible exact imv | with_reducible exact ilg | with_reducible exact ilv | fail)
          | false =>
            rw [em] at imv e
            refine ⟨.nx [.o (seU B l m kn2), .s (.tup (js.map fun j => .str (B.pn j))), .s (.int h1), .s (.int (g1 + B.lg j)), .s (.str (B.pn j)), .s (.int j), .s .non], ?_, kn2, h1, g1 + B.lg j, ik2, hh1, by (repeat first | fail "p" | fail), by simpa using e⟩
            unfold b_m_Search_in_row_1
            (repeat first | fail "p" | exact F | with_reducible exact inm | with_reducible exact imv | with_reducible exact ilg | fail))
    (fun pe ⟨kn1, h1, g1, ik1, hh1, fg, e⟩ => by
      rw [List.length_map, List.drop_length] at e
      refine ⟨kn1, pe, ik1, ?_, .inr ⟨e.symm, rfl⟩⟩
      exact fg.at.2.1 0 _ rfl)
  obtain ⟨kn1, pe', ik1, q0, hf⟩ := hf
  refine ⟨kn1, ik1, ?_⟩
  rw [← hR]
  rcases hf with rfl | ⟨e, rfl⟩
  · refine Z.fo_of (io := [0]) rfl (by simp only [List.map_cons, List.map_nil, List.length_cons, List.length_nil, List.cons_append, List.nil_append, Nat.reduceAdd, Nat.reduceSub, List.replicate_succ, List.replicate_zero]; exact rfl) ?_
    (repeat first | fail "p" | with_reducible exact X | fail)
    exact outs0 (us := [.tup (js.map fun j => .str (B.pn j)), .int h]) q0
  · rw [e]
    refine Z.fo_of (io := [0]) rfl (by simp only [List.map_cons, List.map_nil, List.length_cons, List.length_nil, List.cons_append, List.nil_append, Nat.reduceAdd, Nat.reduceSub, List.replicate_succ, List.replicate_zero]; exact rfl) ?_
    (repeat first | fail "p" | with_reducible exact X | fail)
    exact outs0 (us := [.tup (js.map fun j => .str (B.pn j)), .int h]) q0
end
/-! looked; all parts found -/
section
variable {B : Bk} {l : Nat} {m : Int} {H : List Int} {C : Ctx}
theorem looked_u (o : Ok B) {k : Nat} (hk : k < B.P.length) (hs : Hs B l H) (fu : 1000 < C.fuel) (em : B.mb l k = true)
    (c95 : ∀ s g b m : Int, (0 ≤ s ∧ s ≤ 10 ^ 18) → (0 ≤ g ∧ g ≤ 10 ^ 18) → (1 ≤ b ∧ b ≤ 10 ^ 18) → Fu (C.call 95) [.int s, .int g, .int b, .int m] (jmpU (rampJ s g b m)))
    (fd : ∀ j < k, Found B l m H C j)
    (itn : ∀ j < k, B.mb l j = true → ∀ z h, h ∈ H → ∀ kn, Kn B l m H kn → ∃ kn', Kn B l m H kn' ∧ FnO (C.meth 7 22) [.o (seU B l m kn), .s (.int j), .s (.int z), .s (.int h)] (jmpU (match jm B l m j h with
        | some r => some r
        | none => if z = 1 then none else (jm B l m j (B.lf l j)).map fun r => (B.lg j + r.1, r.2))) [.o (seU B l m kn'), .s (.int j), .s (.int z), .s (.int h)])
    (irw : ∀ js : List Nat, (∀ j ∈ js, j < k) → js.length ≤ 8 → ∀ h ∈ H, ∀ kn, Kn B l m H kn → ∃ kn', Kn B l m H kn' ∧ FnO (C.meth 7 23) [.o (seU B l m kn), .s (.tup (js.map fun j => .str (B.pn j))), .s (.int h)] (jmpU (rowJ (jm B l m) (B.mb l) (B.lf l) B.lg js h 0)) [.o (seU B l m kn'), .s (.tup (js.map fun j => .str (B.pn j))), .s (.int h)]) :
    ∀ h ∈ H, ∀ kn, Kn B l m H kn → ∃ kn', Kn B l m H kn' ∧ FnO (runFn C f_m_Search_looked) [.o (seU B l m kn), .s ((B.pt k).u B.ln B.pn), .s (.int h)] (jmpU (jm B l m k h)) [.o (seU B l m kn'), .s ((B.pt k).u B.ln B.pn), .s (.int h)] := fun h hh kn ik => by
  have ix := o.seIx (l := l)
  have op := o.pt_ok hk
  have jl := op.js_lt
  have mve := (o.mv_ef k l).mp (of_decide_eq_true em)
  have efe := o.ef_eq hk
  rw [jm_eq o hk, if_pos em]
  cases hp : B.pt k with
  | raise l' t b =>
    rw [hp] at op
    have c := c95 h t b m (hs.bd h hh) ⟨op.2.1, op.2.2.1⟩ ⟨op.2.2.2.1, op.2.2.2.2⟩
    refine ⟨kn, ik, ?_⟩
    dsimp only [Pt.u, Pt.tag, Pt.its]
    refine Z.fo_of (io := [0]) rfl (by simp only [List.map_cons, List.map_nil, List.length_cons, List.length_nil, List.cons_append, List.nil_append, Nat.reduceAdd, Nat.reduceSub, List.replicate_succ, List.replicate_zero]; exact rfl) ?_
    (repeat first | fail "p" | with_reducible exact c | fail)
    exact outs0 (us := [.tup [.str "raise", .str (B.ln l'), .int t, .int b], .int h]) rfl
  | hold b => rw [efe, hp] at mve; exact absurd rfl mve
  | ring w b => rw [efe, hp] at mve; exact absurd rfl mve
  | row js =>
    rw [hp] at op jl
    obtain ⟨kn1, ik1, F⟩ := irw js jl op.2.1 h hh kn ik
    refine ⟨kn1, ik1, ?_⟩
    dsimp only [Pt.u, Pt.tag, Pt.its]
    refine Z.fo_of (io := [0]) rfl (by simp only [List.map_cons, List.map_nil, List.length_cons, List.length_nil, List.cons_append, List.nil_append, Nat.reduceAdd, Nat.reduceSub, List.replicate_succ, List.replicate_zero]; exact rfl) ?_
    (repeat first | fail "p" | exact F | fail)
    exact outs0 (us := [_, .int h]) rfl
  | again z j =>
    rw [hp] at op jl
    have hj : j < k := op.2.2
    have mj : B.mb l j = true := by
      rw [efe, hp] at mve
      refine decide_eq_true ((o.mv_ef j l).mpr fun e => mve ?_)
      have e : (B.efs.getD j fun _ => none) l = none := e
      show (([j] : List Nat).reverse.findSome? fun j => (B.efs.getD j fun _ => none) l) = none
      simp only [List.reverse_singleton, List.findSome?_cons, e, List.findSome?_nil]
    obtain ⟨kn1, ik1, F⟩ := itn j hj mj z h hh kn ik
    have inm := ix.nm j (by omega)
    refine ⟨kn1, ik1, ?_⟩
    dsimp only [Pt.u, Pt.tag, Pt.its]
    refine Z.fo_of (io := [0]) rfl (by simp only [List.map_cons, List.map_nil, List.length_cons, List.length_nil, List.cons_append, List.nil_append, Nat.reduceAdd, Nat.reduceSub, List.replicate_succ, List.replicate_zero]; exact rfl) ?_
    (repeat first | fail "p" | exact F | with_reducible exact inm | fail)
    exact outs0 (us := [_, .int h]) rfl
  | side js =>
    rw [hp] at op jl
    have ex : ∃ j ∈ js, B.mb l j = true := by
      rw [efe, hp] at mve
      cases e : js.reverse.findSome? fun j => (B.efs.getD j fun _ => none) l with
      | none => exact absurd e mve
      | some v =>
        obtain ⟨j, hj, e2⟩ := List.exists_of_findSome?_eq_some e
        exact ⟨j, List.mem_reverse.mp hj, decide_eq_true ((o.mv_ef j l).mpr (show (B.efs.getD j fun _ => none) l ≠ none by rw [e2]; simp))⟩
    have hn : js.findIdx (B.mb l) < js.length := List.findIdx_lt_length_of_exists (by obtain ⟨j, hj, e⟩ := ex; exact ⟨j, hj, e⟩)
    obtain ⟨n, hn'⟩ : ∃ n, n = js.findIdx (B.mb l) := ⟨_, rfl⟩
    rw [← hn'] at hn
    obtain ⟨j, hj⟩ : ∃ j, j = js[n] := ⟨_, rfl⟩
    have jat : js[n]? = some j := by rw [hj]; exact List.getElem?_eq_getElem hn
    have mj : B.mb l j = true := by
      rw [hj]
      have := List.findIdx_getElem (p := B.mb l) (xs := js) (w := by rw [← hn']; exact hn)
      simpa [← hn'] using this
    have ff : js.find? (B.mb l) = some j := by
      rw [List.find?_eq_some_iff_getElem]
      refine ⟨mj, n, hn, hj.symm, fun i hi => ?_⟩
      have := List.not_of_lt_findIdx (p := B.mb l) (xs := js) (i := i) (by rw [← hn']; exact hi)
      simpa using this
    have hjk := jl j (List.mem_of_getElem? jat)
    obtain ⟨kn1, ik1, F⟩ := fd j hjk h hh kn ik
    have j4 : js.length ≤ 8 := by have := op.2.1; omega
    refine ⟨kn1, ik1, ?_⟩
    simp only [ff]
    dsimp only [Pt.u, Pt.tag, Pt.its]
    have LP : ∃ pe', Xs C [0] [.o (seU B l m kn), .s (.tup [.str "side", .tup (js.map fun j => .str (B.pn j))]), .s (.int h), .n] (sFo (gN 3) (iA (eOp opIx (eV 1) (eC (.int 1)))) b_m_Search_looked_1) (.rt (jmpU (jm B l m j h)) (.o (seU B l m kn1) :: pe')) := by
      refine ⟨[.s (.tup [.str "side", .tup (js.map fun j => .str (B.pn j))]), .s (.int h), .s (.str (B.pn j))], ?_⟩
      refine s_forx (xs := js) (f := fun j => .str (B.pn j)) (x0 := j) (S := fun _ => [.o (seU B l m kn), .s (.tup [.str "side", .tup (js.map fun j => .str (B.pn j))]), .s (.int h), .n]) n jat ?_ (by omega) ?_ ?_ ?_
      · (repeat first | fail "p" | fail)
      · (repeat first | fail "p" | fail)
      · intro i i' hi qi
        have hil := (List.getElem?_eq_some_iff.mp qi).1
        have mi : B.mb l i' = false := by
          have := List.not_of_lt_findIdx (p := B.mb l) (xs := js) (i := i) (by rw [← hn']; exact hi)
          have e : js[i] = i' := Option.some.inj ((List.getElem?_eq_getElem hil).symm.trans qi)
          rw [e] at this; simpa using this
        have hik := jl i' (List.mem_of_getElem? qi)
        have inm := ix.nm i' (by omega)
        have imv := ix.mv i' (by omega)
        rw [mi] at imv
        refine ⟨_, by (repeat first | fail "p" | fail), ?_⟩
        apply bod_nx
        · unfold b_m_Search_looked_1; (repeat first | fail "p" | with_reducible exact inm | with_reducible exact imv | fail)
        · (repeat first | fail "p" | fail)
      · have inm := ix.nm j (by omega)
        have imv := ix.mv j (by omega)
        rw [mj] at imv
        refine ⟨_, by (repeat first | fail "p" | fail), .inr ⟨?_, .inl ⟨_, _, rfl⟩⟩⟩
        unfold b_m_Search_looked_1; (repeat first | fail "p" | with_reducible exact inm | with_reducible exact imv | exact F | fail)
    obtain ⟨pe', LP⟩ := LP
    refine Z.fo_of (io := [0]) rfl (by simp only [List.map_cons, List.map_nil, List.length_cons, List.length_nil, List.cons_append, List.nil_append, Nat.reduceAdd, Nat.reduceSub, List.replicate_succ, List.replicate_zero]; exact rfl) ?_
    (repeat first | fail "p" | with_reducible exact LP | fail)
    exact outs0 (us := [_, .int h]) rfl
end
theorem all_found {B : Bk} {l : Nat} {m : Int} {H : List Int} (o : Ok B) (hs : Hs B l H) (fT : ∀ n, 1000 < (ctx T n).fuel) : ∀ k, k < B.P.length → ∀ n, 3 * k + 4 ≤ n → Found B l m H (ctx T n) k := by
  intro k
  induction k using Nat.strongRecOn with
  | ind k ih =>
    intro hk n hn
    obtain ⟨n, rfl⟩ : ∃ i, n = i + 3 := ⟨n - 3, by omega⟩
    have fd : ∀ n', n ≤ n' → ∀ j < k, Found B l m H (ctx T n') j := fun n' hn' j hj => ih j hj (by omega) n' (by omega)
    have p1 := o.p1.2
    refine found_u (C := ctx T (n + 2)) o hk hs p1 fun em => ?_
    refine looked_u (C := ctx T (n + 1)) o hk hs (fT _) em (fun s g b m h1 h2 h3 => ?_) (fd (n + 1) (by omega)) (fun j hj mj z h hh kn ik => ?_) (fun js hjs j8 h hh kn ik => ?_)
    · exact ramp_jump_u (C := ctx T n) h1 h2 h3
    · exact in_turns_u (C := ctx T n) o (by omega) hs mj (fd n (by omega) j hj) hh ik
    · exact in_row_u (C := ctx T n) o (fun j hj => by have := hjs j hj; omega) j8 (fT _) hs (fun j hj => fd n (by omega) j (hjs j hj)) hh ik
/-! the search begun; the first jump of a book -/
abbrev endK (ps : List (Int × Int)) : List (Key × U) := ps.map fun p => ((.inl p.1 : Key), U.int p.2)
theorem dct_ends (ps : List (Int × Int)) : B1 bDct [endsU ps] (.dic (mergeU [] (endK ps))) := (bf_dct (by rw [List.map_map]; exact seqO_some fun p _ => rfl)).b1
theorem valU_ends {nl : Nat} {g : Nat → Option Int} (bd : ∀ z, g z ≠ none → z < nl) (l : Nat) : (valU (mergeU [] (endK (endL nl g))) (.inl (l : Int))).getD .non = optU (g l) := by
  have d := (DRep.nil (nl := nl)).puts (f := g) bd
  have e : mergeU [] (endK (endL nl g)) = putsP [] (endL nl g) := by
    unfold mergeU putsP; rw [List.foldl_map]
  rw [e, d.1.val l]
  show (Option.map U.int (Option.or (g l) none)).getD .non = _
  rw [Option.or_none]
  cases g l <;> rfl
theorem search_init_u {C : Ctx} {B : Bk} {l : Nat} {m : Int} (o : Sound B) (hl : l < B.L.length) (fu : 1000 < C.fuel) (c72 : Fu (C.call 72) [B.u] (intsU B.lens)) (c63 : Fu (C.call 63) [B.u] (.lst (B.mvs.map intsU))) (c76 : Fu (C.call 76) [B.u] (.lst (B.ends.map endsU))) :
    FnO (runFn C f_m_Search_init) (.o (.obj 7 []) :: [B.u, .int l, .int m].map Sl.s) .non (.o (seU B l m []) :: [B.u, .int l, .int m].map Sl.s) := by
  have p1 := o.p1
  have l8 := o.l1
  have i0 : O2 opIx (.lst (B.L.map limbU)) (.int (l : Int)) (limbU (B.ln l, (B.L.getD l ("", 0)).2)) := o_ixl (at_nat (by rw [List.getElem?_map, Bk.L_at hl]; rfl))
  have ml : B.mvs.length = B.P.length := Bk.mvs_len
  have el : B.efs.length = B.P.length := Bk.efs_len
  show FnO _ [.o (.obj 7 []), .s B.u, .s (.int l), .s (.int m)] _ _
  refine Z.fo_of (io := [0]) rfl (by simp only [List.map_cons, List.map_nil, List.length_cons, List.length_nil, List.cons_append, List.nil_append, Nat.reduceAdd, Nat.reduceSub, List.replicate_succ, List.replicate_zero]; exact rfl) ?_
  (repeat first | fail "p" | with_reducible exact c72 | with_reducible exact c63 | with_reducible exact c76 | fail)
  · have nd := o.pn
    refine s_fore (C := C) (io := [0]) (g := gT [4, 5]) (b := b_m_Search_init_1) (xs := B.P) (f := partU B.ln B.pn) (S := fun j => [.o (.obj 7 [("forms", .lst (B.P.map fun x : Str × Pt => x.2.u B.ln B.pn)), ("numbers", .dic (numU ((B.P.map (·.1)).take j)))]), .s B.u, .s (.int l), .s (.int m), .n, .n, .n, .n, .n]) ?_ (by omega) ?_ ?_
    · (repeat first | fail "p" | fail)
    · show Fgt _ [.o (.obj 7 [_, ("numbers", .dic [])]), _, _, _, _, _, _, _, _]; (repeat first | fail "p" | fail)
    · intro j x q
      have q2 : (B.P.map (·.1))[j]? = some x.1 := by rw [List.getElem?_map, q]; rfl
      have jl := (List.getElem?_eq_some_iff.mp q2).1
      have tl : ((B.P.map (·.1)).take j).length = j := by rw [List.length_take]; omega
      have sz : (numU ((B.P.map (·.1)).take j)).length < sizeLine := sz_lt (by rw [numU_len, tl]; simp at jl; omega)
      have := numU_put (nd_take nd q2)
      rw [tl] at this
      refine ⟨_, by (repeat first | fail "p" | fail), ?_⟩
      rw [take_snoc_g q2, ← this]
      apply bod_nx
      · unfold b_m_Search_init_1; (repeat first | fail "p" | fail)
      · (repeat first | fail "p" | fail)
  rw [List.take_of_length_le (show (B.P.map (·.1)).length ≤ B.P.length by simp)]
  have c76' : Fu (C.call 76) [B.u] (.lst (B.efs.map fun g => endsU (endL B.L.length g))) := by
    have := c76
    unfold Bk.ends at this
    rwa [List.map_map] at this
  (repeat first | fail "p" | with_reducible exact c72 | with_reducible exact c63 | with_reducible exact c76' | with_reducible exact i0 | with_reducible exact dct_ends _ | fail)
  refine outs0 (us := [B.u, .int l, .int m]) ?_
  have le : (B.efs.map fun g => (valU (mergeU [] (endK (endL B.L.length g))) (.inl (l : Int))).getD .non) = B.efs.map fun g => optU (g l) := List.map_congr_left fun g hg => by
    obtain ⟨j, hj⟩ := List.mem_iff_getElem?.mp hg
    refine valU_ends (fun z hz => o.ef_lt j z ?_) l
    unfold Bk.ef
    rw [getD_of hj]; exact hz
  show some (Sl.o (U.obj 7 [_, _, _, _, _, _, (_, U.lst (B.efs.map fun g => (valU (mergeU [] (endK (endL B.L.length g))) (.inl (l : Int))).getD .non)), _])) = _
  rw [le]
/-- the first jump of all limbs: the least beat, the first limb of these -/
def bestJ (B : Bk) (m : Int) : List (Nat × (Str × Int)) → Option (Int × Str × Int) → Option (Int × Str × Int)
  | [], best => best
  | (l, x) :: r, best => bestJ B m r (match jm B l m (B.P.length - 1) x.2 with
      | none => best
      | some f => match best with
        | none => some (f.1, x.1, f.2)
        | some b => if f.1 < b.1 then some (f.1, x.1, f.2) else some b)
abbrev bestU (r : Option (Int × Str × Int)) : U := match r with
  | none => .non
  | some p => .tup [.int p.1, .str p.2.1, .int p.2.2]
def firstJ (B : Bk) (m : Int) : Option (Int × Str × Int) := bestJ B m (B.L.mapIdx fun l x => (l, x)) none
/-- heights that come -/
def hsL (B : Bk) (l : Nat) (h0 : Int) : List Int := h0 :: (List.range B.P.length).map (B.lf l)
theorem hs_of {B : Bk} (o : Ok B) {l : Nat} {h0 : Int} (h : 0 ≤ h0 ∧ h0 ≤ 10 ^ 18) : Hs B l (hsL B l h0) := by
  have p1 := o.p1
  refine ⟨fun x hx => ?_, fun j hj _ => List.mem_cons_of_mem _ (List.mem_map.mpr ⟨j, List.mem_range.mpr hj, rfl⟩), by unfold hsL; rw [List.length_cons, List.length_map, List.length_range]; omega⟩
  rcases List.mem_cons.mp hx with e | e
  · rw [e]; exact h
  · obtain ⟨j, _, rfl⟩ := List.mem_map.mp e
    unfold Bk.lf
    cases e : B.ef j l with
    | none => exact ⟨by decide, by decide⟩
    | some v => exact o.ef_ht e
theorem first_jump_u {C : Ctx} {B : Bk} {m : Int} (o : Sound B) (fu : 1000 < C.fuel)
    (mk : ∀ l, l < B.L.length → Ff (C.make 7) [B.u, .int l, .int m] (seU B l m []))
    (fd : ∀ l, l < B.L.length → ∀ h, 0 ≤ h ∧ h ≤ 10 ^ 18 → Found B l m (hsL B l h) C (B.P.length - 1)) : Fu (runFn C f_first_jump) [B.u, .int m] (bestU (firstJ B m)) := by
  have p1 := o.p1
  have l8 := o.l1
  obtain ⟨xs, hxs⟩ : ∃ xs, xs = B.L.mapIdx fun l x => (l, x) := ⟨_, rfl⟩
  have xat : ∀ j x, B.L[j]? = some x → xs[j]? = some (j, x) := fun j x q => by rw [hxs, List.getElem?_mapIdx, q]; rfl
  have xl : xs.length = B.L.length := by rw [hxs, List.length_mapIdx]
  have pref : ∀ j x, B.L[j]? = some x → ∀ b0, bestJ B m (xs.take (j + 1)) b0 = (match jm B j m (B.P.length - 1) x.2 with
      | none => bestJ B m (xs.take j) b0
      | some f => match bestJ B m (xs.take j) b0 with
        | none => some (f.1, x.1, f.2)
        | some b => if f.1 < b.1 then some (f.1, x.1, f.2) else some b) := fun j x q b0 => by
    have app : ∀ (ys : List (Nat × (Str × Int))) (z : Nat × (Str × Int)) b0, bestJ B m (ys ++ [z]) b0 = bestJ B m [z] (bestJ B m ys b0) := fun ys => by
      induction ys with
      | nil => intro z b0; rfl
      | cons y ys ih => intro z b0; obtain ⟨l, w⟩ := y; simp only [List.cons_append, bestJ]; exact ih z _
    rw [take_snoc_g (xat j x q), app]; rfl
  refine fu_of rfl (by simp only [List.map_cons, List.map_nil, List.length_cons, List.length_nil, List.cons_append, List.nil_append, Nat.reduceAdd, Nat.reduceSub, List.replicate_succ, List.replicate_zero]; exact rfl) ?_
  (repeat first | fail "p" | fail)
  · refine s_fore (C := C) (io := []) (g := gT [3, 4]) (b := b_first_jump_1) (xs := B.L) (f := limbU) (S := fun j => [.s B.u, .s (.int m), .s (bestU (bestJ B m (xs.take j) none)), .n, .n, .n]) ?_ (by omega) ?_ ?_
    · (repeat first | fail "p" | fail)
    · show Fgt _ [_, _, .s .non, _, _, _]; (repeat first | fail "p" | fail)
    · intro j x q
      have jl := (List.getElem?_eq_some_iff.mp q).1
      have hx := o.ls x (List.mem_of_getElem? q)
      have M := mk j jl
      obtain ⟨kn', _, F⟩ := fd j jl x.2 hx.2 x.2 (List.mem_cons_self ..) [] Kn.nil
      rw [show ((B.P.length - 1 : Nat) : Int) = ((B.P.length : Int) - 1) by omega] at F
      have lp : ((B.P.map (partU B.ln B.pn)).length : Int) = B.P.length := by rw [List.length_map]
      have FX : Xp C [.s B.u, .s (.int m), .s (bestU (bestJ B m (xs.take j) none)), .s (.int j), .s (limbU x), .n] (eMeth [7] (eMake 7 (aC (eV 0) (aC (eV 3) (aC (eV 1) aN)))) 20 "found" (aC (eOp opSub (eBf bLen (aC (eOp opIx (eV 0) (eC (.int 1))) aN)) (eC (.int 1))) (aC (eOp opIx (eV 4) (eC (.int 1))) aN))) (jmpU (jm B j m (B.P.length - 1) x.2)) := by
        refine x_methf (us := [.int ((B.P.length : Int) - 1), .int x.2]) (fs := seF B j m []) (y := seU B j m kn') ?_ (by decide) rfl ?_ F
        · (repeat first | fail "p" | with_reducible exact M | fail)
        · have b1 : B1 bLen [.lst (B.P.map (partU B.ln B.pn))] (.int B.P.length) := by have := b_lenl (us := B.P.map (partU B.ln B.pn)); rw [List.length_map] at this; exact this
          (repeat first | fail "p" | with_reducible exact b1 | fail)
      refine ⟨_, by (repeat first | fail "p" | fail), ?_⟩
      rw [pref j x q none]
      cases e1 : jm B j m (B.P.length - 1) x.2 with
      | none =>
        rw [e1] at FX
        apply bod_nx
        · unfold b_first_jump_1; (repeat first | fail "p" | with_reducible exact FX | fail)
        · (repeat first | fail "p" | fail)
      | some f =>
        rw [e1] at FX
        cases e2 : bestJ B m (xs.take j) none with
        | none =>
          rw [e2] at FX
          apply bod_nx
          · unfold b_first_jump_1; (repeat first | fail "p" | with_reducible exact FX | fail)
          · (repeat first | fail "p" | fail)
        | some b =>
          rw [e2] at FX
          by_cases c : f.1 < b.1
          · simp only [if_pos c]
            apply bod_nx
            · unfold b_first_jump_1; (repeat first | fail "p" | with_reducible exact FX | fail)
            · (repeat first | fail "p" | fail)
          · simp only [if_neg c]
            apply bod_nx
            · unfold b_first_jump_1; (repeat first | fail "p" | with_reducible exact FX | fail)
            · (repeat first | fail "p" | fail)
  (repeat first | fail "p" | fail)
  show bestU (bestJ B m (xs.take B.L.length) none) = _
  rw [List.take_of_length_le (by omega), hxs]; rfl
/-! a comprehension in which something is changed -/
section
variable {C : Ctx} {pe pe1 : List Sl} {B : AS} {Sg : Nat → List Nat} {e e' : Ev} {h : HP}
theorem staEnv (s : Sta B Sg e h pe) (l : e'.length = e.length) (k : ∀ i : Nat, pe[i]? ≠ some Sl.n → e'[i]? = e[i]?) : Sta B Sg e' h pe :=
  ⟨l.trans s.len, fun i u q => by rw [k i (by rw [q]; simp)]; exact s.sh i u q, fun i u q => by rw [k i (by rw [q]; simp)]; exact s.ow i u q, s.dis, s.bl, s.nb⟩
theorem wipe_len : ∀ (ws : List Nat), (wipeE e ws).length = e.length
  | [] => rfl
  | v :: vs => by show ((wipeE e vs).set v none).length = _; rw [List.length_set, wipe_len vs]
theorem wipe_at : ∀ (ws : List Nat) (i : Nat), i ∉ ws → (wipeE e ws)[i]? = e[i]?
  | [], _, _ => rfl
  | v :: vs, i, h => by
    show ((wipeE e vs).set v none)[i]? = _
    rw [List.getElem?_set_ne (fun q => h (by rw [q]; exact List.mem_cons_self ..)), wipe_at vs i fun q => h (List.mem_cons_of_mem _ q)]
theorem cmp_z {n i : Nat} {out : Nat → U} {a : ME} {S : Nat → List Sl} (hs : ∀ j, j < n → ∃ pe2 pe3, SetN i (S j) (.int (j : Nat)) pe2 ∧ Xz C pe2 a (out j) pe3 ∧ Fgt pe3 (S (j + 1))) (hi : ∀ j, j ≤ n → (S j)[i]? = some .n) (hn : n ≤ sizeLine) {e0 : Ev} :
    ∀ (m j : Nat) (acc : List D) (us : List U) (Sg : Nat → List Nat) (h : HP), j + m = n → us.length = j → Sta B Sg e0 h (S j) → AllR (Rd (Av B Sg (S j)) h) acc us → ∀ fuel, m < fuel → ∃ ys h' Sg', cmpN (itR 0 n) (gN i) tY a e0 C fuel j acc h = .ok ys h' ∧ Sta B Sg' e0 h' (S n) ∧ AllR (Rd (Av B Sg' (S n)) h') ys (us ++ (List.range' j m).map out) ∧ Tr (Ow Sg (S j)) (Ow Sg' (S n)) h h'
  | 0, j, acc, us, Sg, h, hj, hu, s, ha, fuel, hf => by
    obtain ⟨f', rfl⟩ : ∃ f, fuel = f + 1 := ⟨fuel - 1, by omega⟩
    have : j = n := by omega
    subst this
    refine ⟨acc, h, Sg, ?_, s, by simpa using ha, Tr.refl⟩
    have hd : itR 0 j j h = some none := by unfold itR; rw [if_neg (by omega)]
    simp only [cmpN, hd]
  | m + 1, j, acc, us, Sg, h, hj, hu, s, ha, fuel, hf => by
    obtain ⟨f', rfl⟩ : ∃ f, fuel = f + 1 := ⟨fuel - 1, by omega⟩
    obtain ⟨pe2, pe3, sn, xz, fg⟩ := hs j (by omega)
    have s1 : Sta B Sg (e0.set i (some (.int (j : Nat)))) h pe2 := s.set (u := .int (j : Nat)) .int sn.s
    obtain ⟨d, h1, Sg1, e1, s2, rd, t1⟩ := xz s1
    have s3 : Sta B Sg1 e0 h1 (S (j + 1)) := staEnv (fg.sta s2) (by rw [List.length_set]) fun k hk => by
      by_cases c : k = i
      · subst c; exact absurd (hi (j + 1) (by omega)) hk
      · rw [List.getElem?_set_ne (fun q => c q.symm)]
    have t2 : Tr (Ow Sg (S j)) (Ow Sg1 (S (j + 1))) h h1 := (Tr.lessO fun a q => (sn.ow).mp q).trans (t1.trans (Tr.lessO fun a => fg.ow))
    have r1 : Rd (Av B Sg1 (S (j + 1))) h1 d (out j) := rd.tr (Tr.less fun a => fg.ow)
    obtain ⟨ys, h2, Sg2, e2, s4, r4, t4⟩ := cmp_z hs hi hn (e0 := e0) m (j + 1) (acc ++ [d]) (us ++ [out j]) Sg1 h1 (by omega) (by rw [List.length_append, hu]; rfl) s3 ((ha.imp fun d u r => r.tr t2.av).app (.one r1)) f' (by omega)
    refine ⟨ys, h2, Sg2, ?_, s4, ?_, t2.trans t4⟩
    · have ht : itR 0 n j h = some (some (.int (j : Nat))) := by unfold itR; rw [if_pos (by omega), Int.zero_add]
      have hl : acc.length < sizeLine := by rw [ha.len, hu]; omega
      have gg : gN i e0 (.int (j : Nat)) = some (e0.set i (some (.int (j : Nat)))) := rfl
      have ty : tY C (e0.set i (some (.int (j : Nat)))) h = .ok true h := rfl
      simp only [cmpN, ht, gg, ty, R.bind_ok, if_true, e1, hl]
      exact e2
    · rw [List.range'_succ, List.map_cons]
      simpa using r4
/-- a range's bound that is taken -/
def Rg62 (n : Int) : Prop := -(2 ^ 62) ≤ n ∧ n < 2 ^ 62
theorem iR1_i {C : Ctx} {e : Ev} {h h1 : HP} {m : ME} {n : Int} (hm : m C e h = .ok (.int n) h1) (r : Rg62 n) : iR1 m C e h = .ok (itR 0 n.toNat) h1 := by
  unfold Rg62 at r
  unfold iR1; rw [hm]; simp only [R.bind_ok]
  rw [if_pos r]
theorem z_lcn {n i : Nat} {out : Nat → U} {ws : List Nat} {m a : ME} {S : Nat → List Sl} (hm : Xz C pe m (.int (n : Int)) pe1) (r62 : Rg62 n) (hw : WipN pe1 ws (S 0)) (hn : n ≤ sizeLine) (fu : n < C.fuel)
    (hs : ∀ j, j < n → ∃ pe2 pe3, SetN i (S j) (.int (j : Nat)) pe2 ∧ Xz C pe2 a (out j) pe3 ∧ Fgt pe3 (S (j + 1))) (hi : ∀ j, j ≤ n → (S j)[i]? = some .n) (he : ∀ v ∈ ws, (S n)[v]? = some .n) : Xz C pe (eLc ws (gN i) (iR1 m) tY a) (.lst ((List.range n).map out)) (S n) := fun B Sg e h st => by
  obtain ⟨d, h1, Sg1, e1, s1, rd, t1⟩ := hm st
  rw [Rd.int_iff] at rd
  subst rd
  have s2 := hw.sta s1
  obtain ⟨ys, h2, Sg2, e2, s3, r3, t3⟩ := cmp_z (C := C) (a := a) (e0 := wipeE e ws) hs hi hn n 0 [] [] Sg1 h1 (by omega) rfl s2 .nil C.fuel fu
  have s4 : Sta B Sg2 e h2 (S n) := staEnv s3 (by rw [wipe_len]) fun k hk => by
    by_cases c : k ∈ ws
    · exact absurd (he k c) hk
    · exact (wipe_at ws k c).symm
  have k4 : Kq h2 (h2 ++ [.lst ys]) := Kq.app
  refine ⟨.ref h2.length, h2 ++ [.lst ys], Sg2, ?_, s4.kq k4, ?_, t1.trans ((Tr.lessO fun a q => hw.ow.mp q).trans (t3.trans k4.tro))⟩
  · have hr : iR1 m C e h = .ok (itR 0 n) h1 := by
      have := iR1_i e1 r62
      rwa [Int.toNat_natCast] at this
    unfold eLc; rw [hr]; simp only [R.bind_ok]; rw [e2]; rfl
  · have r5 : AllR (Rd (Av B Sg2 (S n)) (h2 ++ [.lst ys])) ys ((List.range n).map out) := by
      rw [List.nil_append, ← List.range_eq_range'] at r3
      exact r3.imp fun d u r => r.kq k4
    exact .mk_lst (s4.new (Nat.le_refl _)) get_push r5
end
/-! numbers taken from a pool -/
abbrev poU (v : Int) : U := .lst [.int v]
/-- a pool's number: from 0 on, not too great -/
structure Po (v : Int) : Prop where
  n : 0 ≤ v
  b : v.natAbs ≤ 10 ^ 80
theorem Po.div {v m : Int} (p : Po v) (hm : 0 < m) : Po (v / m) := ⟨Int.ediv_nonneg p.n (by omega), Nat.le_trans (Int.natAbs_ediv_le_natAbs v m) p.b⟩
section
variable {C : Ctx}
theorem take_u {v m : Int} (p : Po v) (hm : 0 < m) (mb : m.natAbs ≤ 10 ^ 300) : FnO (runFn C f_l_take) [.o (poU v), .s (.int m)] (.int (v % m)) [.o (poU (v / m)), .s (.int m)] := by
  have d1 : divOk m = true := divOk_sm (by omega) mb
  have md : O2 opMod (.int v) (.int m) (.int (v % m)) := o_mod hm
  have dv : O2 opDiv (.int v) (.int m) (.int (v / m)) := o_div d1 hm
  have ix : O2 opIx (.lst [.int v]) (.int 0) (.int v) := o_ixl (at_int (by decide) rfl)
  have ST : Xs C [0] [.o (poU v), .s (.int m), .s (.int (v % m))] (sSt stD (eV 0) (eC (.int 0)) (eOp opDiv (eOp opIx (eV 0) (eC (.int 0))) (eV 1))) (.nx [.o (poU (v / m)), .s (.int m), .s (.int (v % m))]) :=
    s_stl (n := 0) (us := [.int v]) (u := .int (v / m)) rfl (by (repeat first | fail "p" | with_reducible exact ix | with_reducible exact dv | fail)) x_ci rfl to0
  refine Z.fo_of (io := [0]) rfl (by simp only [List.map_cons, List.map_nil, List.length_cons, List.length_nil, List.cons_append, List.nil_append, Nat.reduceAdd, Nat.reduceSub, List.replicate_succ, List.replicate_zero]; exact rfl) ?_
  (repeat first | fail "p" | with_reducible exact ix | with_reducible exact md | with_reducible exact ST | fail)
  exact outs0 (us := [.int m]) rfl
/-- how a number is drawn from a pool -/
def numP (v most : Int) : Int × Int := if v % 3 = 0 then (v / 3 % min most 5, v / 3 / min most 5) else if v % 3 = 1 then (v / 3 % min most 1000, v / 3 / min most 1000) else (v / 3 % most, v / 3 / most)
theorem numP_ok {v most : Int} (p : Po v) (hm : 0 < most) : 0 ≤ (numP v most).1 ∧ (numP v most).1 < most ∧ Po (numP v most).2 := by
  have p3 := p.div (show (0 : Int) < 3 by omega)
  have key : ∀ m : Int, 0 < m → m ≤ most → 0 ≤ v / 3 % m ∧ v / 3 % m < most ∧ Po (v / 3 / m) := fun m h1 h2 => ⟨Int.emod_nonneg _ (by omega), by have := Int.emod_lt_of_pos (v / 3) h1; omega, p3.div h1⟩
  unfold numP
  split
  · exact key _ (by omega) (by omega)
  · split
    · exact key _ (by omega) (by omega)
    · exact key _ hm (Int.le_refl _)
/-- taking, as a call -/
def TakeF (C : Ctx) : Prop := ∀ v m : Int, Po v → 0 < m → m.natAbs ≤ 10 ^ 300 → FnO (C.call 180) [.o (poU v), .s (.int m)] (.int (v % m)) [.o (poU (v / m)), .s (.int m)]
theorem z_take {pe pe1 : List Sl} {i : Nat} {b : ME} {v m : Int} (tk : TakeF C) (l : pe[i]? = some (.o (poU v))) (hb : Xp C pe b (.int m)) (p : Po v) (hm : 0 < m) (mb : m.natAbs ≤ 10 ^ 300) (q1 : SetO i pe (poU (v / m)) pe1) : Xz C pe (eCall 180 (aC (eV i) (aC b aN)) []) (.int (v % m)) pe1 :=
  z_call (i := i) (k := 0) l (q_o l (q_s hb q_n)) (tk v m p hm mb) (one0 (us := [.int m])) (one0 (us := [.int m])) q1
theorem number_u {v most : Int} (tk : TakeF C) (p : Po v) (hm : 0 < most) (mb : most.natAbs ≤ 10 ^ 300) : FnO (runFn C f_l_number) [.o (poU v), .s (.int most)] (.int (numP v most).1) [.o (poU (numP v most).2), .s (.int most)] := by
  have p3 := p.div (show (0 : Int) < 3 by omega)
  have b3 : (3 : Int).natAbs ≤ 10 ^ 300 := Nat.le_trans (show (3 : Int).natAbs ≤ 10 ^ 1 by decide) (Nat.pow_le_pow_right (by decide) (by decide))
  have T1 : Xs C [0] [.o (poU v), .s (.int most), .n] (sAs (gN 2) (eCall 180 (aC (eV 0) (aC (eC (.int 3)) aN)) [])) (.nx [.o (poU (v / 3)), .s (.int most), .s (.int (v % 3))]) := s_asz (z_take tk rfl x_ci p (by omega) b3 to0) (tp_n (tsS (tsS ts0)) (by decide))
  have TK : ∀ (b : ME) (m : Int), Xp C [.o (poU (v / 3)), .s (.int most), .s (.int (v % 3))] b (.int m) → 0 < m → m.natAbs ≤ 10 ^ 300 → Xs C [0] [.o (poU (v / 3)), .s (.int most), .s (.int (v % 3))] (sRt (eCall 180 (aC (eV 0) (aC b aN)) [])) (.rt (.int (v / 3 % m)) [.o (poU (v / 3 / m)), .s (.int most), .s (.int (v % 3))]) := fun b m hb h1 h2 => s_rtz (z_take tk rfl hb p3 h1 h2 to0)
  have mn : ∀ c : Int, 0 < c → c ≤ 1000 → 0 < min most c ∧ (min most c).natAbs ≤ 10 ^ 300 := fun c h1 h2 => ⟨by omega, Nat.le_trans (show (min most c).natAbs ≤ most.natAbs by omega) mb⟩
  have B1m : ∀ c : Int, B1 bMin [.int most, .int c] (.int (min most c)) := fun c => b_min
  unfold numP
  by_cases c0 : v % 3 = 0
  · rw [if_pos c0]
    have R := TK (eBf bMin (aC (eV 1) (aC (eC (.int 5)) aN))) (min most 5) (by (repeat first | fail "p" | with_reducible exact B1m 5 | fail)) (mn 5 (by omega) (by omega)).1 (mn 5 (by omega) (by omega)).2
    refine Z.fo_of (io := [0]) rfl (by simp only [List.map_cons, List.map_nil, List.length_cons, List.length_nil, List.cons_append, List.nil_append, Nat.reduceAdd, Nat.reduceSub, List.replicate_succ, List.replicate_zero]; exact rfl) ?_
    (repeat first | fail "p" | with_reducible exact T1 | with_reducible exact R | fail)
    exact outs0 (us := [.int most]) rfl
  · rw [if_neg c0]
    by_cases c1 : v % 3 = 1
    · rw [if_pos c1]
      have R := TK (eBf bMin (aC (eV 1) (aC (eC (.int 1000)) aN))) (min most 1000) (by (repeat first | fail "p" | with_reducible exact B1m 1000 | fail)) (mn 1000 (by omega) (by omega)).1 (mn 1000 (by omega) (by omega)).2
      refine Z.fo_of (io := [0]) rfl (by simp only [List.map_cons, List.map_nil, List.length_cons, List.length_nil, List.cons_append, List.nil_append, Nat.reduceAdd, Nat.reduceSub, List.replicate_succ, List.replicate_zero]; exact rfl) ?_
      (repeat first | fail "p" | with_reducible exact T1 | with_reducible exact R | fail)
      exact outs0 (us := [.int most]) rfl
    · rw [if_neg c1]
      have R := TK (eV 1) most (x_v rfl) hm mb
      refine Z.fo_of (io := [0]) rfl (by simp only [List.map_cons, List.map_nil, List.length_cons, List.length_nil, List.cons_append, List.nil_append, Nat.reduceAdd, Nat.reduceSub, List.replicate_succ, List.replicate_zero]; exact rfl) ?_
      (repeat first | fail "p" | with_reducible exact T1 | with_reducible exact R | fail)
      exact outs0 (us := [.int most]) rfl
end
/-! the pool of a cell; words -/
def plF (s : Int × Int) (turn : Nat) : Int × Int := ((s.1 * 69621 + 7919 * (turn : Int)) % 2147483629 * ((s.1 * 69621 + 7919 * (turn : Int)) % 2147483629) % 2147483587, s.2 * 2147483629 + (s.1 * 69621 + 7919 * (turn : Int)) % 2147483629 * ((s.1 * 69621 + 7919 * (turn : Int)) % 2147483629) % 2147483587)
def plS (n0 : Int) : Nat → Int × Int
  | 0 => (n0, 0)
  | j + 1 => plF (plS n0 j) j
theorem plS_ok {n0 : Int} (h0 : 0 ≤ n0) (h1 : n0 ≤ 10 ^ 20) : ∀ j, 0 ≤ (plS n0 j).1 ∧ (plS n0 j).1 ≤ 10 ^ 20 ∧ 0 ≤ (plS n0 j).2 ∧ (plS n0 j).2 < 10 ^ (10 * j)
  | 0 => ⟨h0, h1, Int.le_refl _, by show (0 : Int) < 10 ^ 0; decide⟩
  | j + 1 => by
    obtain ⟨a1, a2, a3, a4⟩ := plS_ok h0 h1 j
    obtain ⟨b, hb⟩ : ∃ b, b = (plS n0 (j + 1)).1 := ⟨_, rfl⟩
    have b0 : 0 ≤ b := by rw [hb]; exact Int.emod_nonneg _ (by decide)
    have b1 : b < 2147483587 := by rw [hb]; exact Int.emod_lt_of_pos _ (by decide)
    have e : (plS n0 (j + 1)).2 = (plS n0 j).2 * 2147483629 + b := by rw [hb]; rfl
    rw [← hb, e]
    have pw : (10 : Int) ^ (10 * (j + 1)) = 10 ^ (10 * j) * 10 ^ 10 := by rw [Nat.mul_add, Int.pow_add]
    rw [pw]
    generalize (10 : Int) ^ (10 * j) = X at a4
    refine ⟨b0, by omega, by omega, ?_⟩
    have : (10 : Int) ^ 10 = 10000000000 := by decide
    rw [this]
    omega
section
variable {C : Ctx}
theorem l_pool_u {ns : List Int} (l63 : ns.length ≤ 63) (fu : 1000 < C.fuel) {k : Nat} (hk : k ≤ 200) : ∃ v, Po v ∧ Ff (runFn C f_l_pool) [.fz (ns.map U.int), .int (k : Int)] (poU v) := by
  have b300 : ∀ z : Int, z.natAbs ≤ 10 ^ 40 → z.natAbs ≤ 10 ^ 300 := fun z h => Nat.le_trans h (Nat.pow_le_pow_right (by decide) (by decide))
  have b300' : ∀ z : Int, z.natAbs ≤ 10 ^ 80 → z.natAbs ≤ 10 ^ 300 := fun z h => Nat.le_trans h (Nat.pow_le_pow_right (by decide) (by decide))
  obtain ⟨cell, hc⟩ : ∃ cell, cell = if k < ns.length then ns.getD k 0 else 0 := ⟨_, rfl⟩
  have LT : O2 opLt (.int (k : Int)) (.int (ns.length : Int)) (.bl (decide (k < ns.length))) := by
    have := o_lt (p := (k : Int)) (q := (ns.length : Int))
    rwa [show decide ((k : Int) < (ns.length : Int)) = decide (k < ns.length) by rw [Bool.eq_iff_iff, decide_eq_true_iff, decide_eq_true_iff]; omega] at this
  have lf : B1 bLen [.fz (ns.map U.int)] (.int (ns.length : Int)) := lenFz
  have IF : Xs C [] [.s (.fz (ns.map U.int)), .s (.int (k : Int)), .s (.int 0), .n, .n, .n] (sIf (tV (eOp opLt (eV 1) (eBf bLen (aC (eV 0) aN)))) (sAs (gN 2) (eOp opIx (eV 0) (eV 1))) sSk) (.nx [.s (.fz (ns.map U.int)), .s (.int (k : Int)), .s (.int cell), .n, .n, .n]) := by
    by_cases c : k < ns.length
    · rw [decide_eq_true c] at LT
      rw [if_pos c] at hc
      have ix := ixFz (ns := ns) c
      rw [← hc] at ix
      (repeat first | fail "p" | with_reducible exact lf | with_reducible exact LT | with_reducible exact ix | fail)
    · rw [decide_eq_false c] at LT
      rw [if_neg c] at hc
      rw [hc]
      (repeat first | fail "p" | with_reducible exact lf | with_reducible exact LT | fail)
  have p18 : O2 opPow (.int 10) (.int 18) (.int 1000000000000000000) := o_pow (by decide)
  have p60 : O2 opPow (.int 10) (.int 60) (.int 1000000000000000000000000000000000000000000000000000000000000) := o_pow (by decide)
  by_cases c : 1000000000000000000 ≤ cell
  · refine ⟨cell % 1000000000000000000000000000000000000000000000000000000000000, ⟨Int.emod_nonneg _ (by decide), ?_⟩, ?_⟩
    · have h1 := Int.emod_nonneg cell (show (1000000000000000000000000000000000000000000000000000000000000 : Int) ≠ 0 by decide)
      have h2 := Int.emod_lt_of_pos cell (show (0 : Int) < 1000000000000000000000000000000000000000000000000000000000000 by decide)
      refine Nat.le_trans (show _ ≤ 10 ^ 60 by omega) (Nat.pow_le_pow_right (by decide) (by decide))
    · have GE : O2 opGe (.int cell) (.int 1000000000000000000) (.bl true) := by have := o_ge (p := cell) (q := 1000000000000000000); rwa [decide_eq_true c] at this
      have md : O2 opMod (.int cell) (.int 1000000000000000000000000000000000000000000000000000000000000) (.int (cell % 1000000000000000000000000000000000000000000000000000000000000)) := o_mod (by decide)
      refine ff_of rfl (by simp only [List.map_cons, List.map_nil, List.length_cons, List.length_nil, List.cons_append, List.nil_append, Nat.reduceAdd, Nat.reduceSub, List.replicate_succ, List.replicate_zero]; exact rfl) ?_
      (repeat first | fail "p" | with_reducible exact IF | with_reducible exact p18 | with_reducible exact p60 | with_reducible exact GE | with_reducible exact md | fail)
  · have GE : O2 opGe (.int cell) (.int 1000000000000000000) (.bl false) := by have := o_ge (p := cell) (q := 1000000000000000000); rwa [decide_eq_false c] at this
    obtain ⟨n0, hn⟩ : ∃ n0, n0 = cell % 2147483647 + 48271 * (k : Int) * (k : Int) + 11 := ⟨_, rfl⟩
    have m0 := Int.emod_nonneg cell (show (2147483647 : Int) ≠ 0 by decide)
    have m1 := Int.emod_lt_of_pos cell (show (0 : Int) < 2147483647 by decide)
    have kk0 : 0 ≤ 48271 * (k : Int) * (k : Int) := Int.mul_nonneg (by omega) (by omega)
    have kk1 : 48271 * (k : Int) * (k : Int) ≤ 48271 * 200 * 200 := Int.mul_le_mul (by omega) (by omega) (by omega) (by omega)
    have n00 : 0 ≤ n0 := by omega
    have n01 : n0 ≤ 10 ^ 20 := by omega
    have ok := plS_ok n00 n01
    have md : O2 opMod (.int cell) (.int 2147483647) (.int (cell % 2147483647)) := o_mod (by decide)
    have ml1 : O2 opMul (.int 48271) (.int (k : Int)) (.int (48271 * (k : Int))) := o_mul (mulOk_sm (by decide) (b300 _ (by omega)))
    have ml2 : O2 opMul (.int (48271 * (k : Int))) (.int (k : Int)) (.int (48271 * (k : Int) * (k : Int))) := o_mul (mulOk_sm (b300 _ (by omega)) (b300 _ (by omega)))
    have L : Xs C [] [.s (.fz (ns.map U.int)), .s (.int (k : Int)), .s (.int cell), .s (.int n0), .s (.int 0), .n] (sFo (gN 5) (iR1 (eC (.int 7))) b_l_pool_1) (.nx [.s (.fz (ns.map U.int)), .s (.int (k : Int)), .s (.int cell), .s (.int (plS n0 7).1), .s (.int (plS n0 7).2), .n]) := by
      refine s_forn (C := C) (io := []) (g := gN 5) (b := b_l_pool_1) (n := 7) (S := fun j => [.s (.fz (ns.map U.int)), .s (.int (k : Int)), .s (.int cell), .s (.int (plS n0 j).1), .s (.int (plS n0 j).2), .n]) ?_ (by omega) ?_ ?_
      · exact i_r1 (n := 7) x_ci (by decide) (by decide)
      · show Fgt _ [_, _, _, .s (.int n0), .s (.int 0), _]; (repeat first | fail "p" | fail)
      · intro j hj
        obtain ⟨a1, a2, a3, a4⟩ := ok j
        obtain ⟨a, ha⟩ : ∃ a, a = (plS n0 j).1 := ⟨_, rfl⟩
        obtain ⟨f, hf⟩ : ∃ f, f = (plS n0 j).2 := ⟨_, rfl⟩
        obtain ⟨c1, hc1⟩ : ∃ c1, c1 = (a * 69621 + 7919 * (j : Int)) % 2147483629 := ⟨_, rfl⟩
        have c10 : 0 ≤ c1 := by rw [hc1]; exact Int.emod_nonneg _ (by decide)
        have c11 : c1 < 2147483629 := by rw [hc1]; exact Int.emod_lt_of_pos _ (by decide)
        have e1 : (plS n0 (j + 1)).1 = c1 * c1 % 2147483587 := by rw [hc1, ha]; rfl
        have e2 : (plS n0 (j + 1)).2 = f * 2147483629 + c1 * c1 % 2147483587 := by rw [hc1, ha, hf]; rfl
        have fb : f.natAbs ≤ 10 ^ 80 := by
          have h7 : (10 : Int) ^ (10 * j) ≤ 10 ^ 70 := by
            match j, hj with
            | 0, _ => decide
            | 1, _ => decide
            | 2, _ => decide
            | 3, _ => decide
            | 4, _ => decide
            | 5, _ => decide
            | 6, _ => decide
          rw [hf]
          refine Nat.le_trans (show _ ≤ 10 ^ 70 by omega) (Nat.pow_le_pow_right (by decide) (by decide))
        rw [e1, e2, ← ha, ← hf]
        rw [← ha] at a1 a2
        have q1 : O2 opMul (.int a) (.int 69621) (.int (a * 69621)) := o_mul (mulOk_sm (b300 _ (by omega)) (by decide))
        have q2 : O2 opMul (.int 7919) (.int (j : Int)) (.int (7919 * (j : Int))) := o_mul (mulOk_sm (by decide) (b300 _ (by omega)))
        have q3 : O2 opMod (.int (a * 69621 + 7919 * (j : Int))) (.int 2147483629) (.int c1) := by rw [hc1]; exact o_mod (by decide)
        have q4 : O2 opMul (.int c1) (.int c1) (.int (c1 * c1)) := o_mul (mulOk_sm (b300 _ (by omega)) (b300 _ (by omega)))
        have q5 : O2 opMod (.int (c1 * c1)) (.int 2147483587) (.int (c1 * c1 % 2147483587)) := o_mod (by decide)
        have q6 : O2 opMul (.int f) (.int 2147483629) (.int (f * 2147483629)) := o_mul (mulOk_sm (b300' _ fb) (by decide))
        refine ⟨_, by (repeat first | fail "p" | fail), ?_⟩
        apply bod_nx
        · unfold b_l_pool_1; (repeat first | fail "p" | with_reducible exact q1 | with_reducible exact q2 | with_reducible exact q3 | with_reducible exact q4 | with_reducible exact q5 | with_reducible exact q6 | fail)
        · (repeat first | fail "p" | fail)
    refine ⟨(plS n0 7).2, ⟨(ok 7).2.2.1, ?_⟩, ?_⟩
    · have := (ok 7).2.2
      have h7 : (10 : Int) ^ (10 * 7) = 10 ^ 70 := rfl
      rw [h7] at this
      refine Nat.le_trans (show _ ≤ 10 ^ 70 by omega) (Nat.pow_le_pow_right (by decide) (by decide))
    · refine ff_of rfl (by simp only [List.map_cons, List.map_nil, List.length_cons, List.length_nil, List.cons_append, List.nil_append, Nat.reduceAdd, Nat.reduceSub, List.replicate_succ, List.replicate_zero]; exact rfl) ?_
      have ad : O2 opAdd (.int (cell % 2147483647 + 48271 * (k : Int) * (k : Int))) (.int 11) (.int n0) := by rw [hn]; exact o_add
      (repeat first | fail "p" | with_reducible exact IF | with_reducible exact p18 | with_reducible exact GE | with_reducible exact md | with_reducible exact ml1 | with_reducible exact ml2 | with_reducible exact ad | with_reducible exact L | fail)
end
/-! words of a place and a number -/
def lcW (k : Nat) : Nat := ("abcdefghijklnopqrstuvwxyz" : Str).cps.toList.getD k 0
def wordV (p k : Nat) : Str := cutS "mmmm" none (some (p : Int)) ++ ⟨#[lcW k]⟩ ++ cutS "mmm" (some (p : Int)) none ++ ""
theorem wordV_inj : ∀ p, p < 4 → ∀ i, i < 25 → ∀ j, j < 25 → wordV p i = wordV p j → i = j := by decide +kernel
theorem wordV_limb : ∀ p, p < 4 → ∀ i, i < 25 → wordV p i ≠ "arm" ∧ wordV p i ≠ "armm" ∧ wordV p i ≠ "head" := by decide +kernel
theorem lcW_at : ∀ k, k < 25 → (("abcdefghijklnopqrstuvwxyz" : Str).cps.toList)[k]? = some (lcW k) := by decide +kernel
theorem lenWs : ("abcdefghijklnopqrstuvwxyz" : Str).length = 25 ∧ ("mmmm" : Str).length = 4 ∧ ("mmm" : Str).length = 3 ∧ ("" : Str).length = 0 := by decide +kernel
theorem cut_lens : ∀ p : Nat, p < 4 → (cutS "mmmm" none (some (p : Int))).length = p ∧ (cutS "mmmm" none (some (p : Int)) ++ ⟨#[0]⟩).length = p + 1 ∧ (cutS "mmm" (some (p : Int)) none).length = 3 - p := by decide +kernel
theorem l_word_u {C : Ctx} {p k : Nat} (hp : p < 4) (hk : k < 25) : Fu (runFn C f_l_word) [.int (p : Int), .int (k : Int)] (.str (wordV p k)) := by
  obtain ⟨w1, w2, w3, w4⟩ := lenWs
  obtain ⟨c1, _, c3⟩ := cut_lens p hp
  have al : ∀ a b : Str, (a ++ b).length = a.length + b.length := fun a b => by show (a.cps ++ b.cps).size = _; rw [Array.size_append]; rfl
  have s1 : S3 (.str "mmmm") none (some (p : Int)) (.str (cutS "mmmm" none (some (p : Int)))) := s3_s (sz_le (by rw [w2]; decide))
  have s2 : S3 (.str "mmm") (some (p : Int)) none (.str (cutS "mmm" (some (p : Int)) none)) := s3_s (sz_le (by rw [w3]; decide))
  have md : O2 opMod (.int (k : Int)) (.int 25) (.int (k : Int)) := by
    have := o_mod (p := (k : Int)) (q := 25) (by decide)
    rwa [Int.emod_eq_of_lt (by omega) (by omega)] at this
  have dv : O2 opDiv (.int (k : Int)) (.int 25) (.int 0) := by
    have := o_div (p := (k : Int)) (q := 25) (divOk_sm (by decide) (by decide)) (by decide)
    rwa [Int.ediv_eq_zero_of_lt (by omega) (by omega)] at this
  have ix : O2 opIx (.str "abcdefghijklnopqrstuvwxyz") (.int (k : Int)) (.str ⟨#[lcW k]⟩) := o_ixs (sz_le (by rw [w1]; decide)) (at_nat (lcW_at k hk))
  have ix2 : O2 opIx (.lst [.str "", .str "q", .str "qr"]) (.int 0) (.str "") := o_ixl (at_int (by decide) rfl)
  have one : (⟨#[lcW k]⟩ : Str).length = 1 := rfl
  have a1 : O2 opAdd (.str (cutS "mmmm" none (some (p : Int)))) (.str ⟨#[lcW k]⟩) (.str (cutS "mmmm" none (some (p : Int)) ++ ⟨#[lcW k]⟩)) := o_adds (sz_le (by rw [c1, one]; omega))
  have a2 : O2 opAdd (.str (cutS "mmmm" none (some (p : Int)) ++ ⟨#[lcW k]⟩)) (.str (cutS "mmm" (some (p : Int)) none)) (.str (cutS "mmmm" none (some (p : Int)) ++ ⟨#[lcW k]⟩ ++ cutS "mmm" (some (p : Int)) none)) := o_adds (sz_le (by rw [al, c1, one, c3]; omega))
  have a3 : O2 opAdd (.str (cutS "mmmm" none (some (p : Int)) ++ ⟨#[lcW k]⟩ ++ cutS "mmm" (some (p : Int)) none)) (.str "") (.str (wordV p k)) := o_adds (sz_le (by rw [al, al, c1, one, c3, w4]; omega))
  refine fu_of rfl (by simp only [List.map_cons, List.map_nil, List.length_cons, List.length_nil, List.cons_append, List.nil_append, Nat.reduceAdd, Nat.reduceSub, List.replicate_succ, List.replicate_zero]; exact rfl) ?_
  (repeat first | fail "p" | with_reducible exact s1 | with_reducible exact s2 | with_reducible exact md | with_reducible exact dv | with_reducible exact ix | with_reducible exact ix2 | with_reducible exact a1 | with_reducible exact a2 | with_reducible exact a3 | fail)
/-! two parts whose limbs are apart, looked for -/
abbrev pairR (r : Option (Nat × Nat)) : U := match r with
  | none => .non
  | some p => .tup [.int (p.1 : Nat), .int (p.2 : Nat)]
def PairOk (M : List (List Int)) (p : Nat × Nat) : Prop := p.1 < M.length ∧ p.2 < M.length ∧ M.getD p.1 [] ≠ [] ∧ M.getD p.2 [] ≠ [] ∧ ∀ z ∈ M.getD p.1 [], z ∉ M.getD p.2 []
theorem l_pair_u {C : Ctx} {M : List (List Int)} (fu : 1000 < C.fuel) (ml : M.length ≤ 20) (l8 : ∀ m ∈ M, m.length ≤ 8) {at_ : Int} (a0 : 0 ≤ at_) : ∃ r : Option (Nat × Nat), (∀ p, r = some p → PairOk M p) ∧ Fu (runFn C f_l_pair) [.lst (M.map intsU), .int at_] (pairR r) := by
  obtain ⟨n, hn⟩ : ∃ n, n = M.length := ⟨_, rfl⟩
  have lb : B1 bLen [.lst (M.map intsU)] (.int (n : Int)) := by have := b_lenl (us := M.map intsU); rwa [List.length_map, ← hn] at this
  have b300 : ∀ z : Int, z.natAbs ≤ 10 ^ 40 → z.natAbs ≤ 10 ^ 300 := fun z h => Nat.le_trans h (Nat.pow_le_pow_right (by decide) (by decide))
  have mm : O2 opMul (.int (n : Int)) (.int (n : Int)) (.int ((n * n : Nat) : Int)) := by
    have := o_mul (p := (n : Int)) (q := (n : Int)) (mulOk_sm (b300 _ (by omega)) (b300 _ (by omega)))
    rwa [show (n : Int) * (n : Int) = ((n * n : Nat) : Int) by simp] at this
  have nn : n * n ≤ 400 := by
    have := Nat.mul_le_mul (show n ≤ 20 by omega) (show n ≤ 20 by omega)
    omega
  obtain ⟨MU, hMU⟩ : ∃ MU, MU = U.lst (M.map intsU) := ⟨_, rfl⟩
  rw [← hMU] at lb
  have neL : ∀ m : List Int, O2 opNe (intsU m) (.lst []) (.bl (decide (m ≠ []))) ∧ O2 opEq (intsU m) (.lst []) (.bl (decide (m = []))) := fun m => by
    have c1 : Cl 1 (intsU m) := .lst fun u hu => by
      obtain ⟨z, _, rfl⟩ := List.mem_map.mp hu; exact .int
    have c0 : Cl 1 (.lst []) := .lst fun u hu => by cases hu
    by_cases h : m = []
    · subst h
      exact ⟨by rw [decide_eq_false (by simp)]; exact o_net c0 (by decide), by rw [decide_eq_true rfl]; exact o_eqt c0 (by decide)⟩
    · have ne : intsU m ≠ .lst [] := fun e => by
        injection e with e
        exact h (List.map_eq_nil_iff.mp e)
      exact ⟨by rw [decide_eq_true h]; exact o_nef c1 c0 (by decide) (by decide) ne, by rw [decide_eq_false h]; exact o_eqf c1 c0 (by decide) (by decide) ne⟩
  have L := s_forS (C := C) (io := []) (g := gN 3) (mi := iR1 (eOp opMul (eV 2) (eV 2))) (b := b_l_pair_1) (pe := [.s MU, .s (.int at_), .s (.int (n : Int)), .n, .n, .n, .n]) (xs := List.range (n * n)) (f := fun k : Nat => .int (0 + (k : Nat))) (S := fun _ : Unit => [.s MU, .s (.int at_), .s (.int (n : Int)), .n, .n, .n, .n]) (inv := fun _ _ => True) (fin := fun q => ∃ p pe, q = .rt (.tup [.int (p.1 : Nat), .int (p.2 : Nat)]) pe ∧ PairOk M p) (a0 := ())
    (i_rn (x_op (x_v rfl).top (x_v rfl).top mm) (by omega)) (by rw [List.length_range]; omega) (by (repeat first | fail "p" | fail)) trivial (fun j k a q _ => by
      have jl := (List.getElem?_eq_some_iff.mp q).1
      rw [List.length_range] at jl
      rw [List.getElem?_range jl] at q
      cases q
      have n1 : 0 < n := by
        rcases Nat.eq_zero_or_pos n with h | h
        · subst h; simp at jl
        · exact h
      obtain ⟨s, hs⟩ : ∃ s, s = at_ + (0 + (j : Int)) := ⟨_, rfl⟩
      obtain ⟨x, hx⟩ : ∃ x : Nat, (x : Int) = s / (n : Int) % (n : Int) := ⟨(s / (n : Int) % (n : Int)).toNat, Int.toNat_of_nonneg (Int.emod_nonneg _ (by omega))⟩
      obtain ⟨y, hy⟩ : ∃ y : Nat, (y : Int) = s % (n : Int) := ⟨(s % (n : Int)).toNat, Int.toNat_of_nonneg (Int.emod_nonneg _ (by omega))⟩
      have xl : x < n := by have := Int.emod_lt_of_pos (s / (n : Int)) (show (0 : Int) < n by omega); omega
      have yl : y < n := by have := Int.emod_lt_of_pos s (show (0 : Int) < n by omega); omega
      have ad : O2 opAdd (.int at_) (.int (0 + (j : Int))) (.int s) := by rw [hs]; exact o_add
      have dv : O2 opDiv (.int s) (.int (n : Int)) (.int (s / (n : Int))) := o_div (divOk_sm (by omega) (b300 _ (by omega))) (by omega)
      have md1 : O2 opMod (.int (s / (n : Int))) (.int (n : Int)) (.int (x : Int)) := by rw [hx]; exact o_mod (by omega)
      have md2 : O2 opMod (.int s) (.int (n : Int)) (.int (y : Int)) := by rw [hy]; exact o_mod (by omega)
      have ixM : ∀ i, i < n → O2 opIx MU (.int (i : Int)) (intsU (M.getD i [])) := fun i hi => by rw [hMU]; exact o_ixl (at_nat (by rw [List.getElem?_map, get_getD [] (by omega)]; rfl))
      have ix1 := ixM x xl
      have ix2 := ixM y yl
      have lx : (M.getD x []).length ≤ 8 := l8 _ (List.mem_of_getElem? (get_getD [] (by omega)))
      obtain ⟨A, hA⟩ : ∃ A, A = M.getD x [] := ⟨_, rfl⟩
      obtain ⟨D', hD⟩ : ∃ D', D' = M.getD y [] := ⟨_, rfl⟩
      rw [← hA] at ix1 lx
      rw [← hD] at ix2
      obtain ⟨F, hF⟩ : ∃ F, F = A.filter fun z => decide (z ∈ D') := ⟨_, rfl⟩
      have LC : Xf C [.s MU, .s (.int at_), .s (.int (n : Int)), .s (.int (0 + (j : Int))), .s (.int (x : Int)), .s (.int (y : Int)), .n] (eLc [6] (gN 6) (iA (eOp opIx (eV 0) (eV 4))) (tV (eOp opIn (eV 6) (eOp opIx (eV 0) (eV 5)))) (eV 6)) (intsU F) := by
        rw [hF]
        refine f_lcf (xs := A) (f := U.int) (by (repeat first | fail "p" | with_reducible exact ix1 | fail)) (by (repeat first | fail "p" | fail)) (sz_le (by omega)) (by omega) fun z hz => ⟨_, by (repeat first | fail "p" | fail), by (repeat first | fail "p" | with_reducible exact ix2 | fail), fun _ => by (repeat first | fail "p" | fail)⟩
      obtain ⟨e1, _⟩ := neL A
      obtain ⟨e2, _⟩ := neL D'
      obtain ⟨_, e3⟩ := neL F
      refine ⟨_, by (repeat first | fail "p" | fail), ?_⟩
      by_cases c1 : A ≠ []
      · rw [decide_eq_true c1] at e1
        by_cases c2 : D' ≠ []
        · rw [decide_eq_true c2] at e2
          by_cases c3 : F = []
          · rw [decide_eq_true c3] at e3
            right
            refine ⟨.rt (.tup [.int (x : Int), .int (y : Int)]) [.s MU, .s (.int at_), .s (.int (n : Int)), .s (.int (0 + (j : Int))), .s (.int (x : Int)), .s (.int (y : Int)), .n], ⟨(x, y), _, rfl, by dsimp only; omega, by dsimp only; omega, by dsimp only; rw [← hA]; exact c1, by dsimp only; rw [← hD]; exact c2, fun z hz hz2 => ?_⟩, .inr ⟨?_, .inl ⟨_, _, rfl⟩⟩⟩
            · dsimp only at hz hz2
              rw [← hA] at hz
              rw [← hD] at hz2
              have : z ∈ F := by rw [hF, List.mem_filter]; exact ⟨hz, decide_eq_true hz2⟩
              rw [c3] at this
              cases this
            · unfold b_l_pair_1
              (repeat first | fail "p" | with_reducible exact ad | with_reducible exact dv | with_reducible exact md1 | with_reducible exact md2 | with_reducible exact ix1 | with_reducible exact ix2 | with_reducible exact e1 | with_reducible exact e2 | with_reducible exact e3 | with_reducible exact LC.p.top | with_reducible exact LC.p | fail)
          · rw [decide_eq_false c3] at e3
            left
            refine ⟨(), trivial, ?_⟩
            apply bod_nx
            · unfold b_l_pair_1
              (repeat first | fail "p" | with_reducible exact ad | with_reducible exact dv | with_reducible exact md1 | with_reducible exact md2 | with_reducible exact ix1 | with_reducible exact ix2 | with_reducible exact e1 | with_reducible exact e2 | with_reducible exact e3 | with_reducible exact LC.p.top | with_reducible exact LC.p | fail)
            · (repeat first | fail "p" | fail)
        · rw [decide_eq_false c2] at e2
          left
          refine ⟨(), trivial, ?_⟩
          apply bod_nx
          · unfold b_l_pair_1
            (repeat first | fail "p" | with_reducible exact ad | with_reducible exact dv | with_reducible exact md1 | with_reducible exact md2 | with_reducible exact ix1 | with_reducible exact ix2 | with_reducible exact e1 | with_reducible exact e2 | fail)
          · (repeat first | fail "p" | fail)
      · rw [decide_eq_false c1] at e1
        left
        refine ⟨(), trivial, ?_⟩
        apply bod_nx
        · unfold b_l_pair_1
          (repeat first | fail "p" | with_reducible exact ad | with_reducible exact dv | with_reducible exact md1 | with_reducible exact md2 | with_reducible exact ix1 | with_reducible exact ix2 | with_reducible exact e1 | fail)
        · (repeat first | fail "p" | fail))
  rw [← hMU]
  rcases L with ⟨_, _, X⟩ | ⟨q, ⟨p, pe, rfl, ok⟩, X⟩
  · refine ⟨none, fun p e => (by cases e), ?_⟩
    refine fu_of rfl (by simp only [List.map_cons, List.map_nil, List.length_cons, List.length_nil, List.cons_append, List.nil_append, Nat.reduceAdd, Nat.reduceSub, List.replicate_succ, List.replicate_zero]; exact rfl) ?_
    (repeat first | fail "p" | with_reducible exact lb | with_reducible exact X | fail)
  · refine ⟨some p, fun p' e => (by cases e; exact ok), ?_⟩
    show Fu _ _ (.tup [.int (p.1 : Nat), .int (p.2 : Nat)])
    refine fu_of rfl (by simp only [List.map_cons, List.map_nil, List.length_cons, List.length_nil, List.cons_append, List.nil_append, Nat.reduceAdd, Nat.reduceSub, List.replicate_succ, List.replicate_zero]; exact rfl) ?_
    (repeat first | fail "p" | with_reducible exact lb | with_reducible exact X | fail)
/-! a form that names parts, drawn -/
def NumF (C : Ctx) : Prop := ∀ v m : Int, Po v → 0 < m → m.natAbs ≤ 10 ^ 300 → FnO (C.call 203) [.o (poU v), .s (.int m)] (.int (numP v m).1) [.o (poU (numP v m).2), .s (.int m)]
theorem z_num {C : Ctx} {pe pe1 : List Sl} {i : Nat} {b : ME} {v m : Int} (nf : NumF C) (l : pe[i]? = some (.o (poU v))) (hb : Xp C pe b (.int m)) (p : Po v) (hm : 0 < m) (mb : m.natAbs ≤ 10 ^ 300) (q1 : SetO i pe (poU (numP v m).2) pe1) : Xz C pe (eCall 203 (aC (eV i) (aC b aN)) []) (.int (numP v m).1) pe1 :=
  z_call (i := i) (k := 0) l (q_o l (q_s hb q_n)) (nf v m p hm mb) (one0 (us := [.int m])) (one0 (us := [.int m])) q1
/-- what is drawn -/
def NamOk (k : Nat) (M : List (List Int)) (G : List Int) (most : Int) : Pt → Prop
  | .row js => 1 ≤ js.length ∧ js.length ≤ 4 ∧ ∀ j ∈ js, j < k
  | .hold b => 1 ≤ b ∧ b ≤ most
  | .side js => ∃ a b, js = [a, b] ∧ PairOk M (a, b)
  | .again z j => 1 ≤ z ∧ z ≤ 10 ^ 18 ∧ j < k ∧ (z * G.getD j 0 ≤ 10 ^ 40 ∨ z ≤ 3)
  | _ => False
def vjs (v : Int) (k : Nat) : Nat → Int
  | 0 => v
  | j + 1 => vjs v k j / (k : Int)
theorem vjs_ok {v : Int} {k : Nat} (hk : 1 ≤ k) (p : Po v) : ∀ j, Po (vjs v k j)
  | 0 => p
  | j + 1 => (vjs_ok hk p j).div (by omega)
section
variable {C : Ctx} {pn : Nat → Str} {k : Nat} {M : List (List Int)} {G : List Int}
theorem naming_u {ln : Nat → Str} (tk : TakeF C) (nf : NumF C) (fu : 1000 < C.fuel) (k1 : 1 ≤ k) (k20 : k ≤ 20) (ml : M.length = k) (gl : G.length = k) (gb : ∀ j, j < k → 0 ≤ G.getD j 0 ∧ G.getD j 0 ≤ 10 ^ 60)
    (pr : ∀ a : Int, 0 ≤ a → ∃ r, (∀ p, r = some p → PairOk M p) ∧ Fu (C.call 204) [.lst (M.map intsU), .int a] (pairR r))
    {v way most : Int} (p : Po v) (hw : 5 ≤ way ∧ way ≤ 7) (hm : 1 ≤ most ∧ most ≤ 10 ^ 18) :
    ∃ q v', NamOk k M G most q ∧ Po v' ∧ FnO (runFn C f_l_naming) [.o (poU v), .s (.int way), .s (.lst ((List.range k).map fun j => U.str (pn j))), .s (.lst (M.map intsU)), .s (intsU G), .s (.int most)] (q.u ln pn) [.o (poU v'), .s (.int way), .s (.lst ((List.range k).map fun j => U.str (pn j))), .s (.lst (M.map intsU)), .s (intsU G), .s (.int most)] := by
  have b300 : ∀ z : Int, z.natAbs ≤ 10 ^ 40 → z.natAbs ≤ 10 ^ 300 := fun z h => Nat.le_trans h (Nat.pow_le_pow_right (by decide) (by decide))
  have b300' : ∀ z : Int, z.natAbs ≤ 10 ^ 80 → z.natAbs ≤ 10 ^ 300 := fun z h => Nat.le_trans h (Nat.pow_le_pow_right (by decide) (by decide))
  obtain ⟨NU, hNU⟩ : ∃ NU, NU = U.lst ((List.range k).map fun j => U.str (pn j)) := ⟨_, rfl⟩
  obtain ⟨MU, hMU⟩ : ∃ MU, MU = U.lst (M.map intsU) := ⟨_, rfl⟩
  have lb : B1 bLen [NU] (.int (k : Int)) := by
    have := b_lenl (us := (List.range k).map fun j => U.str (pn j)); rwa [List.length_map, List.length_range, ← hNU] at this
  have ixN : ∀ j : Nat, j < k → O2 opIx NU (.int (j : Int)) (.str (pn j)) := fun j hj => by
    rw [hNU]; exact o_ixl (at_nat (by rw [List.getElem?_map, List.getElem?_range hj]; rfl))
  have ixG : ∀ j : Nat, j < k → O2 opIx (intsU G) (.int (j : Int)) (.int (G.getD j 0)) := fun j hj => o_ixl (at_nat (by rw [List.getElem?_map, get_getD 0 (by omega)]; rfl))
  have kp : (0 : Int) < (k : Int) := by omega
  have kb : ((k : Int)).natAbs ≤ 10 ^ 300 := b300 _ (by omega)
  rw [← hNU, ← hMU]
  have outs : ∀ (v' : Int) (pe : List Sl), pe[0]? = some (.o (poU v')) → Outs [0] [.o (poU v), .s (.int way), .s NU, .s MU, .s (intsU G), .s (.int most)] pe [.o (poU v'), .s (.int way), .s NU, .s MU, .s (intsU G), .s (.int most)] := fun v' pe h => outs0 (us := [.int way, NU, MU, intsU G, .int most]) h
  have w5 : O2 opEq (.int way) (.int 5) (.bl (decide (way = 5))) := o_eq
  have w6 : O2 opEq (.int way) (.int 6) (.bl (decide (way = 6))) := o_eq
  by_cases c5 : way = 5
  · rw [decide_eq_true c5] at w5
    obtain ⟨n, hn⟩ : ∃ n : Nat, (n : Int) = 1 + v % 4 := ⟨(1 + v % 4).toNat, Int.toNat_of_nonneg (by have := Int.emod_nonneg v (show (4 : Int) ≠ 0 by decide); omega)⟩
    have n4 := Int.emod_lt_of_pos v (show (0 : Int) < 4 by decide)
    have n0 := Int.emod_nonneg v (show (4 : Int) ≠ 0 by decide)
    have p4 := p.div (show (0 : Int) < 4 by omega)
    have po := vjs_ok k1 p4
    have hm' : Xz C [.o (poU v), .s (.int way), .s NU, .s MU, .s (intsU G), .s (.int most), .n, .n, .n, .n, .n] (eOp opAdd (eC (.int 1)) (eCall 180 (aC (eV 0) (aC (eC (.int 4)) aN)) [])) (.int (n : Int)) [.o (poU (v / 4)), .s (.int way), .s NU, .s MU, .s (intsU G), .s (.int most), .n, .n, .n, .n, .n] := by
      rw [hn]
      exact z_op x_ci.z (z_take tk rfl x_ci p (by omega) (b300 _ (by decide)) to0) o_add
    have r62 : Rg62 (n : Int) := ⟨by omega, by omega⟩
    obtain ⟨ix, hix⟩ : ∃ ix : Nat → Nat, ∀ j, (ix j : Int) = vjs (v / 4) k j % (k : Int) := ⟨fun j => (vjs (v / 4) k j % (k : Int)).toNat, fun j => Int.toNat_of_nonneg (Int.emod_nonneg _ (by omega))⟩
    have ixl : ∀ j, ix j < k := fun j => by
      have := Int.emod_lt_of_pos (vjs (v / 4) k j) kp
      have := hix j
      omega
    have LC : Xz C [.o (poU v), .s (.int way), .s NU, .s MU, .s (intsU G), .s (.int most), .n, .n, .n, .n, .n] (eLc [9] (gN 9) (iR1 (eOp opAdd (eC (.int 1)) (eCall 180 (aC (eV 0) (aC (eC (.int 4)) aN)) []))) tY (eOp opIx (eV 2) (eCall 180 (aC (eV 0) (aC (eBf bLen (aC (eV 2) aN)) aN)) []))) (.lst ((List.range n).map fun j => U.str (pn (ix j)))) [.o (poU (vjs (v / 4) k n)), .s (.int way), .s NU, .s MU, .s (intsU G), .s (.int most), .n, .n, .n, .n, .n] := by
      refine z_lcn (S := fun j => [.o (poU (vjs (v / 4) k j)), .s (.int way), .s NU, .s MU, .s (intsU G), .s (.int most), .n, .n, .n, .n, .n]) hm' r62 ?_ (sz_le (by omega)) (by omega) (fun j hj => ?_) (fun j _ => rfl) (fun x hx => ?_)
      · show WipN _ _ [.o (poU (v / 4)), _, _, _, _, _, _, _, _, _, _]
        (repeat first | fail "p" | fail)
      · refine ⟨[.o (poU (vjs (v / 4) k j)), .s (.int way), .s NU, .s MU, .s (intsU G), .s (.int most), .n, .n, .n, .s (.int (j : Nat)), .n], [.o (poU (vjs (v / 4) k (j + 1))), .s (.int way), .s NU, .s MU, .s (intsU G), .s (.int most), .n, .n, .n, .s (.int (j : Nat)), .n], by (repeat first | fail "p" | fail), ?_, by (repeat first | fail "p" | fail)⟩
        have TK : Xz C [.o (poU (vjs (v / 4) k j)), .s (.int way), .s NU, .s MU, .s (intsU G), .s (.int most), .n, .n, .n, .s (.int (j : Nat)), .n] (eCall 180 (aC (eV 0) (aC (eBf bLen (aC (eV 2) aN)) aN)) []) (.int (ix j : Nat)) [.o (poU (vjs (v / 4) k (j + 1))), .s (.int way), .s NU, .s MU, .s (intsU G), .s (.int most), .n, .n, .n, .s (.int (j : Nat)), .n] := by
          rw [hix j]
          exact z_take tk rfl (x_bf (u_c (x_v rfl).top u_n) lb) (po j) kp kb to0
        exact z_op (x_v rfl).z TK (ixN (ix j) (ixl j))
      · rw [List.mem_singleton.mp hx]; rfl
    refine ⟨.row ((List.range n).map ix), vjs (v / 4) k n, ⟨by rw [List.length_map, List.length_range]; omega, by rw [List.length_map, List.length_range]; omega, fun j hj => ?_⟩, po n, ?_⟩
    · obtain ⟨i, _, rfl⟩ := List.mem_map.mp hj
      exact ixl i
    · have e : Pt.u ln pn (.row ((List.range n).map ix)) = .tup [.str "row", .tup ((List.range n).map fun j => U.str (pn (ix j)))] := by
        show U.tup [_, .tup (((List.range n).map ix).map _)] = _
        rw [List.map_map]; rfl
      rw [e]
      have RT : Xs C [0] [.o (poU v), .s (.int way), .s NU, .s MU, .s (intsU G), .s (.int most), .n, .n, .n, .n, .n] (sRt (eTup (aC (eC (.str "row")) (aC (eBf bTup (aC (eLc [9] (gN 9) (iR1 (eOp opAdd (eC (.int 1)) (eCall 180 (aC (eV 0) (aC (eC (.int 4)) aN)) []))) tY (eOp opIx (eV 2) (eCall 180 (aC (eV 0) (aC (eBf bLen (aC (eV 2) aN)) aN)) []))) aN)) aN)))) (.rt (.tup [.str "row", .tup ((List.range n).map fun j => U.str (pn (ix j)))]) [.o (poU (vjs (v / 4) k n)), .s (.int way), .s NU, .s MU, .s (intsU G), .s (.int most), .n, .n, .n, .n, .n]) :=
        s_rtz (z_tup (za_c x_cs.z (za_c (z_bf (za_c LC za_n) b_tupl) za_n)) (sz_le (by show 2 ≤ 1000000; decide)))
      refine Z.fo_of (io := [0]) rfl (by simp only [List.map_cons, List.map_nil, List.length_cons, List.length_nil, List.cons_append, List.nil_append, Nat.reduceAdd, Nat.reduceSub, List.replicate_succ, List.replicate_zero]; exact rfl) ?_
      (repeat first | fail "p" | with_reducible exact w5 | with_reducible exact RT | fail)
      exact outs _ _ rfl
  · rw [decide_eq_false c5] at w5
    by_cases c6 : way = 6
    · rw [decide_eq_true c6] at w6
      have kk : O2 opMul (.int (k : Int)) (.int (k : Int)) (.int ((k : Int) * (k : Int))) := o_mul (mulOk_sm (b300 _ (by omega)) (b300 _ (by omega)))
      have kk0 : 0 < (k : Int) * (k : Int) := Int.mul_pos kp kp
      have kk1 : (k : Int) * (k : Int) ≤ 20 * 20 := Int.mul_le_mul (by omega) (by omega) (by omega) (by omega)
      obtain ⟨kq, hkq⟩ : ∃ kq, kq = (k : Int) * (k : Int) := ⟨_, rfl⟩
      rw [← hkq] at kk kk0 kk1
      have pk := p.div kk0
      obtain ⟨r, rok, F⟩ := pr (v % kq) (Int.emod_nonneg _ (by omega))
      rw [← hMU] at F
      have AS : Xs C [0] [.o (poU v), .s (.int way), .s NU, .s MU, .s (intsU G), .s (.int most), .n, .n, .n, .n, .n] (sAs (gN 6) (eCall 204 (aC (eV 3) (aC (eCall 180 (aC (eV 0) (aC (eOp opMul (eBf bLen (aC (eV 2) aN)) (eBf bLen (aC (eV 2) aN))) aN)) []) aN)) [])) (.nx [.o (poU (v / kq)), .s (.int way), .s NU, .s MU, .s (intsU G), .s (.int most), .s (pairR r), .n, .n, .n, .n]) := by
        refine s_asz (z_callp (za_c (x_v rfl).z (za_c (z_take tk rfl ?_ p kk0 (b300 _ (by omega)) to0) za_n)) F) (tp_n (tsS (tsS (tsS (tsS (tsS (tsS ts0)))))) (by decide))
        (repeat first | fail "p" | with_reducible exact lb | with_reducible exact kk | fail)
      cases r with
      | none =>
        have nok := numP_ok pk (show 0 < most by omega)
        refine ⟨.hold (1 + (numP (v / kq) most).1), (numP (v / kq) most).2, ⟨by omega, by omega⟩, nok.2.2, ?_⟩
        have AS : Xs C [0] [.o (poU v), .s (.int way), .s NU, .s MU, .s (intsU G), .s (.int most), .n, .n, .n, .n, .n] (sAs (gN 6) (eCall 204 (aC (eV 3) (aC (eCall 180 (aC (eV 0) (aC (eOp opMul (eBf bLen (aC (eV 2) aN)) (eBf bLen (aC (eV 2) aN))) aN)) []) aN)) [])) (.nx [.o (poU (v / kq)), .s (.int way), .s NU, .s MU, .s (intsU G), .s (.int most), .s .non, .n, .n, .n, .n]) := AS
        have RT : Xs C [0] [.o (poU (v / kq)), .s (.int way), .s NU, .s MU, .s (intsU G), .s (.int most), .s .non, .n, .n, .n, .n] (sRt (eTup (aC (eC (.str "hold")) (aC (eOp opAdd (eC (.int 1)) (eCall 203 (aC (eV 0) (aC (eV 5) aN)) [])) aN)))) (.rt (.tup [.str "hold", .int (1 + (numP (v / kq) most).1)]) [.o (poU (numP (v / kq) most).2), .s (.int way), .s NU, .s MU, .s (intsU G), .s (.int most), .s .non, .n, .n, .n, .n]) :=
          s_rtz (z_tup (za_c x_cs.z (za_c (z_op x_ci.z (z_num nf rfl (x_v rfl) pk (by omega) (b300 _ (by omega)) to0) o_add) za_n)) (sz_le (by show 2 ≤ 1000000; decide)))
        show FnO _ _ (.tup [.str "hold", .int (1 + (numP (v / kq) most).1)]) _
        refine Z.fo_of (io := [0]) rfl (by simp only [List.map_cons, List.map_nil, List.length_cons, List.length_nil, List.cons_append, List.nil_append, Nat.reduceAdd, Nat.reduceSub, List.replicate_succ, List.replicate_zero]; exact rfl) ?_
        (repeat first | fail "p" | with_reducible exact w5 | with_reducible exact w6 | with_reducible exact AS | with_reducible exact RT | fail)
        exact outs _ _ rfl
      | some pq =>
        have pok := rok pq rfl
        obtain ⟨a, b⟩ := pq
        have al : a < k := by have := pok.1; dsimp only at this; omega
        have bl : b < k := by have := pok.2.1; dsimp only at this; omega
        refine ⟨.side [a, b], v / kq, ⟨a, b, rfl, pok⟩, pk, ?_⟩
        have AS : Xs C [0] [.o (poU v), .s (.int way), .s NU, .s MU, .s (intsU G), .s (.int most), .n, .n, .n, .n, .n] (sAs (gN 6) (eCall 204 (aC (eV 3) (aC (eCall 180 (aC (eV 0) (aC (eOp opMul (eBf bLen (aC (eV 2) aN)) (eBf bLen (aC (eV 2) aN))) aN)) []) aN)) [])) (.nx [.o (poU (v / kq)), .s (.int way), .s NU, .s MU, .s (intsU G), .s (.int most), .s (.tup [.int (a : Nat), .int (b : Nat)]), .n, .n, .n, .n]) := AS
        have LC : Xf C [.o (poU (v / kq)), .s (.int way), .s NU, .s MU, .s (intsU G), .s (.int most), .s (.tup [.int (a : Nat), .int (b : Nat)]), .n, .n, .n, .n] (eLc [10] (gN 10) (iA (eV 6)) tY (eOp opIx (eV 2) (eV 10))) (.lst ([a, b].map fun j => U.str (pn j))) := by
          apply f_lcm (f := fun j : Nat => .int (j : Nat)) (xs := [a, b])
          case hi => exact Xi.j (i_t (x_v rfl))
          case hw => (repeat first | fail "p" | fail)
          case hn => exact sz_le (by show 2 ≤ 1000000; decide)
          case fu => show 2 < C.fuel; omega
          case hs =>
            intro j hj
            have jl : j < k := by
              simp only [List.mem_cons, List.not_mem_nil, or_false] at hj
              rcases hj with rfl | rfl <;> assumption
            have := ixN j jl
            exact ⟨_, by (repeat first | fail "p" | fail), by (repeat first | fail "p" | with_reducible exact this | fail)⟩
        show FnO _ _ (.tup [.str "side", .tup ([a, b].map fun j => U.str (pn j))]) _
        generalize ([a, b].map fun j => U.str (pn j)) = W at LC ⊢
        refine Z.fo_of (io := [0]) rfl (by simp only [List.map_cons, List.map_nil, List.length_cons, List.length_nil, List.cons_append, List.nil_append, Nat.reduceAdd, Nat.reduceSub, List.replicate_succ, List.replicate_zero]; exact rfl) ?_
        (repeat first | fail "p" | with_reducible exact w5 | with_reducible exact w6 | with_reducible exact AS | with_reducible exact LC.p.top | with_reducible exact LC.p | with_reducible exact LC | fail)
        exact outs _ _ rfl
    · rw [decide_eq_false c6] at w6
      obtain ⟨a, ha⟩ : ∃ a : Nat, (a : Int) = v % (k : Int) := ⟨(v % (k : Int)).toNat, Int.toNat_of_nonneg (Int.emod_nonneg _ (by omega))⟩
      have al : a < k := by have := Int.emod_lt_of_pos v kp; omega
      have pk := p.div kp
      have nok := numP_ok pk (show 0 < most by omega)
      obtain ⟨t, ht⟩ : ∃ t, t = 1 + (numP (v / (k : Int)) most).1 := ⟨_, rfl⟩
      obtain ⟨g0, g1⟩ := gb a al
      have ixa := ixN a al
      have ixg := ixG a al
      obtain ⟨g, hg⟩ : ∃ g, g = G.getD a 0 := ⟨_, rfl⟩
      rw [← hg] at g0 g1 ixg
      have S7 : Xs C [0] [.o (poU v), .s (.int way), .s NU, .s MU, .s (intsU G), .s (.int most), .n, .n, .n, .n, .n] (sAs (gN 7) (eCall 180 (aC (eV 0) (aC (eBf bLen (aC (eV 2) aN)) aN)) [])) (.nx [.o (poU (v / (k : Int))), .s (.int way), .s NU, .s MU, .s (intsU G), .s (.int most), .n, .s (.int (a : Nat)), .n, .n, .n]) := by
        rw [ha]
        exact s_asz (z_take tk rfl (x_bf (u_c (x_v rfl).top u_n) lb) p kp kb to0) (tp_n (tsS (tsS (tsS (tsS (tsS (tsS (tsS ts0))))))) (by decide))
      have S8 : Xs C [0] [.o (poU (v / (k : Int))), .s (.int way), .s NU, .s MU, .s (intsU G), .s (.int most), .n, .s (.int (a : Nat)), .n, .n, .n] (sAs (gN 8) (eOp opAdd (eC (.int 1)) (eCall 203 (aC (eV 0) (aC (eV 5) aN)) []))) (.nx [.o (poU (numP (v / (k : Int)) most).2), .s (.int way), .s NU, .s MU, .s (intsU G), .s (.int most), .n, .s (.int (a : Nat)), .s (.int t), .n, .n]) := by
        rw [ht]
        exact s_asz (z_op x_ci.z (z_num nf rfl (x_v rfl) pk (by omega) (b300 _ (by omega)) to0) o_add) (tp_n (tsS (tsS (tsS (tsS (tsS (tsS (tsS (tsS ts0)))))))) (by decide))
      have p40 : O2 opPow (.int 10) (.int 40) (.int 10000000000000000000000000000000000000000) := o_pow (by decide)
      have ml2 : O2 opMul (.int t) (.int g) (.int (t * g)) := o_mul (mulOk_sm (b300 _ (by omega)) (b300' _ (by omega)))
      by_cases cb : 10000000000000000000000000000000000000000 < t * g
      · have GT : O2 opGt (.int (t * g)) (.int 10000000000000000000000000000000000000000) (.bl true) := by have := o_gt (p := t * g) (q := 10000000000000000000000000000000000000000); rwa [decide_eq_true cb] at this
        have m0 := Int.emod_nonneg t (show (3 : Int) ≠ 0 by decide)
        have m1 := Int.emod_lt_of_pos t (show (0 : Int) < 3 by decide)
        have md : O2 opMod (.int t) (.int 3) (.int (t % 3)) := o_mod (by decide)
        refine ⟨.again (1 + t % 3) a, (numP (v / (k : Int)) most).2, ⟨by omega, by omega, al, .inr (by omega)⟩, nok.2.2, ?_⟩
        show FnO _ _ (.tup [.str "again", .int (1 + t % 3), .str (pn a)]) _
        refine Z.fo_of (io := [0]) rfl (by simp only [List.map_cons, List.map_nil, List.length_cons, List.length_nil, List.cons_append, List.nil_append, Nat.reduceAdd, Nat.reduceSub, List.replicate_succ, List.replicate_zero]; exact rfl) ?_
        (repeat first | fail "p" | with_reducible exact w5 | with_reducible exact w6 | with_reducible exact S7 | with_reducible exact S8 | with_reducible exact p40 | with_reducible exact ml2 | with_reducible exact GT | with_reducible exact md | with_reducible exact ixa | with_reducible exact ixg | fail)
        exact outs _ _ rfl
      · have GT : O2 opGt (.int (t * g)) (.int 10000000000000000000000000000000000000000) (.bl false) := by have := o_gt (p := t * g) (q := 10000000000000000000000000000000000000000); rwa [decide_eq_false cb] at this
        refine ⟨.again t a, (numP (v / (k : Int)) most).2, ⟨by omega, by omega, al, .inl (by rw [← hg]; omega)⟩, nok.2.2, ?_⟩
        show FnO _ _ (.tup [.str "again", .int t, .str (pn a)]) _
        refine Z.fo_of (io := [0]) rfl (by simp only [List.map_cons, List.map_nil, List.length_cons, List.length_nil, List.cons_append, List.nil_append, Nat.reduceAdd, Nat.reduceSub, List.replicate_succ, List.replicate_zero]; exact rfl) ?_
        (repeat first | fail "p" | with_reducible exact w5 | with_reducible exact w6 | with_reducible exact S7 | with_reducible exact S8 | with_reducible exact p40 | with_reducible exact ml2 | with_reducible exact GT | with_reducible exact ixa | with_reducible exact ixg | fail)
        exact outs _ _ rfl
end
/-! a form, drawn -/
/-- what is drawn: a form over k parts and nl limbs, the ring's word of ws -/
def FormOk (nl k : Nat) (ws : List Str) (M : List (List Int)) (G : List Int) (most : Int) : Pt → Prop
  | .raise l t b => l < nl ∧ 0 ≤ t ∧ t ≤ most ∧ 1 ≤ b ∧ b ≤ most
  | .ring w b => w ∈ ws ∧ 1 ≤ b ∧ b ≤ most
  | p => NamOk k M G most p
def NamF (C : Ctx) (ln : Nat → Str) : Prop := ∀ (pn : Nat → Str) (k : Nat) (M : List (List Int)) (G : List Int) (v way most : Int), 1 ≤ k → k ≤ 20 → M.length = k → G.length = k → (∀ m ∈ M, m.length ≤ 8) → (∀ j, j < k → 0 ≤ G.getD j 0 ∧ G.getD j 0 ≤ 10 ^ 60) → Po v → (5 ≤ way ∧ way ≤ 7) → (1 ≤ most ∧ most ≤ 10 ^ 18) →
  ∃ q v', NamOk k M G most q ∧ Po v' ∧ FnO (C.call 205) [.o (poU v), .s (.int way), .s (.lst ((List.range k).map fun j => U.str (pn j))), .s (.lst (M.map intsU)), .s (intsU G), .s (.int most)] (q.u ln pn) [.o (poU v'), .s (.int way), .s (.lst ((List.range k).map fun j => U.str (pn j))), .s (.lst (M.map intsU)), .s (intsU G), .s (.int most)]
theorem names_range {B : Bk} : B.P.map (fun x => U.str x.1) = (List.range B.P.length).map fun j => U.str (B.pn j) := by
  apply List.ext_getElem?
  intro j
  rw [List.getElem?_map, List.getElem?_map]
  by_cases h : j < B.P.length
  · rw [Bk.P_at h, List.getElem?_range h]; rfl
  · rw [List.getElem?_eq_none (by omega), List.getElem?_eq_none (by rw [List.length_range]; omega)]; rfl
theorem form_u {C : Ctx} {B : Bk} {M : List (List Int)} {G : List Int} (tk : TakeF C) (nf : NumF C) (na : NamF C B.ln) (fu : 1000 < C.fuel) (l1 : 1 ≤ B.L.length ∧ B.L.length ≤ 8) (p20 : B.P.length ≤ 20) (ml : M.length = B.P.length) (m8 : ∀ m ∈ M, m.length ≤ 8) (gl : G.length = B.P.length) (gb : ∀ j, j < B.P.length → 0 ≤ G.getD j 0 ∧ G.getD j 0 ≤ 10 ^ 60) (ps : ∀ x ∈ B.P, PyData.strOk x.1 = true)
    {v most : Int} (p : Po v) (hm : 1 ≤ most ∧ most ≤ 10 ^ 18) :
    ∃ q v', FormOk B.L.length B.P.length (([("bell" : Str), "bells", "gong"] : List Str) ++ (B.P.take 2).map (·.1)) M G most q ∧ Po v' ∧ FnO (runFn C f_l_form) [.o (poU v), .s B.u, .s (.lst (M.map intsU)), .s (intsU G), .s (.int most)] (q.u B.ln B.pn) [.o (poU v'), .s B.u, .s (.lst (M.map intsU)), .s (intsU G), .s (.int most)] := by
  have b300 : ∀ z : Int, z.natAbs ≤ 10 ^ 40 → z.natAbs ≤ 10 ^ 300 := fun z h => Nat.le_trans h (Nat.pow_le_pow_right (by decide) (by decide))
  obtain ⟨BU, hBU⟩ : ∃ BU, BU = B.u := ⟨_, rfl⟩
  obtain ⟨MU, hMU⟩ : ∃ MU, MU = U.lst (M.map intsU) := ⟨_, rfl⟩
  obtain ⟨NL, hNL⟩ : ∃ NL, NL = (List.range B.P.length).map fun j => U.str (B.pn j) := ⟨_, rfl⟩
  have ix0 : O2 opIx BU (.int 0) (.lst (B.L.map limbU)) := by rw [hBU]; exact o_ixt (at_int (by decide) rfl)
  have ix1 : O2 opIx BU (.int 1) (.lst (B.P.map (partU B.ln B.pn))) := by rw [hBU]; exact o_ixt (at_int (by decide) rfl)
  obtain ⟨way, hway⟩ : ∃ way, way = v % 8 := ⟨_, rfl⟩
  have wy0 := Int.emod_nonneg v (show (8 : Int) ≠ 0 by decide)
  have wy1 := Int.emod_lt_of_pos v (show (0 : Int) < 8 by decide)
  rw [← hway] at wy0 wy1
  have p8 := p.div (show (0 : Int) < 8 by omega)
  have LC : Xf C [.o (poU (v / 8)), .s BU, .s MU, .s (intsU G), .s (.int most), .s (.int way), .n, .n, .n, .n, .n, .n] (eLc [11] (gN 11) (iA (eOp opIx (eV 1) (eC (.int 1)))) tY (eOp opIx (eV 11) (eC (.int 0)))) (.lst NL) := by
    rw [hNL, ← names_range]
    apply f_lcm (f := partU B.ln B.pn) (xs := B.P)
    case hi => (repeat first | fail "p" | with_reducible exact ix1 | fail)
    case hw => (repeat first | fail "p" | fail)
    case hn => exact sz_le (by omega)
    case fu => omega
    case hs => intro x hx; exact ⟨_, by (repeat first | fail "p" | fail), by (repeat first | fail "p" | fail)⟩
  have cN : Cl 1 (.lst NL) := .lst fun u hu => by
    rw [hNL, ← names_range] at hu
    obtain ⟨x, hx, rfl⟩ := List.mem_map.mp hu; exact .str (ps x hx)
  have c0 : Cl 1 (.lst []) := .lst fun u hu => by cases hu
  have nlen : NL.length = B.P.length := by rw [hNL, List.length_map, List.length_range]
  have NE : O2 opNe (.lst NL) (.lst []) (.bl (decide (B.P.length ≠ 0))) := by
    by_cases h : B.P.length = 0
    · have e : NL = [] := List.length_eq_zero_iff.mp (nlen.trans h)
      rw [e, decide_eq_false (by simpa using h)]
      exact o_net c0 (by decide)
    · rw [decide_eq_true h]
      exact o_nef cN c0 (by decide) (by decide) fun e => by
        injection e with e
        rw [e] at nlen
        exact h nlen.symm
  have S5 : Xs C [0] [.o (poU v), .s BU, .s MU, .s (intsU G), .s (.int most), .n, .n, .n, .n, .n, .n, .n] (sAs (gN 5) (eCall 180 (aC (eV 0) (aC (eC (.int 8)) aN)) [])) (.nx [.o (poU (v / 8)), .s BU, .s MU, .s (intsU G), .s (.int most), .s (.int way), .n, .n, .n, .n, .n, .n]) := by
    rw [hway]
    exact s_asz (z_take tk rfl x_ci p (by omega) (b300 _ (by decide)) to0) (tp_n (tsS (tsS (tsS (tsS (tsS ts0))))) (by decide))
  have outs : ∀ (v' : Int) (pe : List Sl), pe[0]? = some (.o (poU v')) → Outs [0] [.o (poU v), .s BU, .s MU, .s (intsU G), .s (.int most)] pe [.o (poU v'), .s BU, .s MU, .s (intsU G), .s (.int most)] := fun v' pe h => outs0 (us := [BU, MU, intsU G, .int most]) h
  have w4 : O2 opGt (.int way) (.int 4) (.bl (decide (4 < way))) := o_gt
  have w3 : O2 opLt (.int way) (.int 3) (.bl (decide (way < 3))) := o_lt
  have we : O2 opEq (.int way) (.int 4) (.bl (decide (way = 4))) := o_eq
  rw [← hBU, ← hMU]
  by_cases c : 4 < way ∧ B.P.length ≠ 0
  · rw [decide_eq_true c.1] at w4
    rw [decide_eq_true c.2] at NE
    obtain ⟨q, v', qok, pv, F⟩ := na B.pn B.P.length M G (v / 8) way most (by omega) p20 ml gl m8 gb p8 (by omega) ⟨hm.1, by omega⟩
    rw [← hNL, ← hMU] at F
    have RT : Xs C [0] [.o (poU (v / 8)), .s BU, .s MU, .s (intsU G), .s (.int most), .s (.int way), .s (.lst NL), .n, .n, .n, .n, .n] (sRt (eCall 205 (aC (eV 0) (aC (eV 5) (aC (eV 6) (aC (eV 2) (aC (eV 3) (aC (eV 4) aN)))))) [])) (.rt (q.u B.ln B.pn) [.o (poU v'), .s BU, .s MU, .s (intsU G), .s (.int most), .s (.int way), .s (.lst NL), .n, .n, .n, .n, .n]) :=
      s_rtz (z_call (i := 0) (k := 0) rfl (q_o rfl (q_s (x_v rfl) (q_s (x_v rfl) (q_s (x_v rfl) (q_s (x_v rfl) (q_s (x_v rfl) q_n)))))) F (one0 (us := [.int way, .lst NL, MU, intsU G, .int most])) (one0 (us := [.int way, .lst NL, MU, intsU G, .int most])) to0)
    refine ⟨q, v', ?_, pv, ?_⟩
    · cases q <;> first | exact qok | exact False.elim qok
    · refine Z.fo_of (io := [0]) rfl (by simp only [List.map_cons, List.map_nil, List.length_cons, List.length_nil, List.cons_append, List.nil_append, Nat.reduceAdd, Nat.reduceSub, List.replicate_succ, List.replicate_zero]; exact rfl) ?_
      (repeat first | fail "p" | with_reducible exact S5 | with_reducible exact LC.p | with_reducible exact w4 | with_reducible exact NE | with_reducible exact RT | fail)
      exact outs _ _ rfl
  have cw : (4 < way ∧ B.P.length = 0) ∨ way ≤ 4 := by omega
  have IF1 : ∀ (A : MS), Xs C [0] [.o (poU (v / 8)), .s BU, .s MU, .s (intsU G), .s (.int most), .s (.int way), .s (.lst NL), .n, .n, .n, .n, .n] (sIf (tAn (tV (eOp opGt (eV 5) (eC (.int 4)))) (tV (eOp opNe (eV 6) (eLst aN)))) A sSk) (.nx [.o (poU (v / 8)), .s BU, .s MU, .s (intsU G), .s (.int most), .s (.int way), .s (.lst NL), .n, .n, .n, .n, .n]) := fun A => by
    rcases cw with ⟨h1, h2⟩ | h1
    · rw [decide_eq_true h1] at w4
      rw [decide_eq_false (by simpa using h2)] at NE
      (repeat first | fail "p" | with_reducible exact w4 | with_reducible exact NE | fail)
    · rw [decide_eq_false (by omega)] at w4
      (repeat first | fail "p" | with_reducible exact w4 | fail)
  have lL : B1 bLen [.lst (B.L.map limbU)] (.int (B.L.length : Int)) := by have := b_lenl (us := B.L.map limbU); rwa [List.length_map] at this
  by_cases c3 : way < 3
  · rw [decide_eq_true c3] at w3
    obtain ⟨l, hl⟩ : ∃ l : Nat, (l : Int) = v / 8 % (B.L.length : Int) := ⟨(v / 8 % (B.L.length : Int)).toNat, Int.toNat_of_nonneg (Int.emod_nonneg _ (by omega))⟩
    have ll : l < B.L.length := by have := Int.emod_lt_of_pos (v / 8) (show (0 : Int) < (B.L.length : Int) by omega); omega
    have pl := p8.div (show (0 : Int) < (B.L.length : Int) by omega)
    have ixl : O2 opIx (.lst (B.L.map limbU)) (.int (l : Int)) (limbU (B.ln l, (B.L.getD l ("", 0)).2)) := o_ixl (at_nat (by rw [List.getElem?_map, Bk.L_at ll]; rfl))
    have ixn : O2 opIx (limbU (B.ln l, (B.L.getD l ("", 0)).2)) (.int 0) (.str (B.ln l)) := o_ixt (at_int (by decide) rfl)
    have n1 := numP_ok pl (show 0 < most + 1 by omega)
    have n2 := numP_ok n1.2.2 (show 0 < most by omega)
    obtain ⟨t, ht⟩ : ∃ t, t = (numP (v / 8 / (B.L.length : Int)) (most + 1)).1 := ⟨_, rfl⟩
    obtain ⟨v2, hv2⟩ : ∃ v2, v2 = (numP (v / 8 / (B.L.length : Int)) (most + 1)).2 := ⟨_, rfl⟩
    rw [← hv2] at n2
    have S7 : Xs C [0] [.o (poU (v / 8)), .s BU, .s MU, .s (intsU G), .s (.int most), .s (.int way), .s (.lst NL), .n, .n, .n, .n, .n] (sAs (gN 7) (eOp opIx (eOp opIx (eOp opIx (eV 1) (eC (.int 0))) (eCall 180 (aC (eV 0) (aC (eBf bLen (aC (eOp opIx (eV 1) (eC (.int 0))) aN)) aN)) [])) (eC (.int 0)))) (.nx [.o (poU (v / 8 / (B.L.length : Int))), .s BU, .s MU, .s (intsU G), .s (.int most), .s (.int way), .s (.lst NL), .s (.str (B.ln l)), .n, .n, .n, .n]) := by
      have TK : Xz C [.o (poU (v / 8)), .s BU, .s MU, .s (intsU G), .s (.int most), .s (.int way), .s (.lst NL), .n, .n, .n, .n, .n] (eCall 180 (aC (eV 0) (aC (eBf bLen (aC (eOp opIx (eV 1) (eC (.int 0))) aN)) aN)) []) (.int (l : Int)) [.o (poU (v / 8 / (B.L.length : Int))), .s BU, .s MU, .s (intsU G), .s (.int most), .s (.int way), .s (.lst NL), .n, .n, .n, .n, .n] := by
        rw [hl]
        exact z_take tk rfl (by (repeat first | fail "p" | with_reducible exact ix0 | with_reducible exact lL | fail)) p8 (by omega) (b300 _ (by omega)) to0
      exact s_asz (z_op (z_op (x_op (x_v rfl).top x_ci.top ix0).z TK ixl) x_ci.z ixn) (tp_n (tsS (tsS (tsS (tsS (tsS (tsS (tsS ts0))))))) (by decide))
    have ad1 : O2 opAdd (.int most) (.int 1) (.int (most + 1)) := o_add
    have S8 : Xs C [0] [.o (poU (v / 8 / (B.L.length : Int))), .s BU, .s MU, .s (intsU G), .s (.int most), .s (.int way), .s (.lst NL), .s (.str (B.ln l)), .n, .n, .n, .n] (sAs (gN 8) (eCall 203 (aC (eV 0) (aC (eOp opAdd (eV 4) (eC (.int 1))) aN)) [])) (.nx [.o (poU v2), .s BU, .s MU, .s (intsU G), .s (.int most), .s (.int way), .s (.lst NL), .s (.str (B.ln l)), .s (.int t), .n, .n, .n]) := by
      rw [ht, hv2]
      exact s_asz (z_num nf rfl (by (repeat first | fail "p" | with_reducible exact ad1 | fail)) pl (by omega) (b300 _ (by omega)) to0) (tp_n (tsS (tsS (tsS (tsS (tsS (tsS (tsS (tsS ts0)))))))) (by decide))
    have RT : Xs C [0] [.o (poU v2), .s BU, .s MU, .s (intsU G), .s (.int most), .s (.int way), .s (.lst NL), .s (.str (B.ln l)), .s (.int t), .n, .n, .n] (sRt (eTup (aC (eC (.str "raise")) (aC (eV 7) (aC (eV 8) (aC (eOp opAdd (eC (.int 1)) (eCall 203 (aC (eV 0) (aC (eV 4) aN)) [])) aN)))))) (.rt (.tup [.str "raise", .str (B.ln l), .int t, .int (1 + (numP v2 most).1)]) [.o (poU (numP v2 most).2), .s BU, .s MU, .s (intsU G), .s (.int most), .s (.int way), .s (.lst NL), .s (.str (B.ln l)), .s (.int t), .n, .n, .n]) :=
      s_rtz (z_tup (za_c x_cs.z (za_c (x_v rfl).z (za_c (x_v rfl).z (za_c (z_op x_ci.z (z_num nf rfl (x_v rfl) (by rw [hv2]; exact n1.2.2) (by omega) (b300 _ (by omega)) to0) o_add) za_n)))) (sz_le (by show 4 ≤ 1000000; decide)))
    refine ⟨.raise l t (1 + (numP v2 most).1), (numP v2 most).2, ⟨ll, by omega, by omega, by omega, by omega⟩, n2.2.2, ?_⟩
    show FnO _ _ (.tup [.str "raise", .str (B.ln l), .int t, .int (1 + (numP v2 most).1)]) _
    refine Z.fo_of (io := [0]) rfl (by simp only [List.map_cons, List.map_nil, List.length_cons, List.length_nil, List.cons_append, List.nil_append, Nat.reduceAdd, Nat.reduceSub, List.replicate_succ, List.replicate_zero]; exact rfl) ?_
    (repeat first | fail "p" | with_reducible exact S5 | with_reducible exact LC.p | with_reducible exact IF1 _ | with_reducible exact w3 | with_reducible exact S7 | with_reducible exact S8 | with_reducible exact RT | fail)
    exact outs _ _ rfl
  · rw [decide_eq_false c3] at w3
    by_cases c4 : way = 4
    · rw [decide_eq_true c4] at we
      obtain ⟨ws, hws⟩ : ∃ ws, ws = ([("bell" : Str), "bells", "gong"] : List Str) ++ (B.P.take 2).map (·.1) := ⟨_, rfl⟩
      have wl : ws.length ≤ 5 ∧ 3 ≤ ws.length := by
        rw [hws, List.length_append, List.length_map, List.length_take]
        show 3 + _ ≤ 5 ∧ 3 ≤ 3 + _
        omega
      have sl : S3f (.lst NL) none (some 2) (.lst (((B.P.take 2).map (·.1)).map U.str)) := by
        have := sf_l (us := NL) (lo := none) (hi := some 2)
        have e : cutU NL none (some 2) = ((B.P.take 2).map (·.1)).map U.str := by
          have e1 : NL = B.P.map fun x => U.str x.1 := by rw [hNL, names_range]
          rw [e1, cutU_map]
          have s1 : HT.sIx B.P.length 0 none = 0 := HT.sIx_none _ _
          have s2 : HT.sIx B.P.length B.P.length (some 2) = min 2 B.P.length := HT.sIx_nat (n := B.P.length) (d := B.P.length) 2
          rw [s1, s2, List.drop_zero, Nat.sub_zero, List.map_map]
          show List.map _ (B.P.take (min 2 B.P.length)) = List.map _ (B.P.take 2)
          rw [show B.P.take (min 2 B.P.length) = B.P.take 2 by rw [List.take_eq_take_iff]; omega]
          rfl
        rw [e] at this
        exact this
      have ad : O2f opAdd (.lst [.str "bell", .str "bells", .str "gong"]) (.lst (((B.P.take 2).map (·.1)).map U.str)) (.lst (ws.map U.str)) := by
        have := of_addl (us := [.str "bell", .str "bells", .str "gong"]) (vs := ((B.P.take 2).map (·.1)).map U.str) (sz_le (by rw [List.length_map, List.length_map, List.length_take]; show 3 + _ ≤ 1000000; omega))
        rw [hws, List.map_append]
        exact this
      have lw : B1 bLen [.lst (ws.map U.str)] (.int (ws.length : Int)) := by have := b_lenl (us := ws.map U.str); rwa [List.length_map] at this
      obtain ⟨i, hi⟩ : ∃ i : Nat, (i : Int) = v / 8 % (ws.length : Int) := ⟨(v / 8 % (ws.length : Int)).toNat, Int.toNat_of_nonneg (Int.emod_nonneg _ (by omega))⟩
      have il : i < ws.length := by have := Int.emod_lt_of_pos (v / 8) (show (0 : Int) < (ws.length : Int) by omega); omega
      have gw : ws[i]? = some (ws.getD i "") := by rw [List.getD_eq_getElem?_getD, List.getElem?_eq_getElem il]; rfl
      have pw := p8.div (show (0 : Int) < (ws.length : Int) by omega)
      have n2 := numP_ok pw (show 0 < most by omega)
      have ixw : O2 opIx (.lst (ws.map U.str)) (.int (i : Int)) (.str (ws.getD i "")) := o_ixl (at_nat (by rw [List.getElem?_map, gw]; rfl))
      have S10 : Xs C [0] [.o (poU (v / 8)), .s BU, .s MU, .s (intsU G), .s (.int most), .s (.int way), .s (.lst NL), .n, .n, .s (.lst (ws.map U.str)), .n, .n] (sAs (gN 10) (eOp opIx (eV 9) (eCall 180 (aC (eV 0) (aC (eBf bLen (aC (eV 9) aN)) aN)) []))) (.nx [.o (poU (v / 8 / (ws.length : Int))), .s BU, .s MU, .s (intsU G), .s (.int most), .s (.int way), .s (.lst NL), .n, .n, .s (.lst (ws.map U.str)), .s (.str (ws.getD i "")), .n]) := by
        have TK : Xz C [.o (poU (v / 8)), .s BU, .s MU, .s (intsU G), .s (.int most), .s (.int way), .s (.lst NL), .n, .n, .s (.lst (ws.map U.str)), .n, .n] (eCall 180 (aC (eV 0) (aC (eBf bLen (aC (eV 9) aN)) aN)) []) (.int (i : Int)) [.o (poU (v / 8 / (ws.length : Int))), .s BU, .s MU, .s (intsU G), .s (.int most), .s (.int way), .s (.lst NL), .n, .n, .s (.lst (ws.map U.str)), .n, .n] := by
          rw [hi]
          exact z_take tk rfl (x_bf (u_c (x_v rfl).top u_n) lw) p8 (by omega) (b300 _ (by omega)) to0
        exact s_asz (z_op (x_v rfl).z TK ixw) (tp_n (tsS (tsS (tsS (tsS (tsS (tsS (tsS (tsS (tsS (tsS ts0)))))))))) (by decide))
      obtain ⟨v2, hv2⟩ : ∃ v2, v2 = v / 8 / (ws.length : Int) := ⟨_, rfl⟩
      rw [← hv2] at n2 pw S10
      have RT : Xs C [0] [.o (poU v2), .s BU, .s MU, .s (intsU G), .s (.int most), .s (.int way), .s (.lst NL), .n, .n, .s (.lst (ws.map U.str)), .s (.str (ws.getD i "")), .n] (sRt (eTup (aC (eC (.str "ring")) (aC (eV 10) (aC (eOp opAdd (eC (.int 1)) (eCall 203 (aC (eV 0) (aC (eV 4) aN)) [])) aN))))) (.rt (.tup [.str "ring", .str (ws.getD i ""), .int (1 + (numP v2 most).1)]) [.o (poU (numP v2 most).2), .s BU, .s MU, .s (intsU G), .s (.int most), .s (.int way), .s (.lst NL), .n, .n, .s (.lst (ws.map U.str)), .s (.str (ws.getD i "")), .n]) :=
        s_rtz (z_tup (za_c x_cs.z (za_c (x_v rfl).z (za_c (z_op x_ci.z (z_num nf rfl (x_v rfl) pw (by omega) (b300 _ (by omega)) to0) o_add) za_n))) (sz_le (by show 3 ≤ 1000000; decide)))
      refine ⟨.ring (ws.getD i "") (1 + (numP v2 most).1), (numP v2 most).2, ⟨hws ▸ List.mem_of_getElem? gw, by omega, by omega⟩, n2.2.2, ?_⟩
      show FnO _ _ (.tup [.str "ring", .str (ws.getD i ""), .int (1 + (numP v2 most).1)]) _
      refine Z.fo_of (io := [0]) rfl (by simp only [List.map_cons, List.map_nil, List.length_cons, List.length_nil, List.cons_append, List.nil_append, Nat.reduceAdd, Nat.reduceSub, List.replicate_succ, List.replicate_zero]; exact rfl) ?_
      (repeat first | fail "p" | with_reducible exact S5 | with_reducible exact LC.p | with_reducible exact IF1 _ | with_reducible exact w3 | with_reducible exact we | with_reducible exact sl | with_reducible exact sl.s3 | with_reducible exact ad.o2 | with_reducible exact ad | with_reducible exact S10 | with_reducible exact RT | fail)
      exact outs _ _ rfl
    · rw [decide_eq_false c4] at we
      have n2 := numP_ok p8 (show 0 < most by omega)
      have RT : Xs C [0] [.o (poU (v / 8)), .s BU, .s MU, .s (intsU G), .s (.int most), .s (.int way), .s (.lst NL), .n, .n, .n, .n, .n] (sRt (eTup (aC (eC (.str "hold")) (aC (eOp opAdd (eC (.int 1)) (eCall 203 (aC (eV 0) (aC (eV 4) aN)) [])) aN)))) (.rt (.tup [.str "hold", .int (1 + (numP (v / 8) most).1)]) [.o (poU (numP (v / 8) most).2), .s BU, .s MU, .s (intsU G), .s (.int most), .s (.int way), .s (.lst NL), .n, .n, .n, .n, .n]) :=
        s_rtz (z_tup (za_c x_cs.z (za_c (z_op x_ci.z (z_num nf rfl (x_v rfl) p8 (by omega) (b300 _ (by omega)) to0) o_add) za_n)) (sz_le (by show 2 ≤ 1000000; decide)))
      refine ⟨.hold (1 + (numP (v / 8) most).1), (numP (v / 8) most).2, ⟨by omega, by omega⟩, n2.2.2, ?_⟩
      show FnO _ _ (.tup [.str "hold", .int (1 + (numP (v / 8) most).1)]) _
      refine Z.fo_of (io := [0]) rfl (by simp only [List.map_cons, List.map_nil, List.length_cons, List.length_nil, List.cons_append, List.nil_append, Nat.reduceAdd, Nat.reduceSub, List.replicate_succ, List.replicate_zero]; exact rfl) ?_
      (repeat first | fail "p" | with_reducible exact S5 | with_reducible exact LC.p | with_reducible exact IF1 _ | with_reducible exact w3 | with_reducible exact we | with_reducible exact RT | fail)
      exact outs _ _ rfl
/-! flat data told by defs that things are lent to -/
/-- data that hold no places -/
inductive FlatT : U → Prop
  | int {i : Int} : FlatT (.int i)
  | str {x : Str} : FlatT (.str x)
  | tup {us : List U} : (∀ u ∈ us, FlatT u) → FlatT (.tup us)
/-! forms hold no places -/
theorem pu_flat {ln pn : Nat → Str} {p : Pt} : FlatT (p.u ln pn) := by
  have itq : ∀ js : List Nat, FlatT (.tup (js.map fun j => U.str (pn j))) := fun js => .tup fun u hu => by
    obtain ⟨j, _, rfl⟩ := List.mem_map.mp hu; exact .str
  have all : ∀ us : List U, (∀ u ∈ us, FlatT u) → FlatT (.tup us) := fun us h => .tup h
  cases p <;> refine all _ (fun u hu => ?_) <;> simp only [Pt.tag, Pt.its, List.mem_cons, List.not_mem_nil, or_false] at hu
  · rcases hu with rfl | rfl | rfl | rfl <;> first | exact .int | exact .str
  · rcases hu with rfl | rfl <;> first | exact .int | exact .str
  · rcases hu with rfl | rfl | rfl <;> first | exact .int | exact .str
  · rcases hu with rfl | rfl <;> first | exact .str | exact itq _
  · rcases hu with rfl | rfl <;> first | exact .str | exact itq _
  · rcases hu with rfl | rfl | rfl <;> first | exact .int | exact .str
/-! a part put behind a book: plain -/
def Bk.add (B : Bk) (x : Str × Pt) : Bk := ⟨B.L, B.P ++ [x]⟩
def nb1 (k : Nat) : Pt → List Nat
  | .row js => (List.range k).filter fun i => decide (i ∈ js)
  | .side js => (List.range k).filter fun i => decide (i ∈ js)
  | _ => []
/-- the parts' numbers that are gone through -/
def nbP (k : Nat) : Pt → List Nat
  | .again _ j => [j]
  | q => nb1 k q
def lbP : Pt → List Int
  | .raise l _ _ => [(l : Int)]
  | _ => []
def uni (M : List (List Int)) (acc : List Int) (i : Nat) : List Int := acc ++ (M.getD i []).filter fun z => decide (z ∉ acc)
def mvP (M : List (List Int)) (k : Nat) (q : Pt) : List Int := (nbP k q).foldl (uni M) (lbP q)
abbrev natsU (ks : List Nat) : U := .lst (ks.map fun j : Nat => U.int (j : Int))
section
variable {B : Bk} {x : Str × Pt}
theorem add_pn_lt {i : Nat} (h : i < B.P.length) : (B.add x).pn i = B.pn i := by
  unfold Bk.pn Bk.add
  rw [List.getD_eq_getElem?_getD, List.getD_eq_getElem?_getD, List.getElem?_append_left h]
theorem add_pn_eq : (B.add x).pn B.P.length = x.1 := by
  unfold Bk.pn Bk.add
  rw [List.getD_eq_getElem?_getD, List.getElem?_append_right (Nat.le_refl _), Nat.sub_self]; rfl
theorem add_pt_lt {i : Nat} (h : i < B.P.length) : (B.add x).pt i = B.pt i := by
  unfold Bk.pt Bk.add
  rw [List.getD_eq_getElem?_getD, List.getD_eq_getElem?_getD, List.getElem?_append_left h]
theorem add_pt_eq : (B.add x).pt B.P.length = x.2 := by
  unfold Bk.pt Bk.add
  rw [List.getD_eq_getElem?_getD, List.getElem?_append_right (Nat.le_refl _), Nat.sub_self]; rfl
theorem add_len : (B.add x).P.length = B.P.length + 1 := by unfold Bk.add; simp
theorem add_ln : (B.add x).ln = B.ln := rfl
theorem add_pts : (B.add x).pts = B.pts ++ [x.2] := by unfold Bk.pts Bk.add; simp
theorem add_lens : (B.add x).lens = B.lens ++ [lenF B.lens x.2] := by unfold Bk.lens; rw [add_pts, tab_snoc]
theorem add_mvs : (B.add x).mvs = B.mvs ++ [mvF B.mvs x.2] := by unfold Bk.mvs; rw [add_pts, tab_snoc]
theorem its_congr {ln pn pn' : Nat → Str} {p : Pt} (h : ∀ j ∈ p.js, pn j = pn' j) : p.u ln pn = p.u ln pn' := by
  have : p.its ln pn = p.its ln pn' := by
    cases p with
    | row js => exact congrArg (fun z => [U.tup z]) (List.map_congr_left fun j hj => congrArg U.str (h j hj))
    | side js => exact congrArg (fun z => [U.tup z]) (List.map_congr_left fun j hj => congrArg U.str (h j hj))
    | again z j => exact congrArg (fun z' => [U.int z, U.str z']) (h j (List.mem_cons_self ..))
    | _ => rfl
  show U.tup _ = U.tup _
  rw [this]
/-- each part names parts ahead of it -/
def Ahead (B : Bk) : Prop := ∀ i, i < B.P.length → ∀ j ∈ (B.pt i).js, j < i
theorem add_parts (a : Ahead B) (hx : ∀ j ∈ x.2.js, j < B.P.length) : (B.add x).P.map (partU (B.add x).ln (B.add x).pn) = B.P.map (partU B.ln B.pn) ++ [.tup [.str x.1, x.2.u B.ln B.pn]] := by
  have e1 : (B.add x).P = B.P ++ [x] := rfl
  rw [e1, List.map_append]
  congr 1
  · apply List.map_congr_left
    intro y hy
    obtain ⟨i, hi, e⟩ := List.getElem_of_mem hy
    have q := Bk.P_at hi
    have e2 : B.P[i]? = some y := by rw [List.getElem?_eq_getElem hi, e]
    rw [e2] at q
    cases q
    show U.tup [_, Pt.u _ _ _] = U.tup [_, Pt.u _ _ _]
    rw [add_ln, its_congr fun j hj => add_pn_lt (Nat.lt_trans (a i hi j hj) hi)]
  · show [U.tup [_, Pt.u _ _ _]] = _
    rw [add_ln, its_congr fun j hj => add_pn_lt (hx j hj)]
theorem pn_inj (nd : (B.P.map (·.1)).Nodup) {i j : Nat} (hi : i < B.P.length) (hj : j < B.P.length) (e : B.pn i = B.pn j) : i = j := by
  have h1 : (B.P.map (·.1))[i]? = some (B.pn i) := by rw [List.getElem?_map, Bk.P_at hi]; rfl
  have h2 : (B.P.map (·.1))[j]? = some (B.pn j) := by rw [List.getElem?_map, Bk.P_at hj]; rfl
  exact (List.getElem?_inj (by rw [List.length_map]; exact hi) nd).mp (by rw [h1, h2, e])
theorem ln_inj (nd : (B.L.map (·.1)).Nodup) {i j : Nat} (hi : i < B.L.length) (hj : j < B.L.length) (e : B.ln i = B.ln j) : i = j := by
  have h1 : (B.L.map (·.1))[i]? = some (B.ln i) := by rw [List.getElem?_map, Bk.L_at hi]; rfl
  have h2 : (B.L.map (·.1))[j]? = some (B.ln j) := by rw [List.getElem?_map, Bk.L_at hj]; rfl
  exact (List.getElem?_inj (by rw [List.length_map]; exact hi) nd).mp (by rw [h1, h2, e])
end
/-! sums and greatest ones over the numbers -/
theorem sum_filter0 {α : Type} {f : α → Int} {p : α → Bool} : ∀ {xs : List α}, (∀ x ∈ xs, p x = false → f x = 0) → ((xs.filter p).map f).sum = (xs.map f).sum
  | [], _ => rfl
  | x :: xs, h => by
    have ih := sum_filter0 (xs := xs) fun y hy => h y (List.mem_cons_of_mem _ hy)
    rw [List.filter_cons]
    cases e : p x with
    | true => rw [if_pos rfl, List.map_cons, List.map_cons, List.sum_cons, List.sum_cons, ih]
    | false => rw [if_neg (by simp), ih, List.map_cons, List.sum_cons, h x (List.mem_cons_self ..) e, Int.zero_add]
theorem sum_add {α : Type} {f g : α → Int} : ∀ {xs : List α}, (xs.map fun x => f x + g x).sum = (xs.map f).sum + (xs.map g).sum
  | [] => rfl
  | x :: xs => by
    rw [List.map_cons, List.map_cons, List.map_cons, List.sum_cons, List.sum_cons, List.sum_cons, sum_add (xs := xs)]; omega
theorem sum_zero {α : Type} {f : α → Int} : ∀ {xs : List α}, (∀ x ∈ xs, f x = 0) → (xs.map f).sum = 0
  | [], _ => rfl
  | x :: xs, h => by rw [List.map_cons, List.sum_cons, h x (List.mem_cons_self ..), sum_zero fun y hy => h y (List.mem_cons_of_mem _ hy)]; rfl
theorem sum_one {g : Nat → Int} {j : Nat} : ∀ {k : Nat}, j < k → ((List.range k).map fun i => if i = j then g i else 0).sum = g j
  | 0, h => absurd h (Nat.not_lt_zero _)
  | k + 1, h => by
    rw [List.range_succ, List.map_append, List.sum_append]
    by_cases c : j = k
    · subst c
      rw [sum_zero fun i hi => if_neg (by have := List.mem_range.mp hi; omega)]
      simp
    · rw [sum_one (show j < k by omega)]
      simp only [List.map_cons, List.map_nil, List.sum_cons, List.sum_nil]
      rw [if_neg fun e => c e.symm]; omega
/-- how often a number is among them -/
def cntN (i : Nat) (js : List Nat) : Int := ((js.filter fun j => decide (j = i)).length : Int)
theorem cntN_cons {i j : Nat} {js : List Nat} : cntN i (j :: js) = (if i = j then 1 else 0) + cntN i js := by
  unfold cntN
  rw [List.filter_cons]
  by_cases c : i = j
  · rw [if_pos (by simp [c]), if_pos c, List.length_cons]; omega
  · rw [if_neg (by simpa using fun e : j = i => c e.symm), if_neg c]; omega
theorem sum_nb {g : Nat → Int} {k : Nat} : ∀ {js : List Nat}, (∀ j ∈ js, j < k) → ((List.range k).map fun i => g i * cntN i js).sum = (js.map g).sum
  | [], _ => by rw [sum_zero fun i _ => by show g i * 0 = 0; rw [Int.mul_zero]]; rfl
  | j :: js, h => by
    have e : (fun i => g i * cntN i (j :: js)) = fun i => (if i = j then g i else 0) + g i * cntN i js := by
      funext i
      rw [cntN_cons, Int.mul_add]
      congr 1
      split
      · rw [Int.mul_one]
      · rw [Int.mul_zero]
    rw [e, sum_add, sum_one (h j (List.mem_cons_self ..)), sum_nb fun i hi => h i (List.mem_cons_of_mem _ hi), List.map_cons, List.sum_cons]
theorem sum_row {g : Nat → Int} {k : Nat} {js : List Nat} (h : ∀ j ∈ js, j < k) : (((List.range k).filter fun i => decide (i ∈ js)).map fun i => g i * cntN i js).sum = (js.map g).sum := by
  rw [sum_filter0 fun i _ c => ?_, sum_nb h]
  have c : i ∉ js := by simpa using c
  have : cntN i js = 0 := by
    unfold cntN
    rw [List.filter_eq_nil_iff.mpr fun j hj => by
      simp only [decide_eq_true_eq]; intro e; subst e; exact c hj]
    rfl
  rw [this, Int.mul_zero]
theorem max_set {xs ys : List Int} (h : ∀ z, z ∈ xs ↔ z ∈ ys) (hx : xs ≠ []) : maxL xs = maxL ys := by
  obtain ⟨m, e1, m1, u1⟩ := maxL_ex hx
  have hy : ys ≠ [] := fun e => by
    have := (h m).mp m1
    rw [e] at this; cases this
  obtain ⟨n, e2, m2, u2⟩ := maxL_ex hy
  have := u1 n ((h n).mpr m2)
  have := u2 m ((h m).mp m1)
  rw [e1, e2, show m = n by omega]
theorem max_side {g : Nat → Int} {k : Nat} {js : List Nat} (h : ∀ j ∈ js, j < k) (ne : js ≠ []) : maxL (((List.range k).filter fun i => decide (i ∈ js)).map g) = some ((maxL (js.map g)).getD 0) := by
  have nj : js.map g ≠ [] := fun e => ne (List.map_eq_nil_iff.mp e)
  obtain ⟨m, e1, _, _⟩ := maxL_ex nj
  rw [e1, Option.getD_some, ← e1]
  refine (max_set (fun z => ?_) nj).symm
  rw [List.mem_map, List.mem_map]
  constructor
  · rintro ⟨j, hj, rfl⟩
    exact ⟨j, List.mem_filter.mpr ⟨List.mem_range.mpr (h j hj), decide_eq_true hj⟩, rfl⟩
  · rintro ⟨j, hj, rfl⟩
    exact ⟨j, of_decide_eq_true (List.mem_filter.mp hj).2, rfl⟩
/-! what moves a limb -/
theorem uni_mem {M : List (List Int)} : ∀ {ks : List Nat} {acc : List Int} {z : Int}, z ∈ ks.foldl (uni M) acc ↔ z ∈ acc ∨ ∃ k ∈ ks, z ∈ M.getD k []
  | [], acc, z => by simp
  | k :: ks, acc, z => by
    rw [List.foldl_cons, uni_mem]
    unfold uni
    rw [List.mem_append, List.mem_filter]
    constructor
    · rintro ((h | h) | ⟨i, h1, h2⟩)
      · exact .inl h
      · exact .inr ⟨k, List.mem_cons_self .., h.1⟩
      · exact .inr ⟨i, List.mem_cons_of_mem _ h1, h2⟩
    · rintro (h | ⟨i, h1, h2⟩)
      · exact .inl (.inl h)
      · rcases List.mem_cons.mp h1 with e | e
        · subst e
          by_cases c : z ∈ acc
          · exact .inl (.inl c)
          · exact .inl (.inr ⟨h2, decide_eq_true c⟩)
        · exact .inr ⟨i, e, h2⟩
theorem uni_nd {M : List (List Int)} (h : ∀ m ∈ M, m.Nodup) : ∀ {ks : List Nat} {acc : List Int}, acc.Nodup → (ks.foldl (uni M) acc).Nodup
  | [], acc, a => a
  | k :: ks, acc, a => by
    rw [List.foldl_cons]
    apply uni_nd h
    unfold uni
    have mk : (M.getD k []).Nodup := by
      rw [List.getD_eq_getElem?_getD]
      cases e : M[k]? with
      | none => exact List.nodup_nil
      | some m => exact h m (List.mem_of_getElem? e)
    refine List.nodup_append.mpr ⟨a, mk.filter _, fun x hx y hy e => ?_⟩
    subst e
    exact (of_decide_eq_true (List.mem_filter.mp hy).2) hx
theorem nbP_mem {k : Nat} {q : Pt} (h : ∀ j ∈ q.js, j < k) {i : Nat} : i ∈ nbP k q ↔ i ∈ q.js := by
  have key : ∀ js : List Nat, (∀ j ∈ js, j < k) → (i ∈ (List.range k).filter (fun i => decide (i ∈ js)) ↔ i ∈ js) := fun js h => by
    rw [List.mem_filter, List.mem_range, decide_eq_true_iff]
    exact ⟨fun a => a.2, fun a => ⟨h i a, a⟩⟩
  cases q with
  | row js => exact key js h
  | side js => exact key js h
  | again z j => exact Iff.rfl
  | _ => exact Iff.rfl
theorem mvP_mem {M : List (List Int)} {k : Nat} {q : Pt} (h : ∀ j ∈ q.js, j < k) {z : Int} : z ∈ mvP M k q ↔ z ∈ lbP q ∨ ∃ j ∈ q.js, z ∈ M.getD j [] := by
  unfold mvP
  rw [uni_mem]
  refine or_congr Iff.rfl ⟨fun ⟨j, h1, h2⟩ => ⟨j, (nbP_mem h).mp h1, h2⟩, fun ⟨j, h1, h2⟩ => ⟨j, (nbP_mem h).mpr h1, h2⟩⟩
theorem mvF_mem {acc : List (List Int)} {q : Pt} {z : Int} : z ∈ mvF acc q ↔ z ∈ lbP q ∨ ∃ j ∈ q.js, z ∈ acc.getD j [] := by
  have key : ∀ js : List Nat, z ∈ srtI (uniq (js.flatMap fun j => acc.getD j [])) ↔ z ∈ ([] : List Int) ∨ ∃ j ∈ js, z ∈ acc.getD j [] := fun js => by
    rw [srt_mem, uniq_mem, List.mem_flatMap]
    simp
  cases q with
  | raise l t b => show z ∈ [(l : Int)] ↔ z ∈ [(l : Int)] ∨ ∃ j ∈ ([] : List Nat), _; simp
  | _ => exact key _
/-! a part put behind a book: the code -/
theorem o_intp {x : Str} {xs : List Str} (h : PyData.strOk x = true) (hs : ∀ y ∈ xs, PyData.strOk y = true) : O2 opIn (.str x) (.tup (xs.map U.str)) (.bl (decide (x ∈ xs))) := fun A hh dx dy b rx ry => by
  obtain ⟨ds, rfl, a⟩ := ry.tup
  have fl : ds.all flatD = true := List.all_eq_true.mpr fun d hd => by
    obtain ⟨j, hj⟩ := List.mem_iff_getElem?.mp hd
    obtain ⟨u, q2, r⟩ := a.getD hj
    rw [List.getElem?_map] at q2
    cases e : xs[j]? with
    | none => rw [e] at q2; cases q2
    | some y => rw [e] at q2; cases q2; rw [Rd.str_iff] at r; rw [r]; rfl
  have fx : flatD dx = true := by rw [rx.str]; rfl
  obtain ⟨z, e, i⟩ := inFlat_u rx ⟨0, .str h⟩ fx a (fun u hu => by
    obtain ⟨y, hy, rfl⟩ := List.mem_map.mp hu; exact ⟨0, .str (hs y hy)⟩) fl
  have mm : U.str x ∈ xs.map U.str ↔ x ∈ xs := by
    rw [List.mem_map]
    exact ⟨fun ⟨y, hy, e⟩ => by cases e; exact hy, fun h => ⟨x, h, rfl⟩⟩
  have : z = decide (x ∈ xs) := by
    rw [Bool.eq_iff_iff, decide_eq_true_iff, i, mm]
  subst this
  refine ⟨_, hh, ?_, Kq.refl, .bl⟩
  unfold opIn inD
  simp only [fx, fl, and_self, if_true, e]
theorem f_lcrn {C : Ctx} {pe pe0 : List Sl} {mi : MI} {g : Tg} {t : MT} {a : ME} {ws : List Nat} {n : Nat} {p : Nat → Bool} {out : Nat → U} (hi : Xj C pe mi (rngU 0 n)) (hw : WipN pe ws pe0) (hn : n ≤ sizeLine) (fu : n < C.fuel)
    (hs : ∀ j, j < n → ∃ pe1, Tn g pe0 (.int (j : Int)) pe1 ∧ Xb C pe1 t (p j) ∧ (p j = true → Xp C pe1 a (out j))) : Xf C pe (eLc ws g mi t a) (.lst (((List.range n).filter p).map out)) :=
  f_lcf (xs := List.range n) (f := fun j : Nat => .int (0 + (j : Int))) hi hw (by rwa [List.length_range]) (by rwa [List.length_range]) fun j hj => by rw [Int.zero_add]; exact hs j (List.mem_range.mp hj)
section
variable {C : Ctx} {B : Bk} {M : List (List Int)} {G : List Int}
/-- what is asked of a part that is put -/
structure PutOk (B : Bk) (M : List (List Int)) (G : List Int) (q : Pt) : Prop where
  ok : PtOk B.L.length B.P.length q
  nd : (B.P.map (·.1)).Nodup
  ln : (B.L.map (·.1)).Nodup
  l8 : B.L.length ≤ 8
  p20 : B.P.length ≤ 20
  ls : ∀ x ∈ B.L, PyData.strOk x.1 = true
  ps : ∀ x ∈ B.P, PyData.strOk x.1 = true
  ml : M.length = B.P.length
  m8 : ∀ m ∈ M, m.length ≤ 8
  gl : G.length = B.P.length
  gb : ∀ j, j < B.P.length → 0 ≤ G.getD j 0 ∧ G.getD j 0 ≤ 10 ^ 60
theorem uni_len (m8 : ∀ m ∈ M, m.length ≤ 8) : ∀ (ks : List Nat) (acc : List Int), (ks.foldl (uni M) acc).length ≤ acc.length + 8 * ks.length
  | [], acc => Nat.le_refl _
  | k :: ks, acc => by
    rw [List.foldl_cons]
    have h1 := uni_len m8 ks (uni M acc k)
    have h2 : (uni M acc k).length ≤ acc.length + 8 := by
      unfold uni
      rw [List.length_append]
      have h3 := List.length_filter_le (fun z => decide (z ∉ acc)) (M.getD k [])
      have h4 : (M.getD k []).length ≤ 8 := by
        rw [List.getD_eq_getElem?_getD]
        cases e : M[k]? with
        | none => exact Nat.zero_le _
        | some m => exact m8 m (List.mem_of_getElem? e)
      omega
    rw [List.length_cons]
    omega
/-- what goes on ahead of the changes -/
def putPre : MS := (sSq (sAs (gN 5) (eLc [7] (gN 7) (iR1 (eBf bLen (aC (eOp opIx (eV 0) (eC (.int 1))) aN))) (tAn (tV (eOp opIn (eOp opIx (eV 4) (eC (.int 0))) (eTup (aC (eC (.str "row")) (aC (eC (.str "side")) aN))))) (tV (eOp opIn (eOp opIx (eOp opIx (eOp opIx (eV 0) (eC (.int 1))) (eV 7)) (eC (.int 0))) (eOp opIx (eV 4) (eC (.int 1)))))) (eV 7))) (sSq (sIf (tV (eOp opEq (eOp opIx (eV 4) (eC (.int 0))) (eC (.str "again")))) (sAs (gN 5) (eLc [7] (gN 7) (iR1 (eBf bLen (aC (eOp opIx (eV 0) (eC (.int 1))) aN))) (tV (eOp opEq (eOp opIx (eOp opIx (eOp opIx (eV 0) (eC (.int 1))) (eV 7)) (eC (.int 0))) (eOp opIx (eV 4) (eC (.int 2))))) (eV 7))) sSk) (sSq (sAs (gNo 6) (eLc [7] (gN 7) (iR1 (eBf bLen (aC (eOp opIx (eV 0) (eC (.int 0))) aN))) (tAn (tV (eOp opEq (eOp opIx (eV 4) (eC (.int 0))) (eC (.str "raise")))) (tV (eOp opEq (eOp opIx (eOp opIx (eOp opIx (eV 0) (eC (.int 0))) (eV 7)) (eC (.int 0))) (eOp opIx (eV 4) (eC (.int 1)))))) (eV 7))) (sSq (sFo (gN 7) (iA (eV 5)) b_l_put_1) (sSq (sAs (gN 8) (eOp opIx (eV 4) (eUn opNeg (eC (.int 1))))) (sSq (sIf (tV (eOp opEq (eOp opIx (eV 4) (eC (.int 0))) (eC (.str "row")))) (sAs (gN 8) (eBf bSum (aC (eLc [7] (gN 7) (iA (eV 5)) tY (eOp opMul (eOp opIx (eV 2) (eV 7)) (eBf bLen (aC (eLc [10] (gN 10) (iA (eOp opIx (eV 4) (eC (.int 1)))) (tV (eOp opEq (eV 10) (eOp opIx (eOp opIx (eOp opIx (eV 0) (eC (.int 1))) (eV 7)) (eC (.int 0))))) (eV 10)) aN)))) aN))) sSk) (sSq (sIf (tV (eOp opEq (eOp opIx (eV 4) (eC (.int 0))) (eC (.str "side")))) (sAs (gN 8) (eBf bMax (aC (eLc [7] (gN 7) (iA (eV 5)) tY (eOp opIx (eV 2) (eV 7))) aN))) sSk) (sIf (tV (eOp opEq (eOp opIx (eV 4) (eC (.int 0))) (eC (.str "again")))) (sAs (gN 8) (eOp opMul (eOp opIx (eV 4) (eC (.int 1))) (eOp opIx (eV 2) (eOp opIx (eV 5) (eC (.int 0)))))) sSk))))))))
theorem put_pre (fu : 1000 < C.fuel) {q : Pt} (o : PutOk B M G q) {NM : U} :
    Xs C [0, 1, 2, 3, 4] [.s B.u, .s (.lst (M.map intsU)), .s (intsU G), .s NM, .s (q.u B.ln B.pn), .n, .n, .n, .n, .n, .n] putPre (.nx [.s B.u, .s (.lst (M.map intsU)), .s (intsU G), .s NM, .s (q.u B.ln B.pn), .s (natsU (nbP B.P.length q)), .o (intsU (mvP M B.P.length q)), .n, .s (.int (lenF G q)), .n, .n]) := by
  obtain ⟨BU, hBU⟩ : ∃ BU, BU = B.u := ⟨_, rfl⟩
  obtain ⟨MU, hMU⟩ : ∃ MU, MU = U.lst (M.map intsU) := ⟨_, rfl⟩
  obtain ⟨F, hF⟩ : ∃ F, F = q.u B.ln B.pn := ⟨_, rfl⟩
  obtain ⟨PU, hPU⟩ : ∃ PU, PU = U.lst (B.P.map (partU B.ln B.pn)) := ⟨_, rfl⟩
  obtain ⟨k, hk⟩ : ∃ k, k = B.P.length := ⟨_, rfl⟩
  obtain ⟨nl, hnl⟩ : ∃ nl, nl = B.L.length := ⟨_, rfl⟩
  have k20 : k ≤ 20 := hk ▸ o.p20
  have nl8 : nl ≤ 8 := hnl ▸ o.l8
  have b300 : ∀ z : Int, z.natAbs ≤ 10 ^ 80 → z.natAbs ≤ 10 ^ 300 := fun z h => Nat.le_trans h (Nat.pow_le_pow_right (by decide) (by decide))
  have ix0 : O2 opIx BU (.int 0) (.lst (B.L.map limbU)) := by rw [hBU]; exact o_ixt (at_int (by decide) rfl)
  have ix1 : O2 opIx BU (.int 1) PU := by rw [hBU, hPU]; exact o_ixt (at_int (by decide) rfl)
  have lP : B1 bLen [PU] (.int (k : Int)) := by rw [hPU, hk]; have := b_lenl (us := B.P.map (partU B.ln B.pn)); rwa [List.length_map] at this
  have lL : B1 bLen [.lst (B.L.map limbU)] (.int (nl : Int)) := by rw [hnl]; have := b_lenl (us := B.L.map limbU); rwa [List.length_map] at this
  have ixP : ∀ j, j < k → O2 opIx PU (.int (j : Int)) (partU B.ln B.pn (B.pn j, B.pt j)) := fun j hj => by
    rw [hPU]; exact o_ixl (at_nat (by rw [List.getElem?_map, Bk.P_at (hk ▸ hj)]; rfl))
  have ixPn : ∀ j, O2 opIx (partU B.ln B.pn (B.pn j, B.pt j)) (.int 0) (.str (B.pn j)) := fun j => o_ixt (at_int (by decide) rfl)
  have ixL : ∀ j, j < nl → O2 opIx (.lst (B.L.map limbU)) (.int (j : Int)) (limbU (B.ln j, (B.L.getD j ("", 0)).2)) := fun j hj => o_ixl (at_nat (by rw [List.getElem?_map, Bk.L_at (hnl ▸ hj)]; rfl))
  have ixLn : ∀ j, O2 opIx (limbU (B.ln j, (B.L.getD j ("", 0)).2)) (.int 0) (.str (B.ln j)) := fun j => o_ixt (at_int (by decide) rfl)
  have ixG : ∀ j : Nat, j < k → O2 opIx (intsU G) (.int (j : Int)) (.int (G.getD j 0)) := fun j hj => o_ixl (at_nat (by rw [List.getElem?_map, get_getD 0 (by have := o.gl; omega)]; rfl))
  have ixM : ∀ i, i < k → O2 opIx MU (.int (i : Int)) (intsU (M.getD i [])) := fun i hi => by rw [hMU]; exact o_ixl (at_nat (by rw [List.getElem?_map, get_getD [] (by have := o.ml; omega)]; rfl))
  have stP : ∀ j, j < k → PyData.strOk (B.pn j) = true := fun j hj => o.ps _ (List.mem_of_getElem? (Bk.P_at (hk ▸ hj)))
  have jl : ∀ j ∈ q.js, j < k := hk ▸ o.ok.js_lt
  have j8 : q.js.length ≤ 8 := o.ok.js_len
  have e0 : O2 opIx F (.int 0) (.str q.tag) := by rw [hF]; exact o_ixt (at_int (by decide) rfl)
  have tgOk : PyData.strOk q.tag = true := by
    cases q
    · show PyData.strOk "raise" = true; decide +kernel
    · show PyData.strOk "hold" = true; decide +kernel
    · show PyData.strOk "ring" = true; decide +kernel
    · show PyData.strOk "row" = true; decide +kernel
    · show PyData.strOk "side" = true; decide +kernel
    · show PyData.strOk "again" = true; decide +kernel
  have inT : O2 opIn (.str q.tag) (.tup [.str "row", .str "side"]) (.bl (decide (q.tag ∈ [("row" : Str), "side"]))) := o_intp (xs := ["row", "side"]) tgOk (by decide +kernel)
  have LN : ∀ js : List Nat, js.length ≤ 8 → (∀ j ∈ js, j < k) → ∀ i, i < k → O2 opIn (.str (B.pn i)) (.tup (js.map fun j => U.str (B.pn j))) (.bl (decide (i ∈ js))) := fun js _ hj i hi => by
    have := o_intp (x := B.pn i) (xs := js.map B.pn) (stP i hi) fun y hy => by
      obtain ⟨j, h, rfl⟩ := List.mem_map.mp hy; exact stP j (hj j h)
    rw [List.map_map] at this
    rwa [show decide (B.pn i ∈ js.map B.pn) = decide (i ∈ js) by
      rw [Bool.eq_iff_iff, decide_eq_true_iff, decide_eq_true_iff, List.mem_map]
      exact ⟨fun ⟨j, h, e⟩ => by rw [← pn_inj o.nd (hk ▸ hj j h) (hk ▸ hi) e]; exact h, fun h => ⟨i, h, rfl⟩⟩] at this
  have EQn : ∀ i j, i < k → j < k → O2 opEq (.str (B.pn i)) (.str (B.pn j)) (.bl (decide (i = j))) := fun i j hi hj => by
    have := o_eqs (z := B.pn i) (w := B.pn j)
    rwa [show decide (B.pn i = B.pn j) = decide (i = j) by
      rw [Bool.eq_iff_iff, decide_eq_true_iff, decide_eq_true_iff]
      exact ⟨pn_inj o.nd (hk ▸ hi) (hk ▸ hj), fun e => by rw [e]⟩] at this
  have EQl : ∀ i j, i < nl → j < nl → O2 opEq (.str (B.ln i)) (.str (B.ln j)) (.bl (decide (i = j))) := fun i j hi hj => by
    have := o_eqs (z := B.ln i) (w := B.ln j)
    rwa [show decide (B.ln i = B.ln j) = decide (i = j) by
      rw [Bool.eq_iff_iff, decide_eq_true_iff, decide_eq_true_iff]
      exact ⟨ln_inj o.ln (hnl ▸ hi) (hnl ▸ hj), fun e => by rw [e]⟩] at this
  have one_of : ∀ j n, j < n → (List.range n).filter (fun i => decide (i = j)) = [j] := fun j n h => by
    have : ∀ n, (List.range n).filter (fun i => decide (i = j)) = if j < n then [j] else [] := fun n => by
      induction n with
      | zero => rw [if_neg (Nat.not_lt_zero _)]; rfl
      | succ n ih =>
        rw [List.range_succ, List.filter_append, ih, List.filter_cons, List.filter_nil]
        by_cases c : n = j
        · subst c
          rw [if_neg (Nat.lt_irrefl _), if_pos (decide_eq_true rfl), if_pos (Nat.lt_succ_self _)]; rfl
        · rw [if_neg (show ¬ decide (n = j) = true by simpa using c), List.append_nil]
          by_cases c2 : j < n
          · rw [if_pos c2, if_pos (by omega)]
          · rw [if_neg c2, if_neg (by omega)]
    rw [this, if_pos h]
  have LC1 : Xf C [.s BU, .s MU, .s (intsU G), .s NM, .s F, .n, .n, .n, .n, .n, .n] (eLc [7] (gN 7) (iR1 (eBf bLen (aC (eOp opIx (eV 0) (eC (.int 1))) aN))) (tAn (tV (eOp opIn (eOp opIx (eV 4) (eC (.int 0))) (eTup (aC (eC (.str "row")) (aC (eC (.str "side")) aN))))) (tV (eOp opIn (eOp opIx (eOp opIx (eOp opIx (eV 0) (eC (.int 1))) (eV 7)) (eC (.int 0))) (eOp opIx (eV 4) (eC (.int 1)))))) (eV 7)) (natsU (nb1 k q)) := by
    have none_ : decide (q.tag ∈ [("row" : Str), "side"]) = false → Xf C [.s BU, .s MU, .s (intsU G), .s NM, .s F, .n, .n, .n, .n, .n, .n] (eLc [7] (gN 7) (iR1 (eBf bLen (aC (eOp opIx (eV 0) (eC (.int 1))) aN))) (tAn (tV (eOp opIn (eOp opIx (eV 4) (eC (.int 0))) (eTup (aC (eC (.str "row")) (aC (eC (.str "side")) aN))))) (tV (eOp opIn (eOp opIx (eOp opIx (eOp opIx (eV 0) (eC (.int 1))) (eV 7)) (eC (.int 0))) (eOp opIx (eV 4) (eC (.int 1)))))) (eV 7)) (natsU []) := fun h => by
      rw [h] at inT
      have := f_lcrn (C := C) (n := k) (pe := [.s BU, .s MU, .s (intsU G), .s NM, .s F, .n, .n, .n, .n, .n, .n]) (ws := [7]) (mi := (iR1 (eBf bLen (aC (eOp opIx (eV 0) (eC (.int 1))) aN)))) (g := gN 7) (p := fun _ => false) (a := eV 7) (out := fun j => .int (j : Int)) (t := (tAn (tV (eOp opIn (eOp opIx (eV 4) (eC (.int 0))) (eTup (aC (eC (.str "row")) (aC (eC (.str "side")) aN))))) (tV (eOp opIn (eOp opIx (eOp opIx (eOp opIx (eV 0) (eC (.int 1))) (eV 7)) (eC (.int 0))) (eOp opIx (eV 4) (eC (.int 1))))))) (Xi.j (i_rn (by (repeat first | fail "p" | with_reducible exact ix1 | with_reducible exact lP | fail)) (by omega))) (by (repeat first | fail "p" | fail)) (sz_le (by omega)) (by omega) fun j hj => ⟨_, by (repeat first | fail "p" | fail), by (repeat first | fail "p" | with_reducible exact e0 | with_reducible exact inT | fail), fun h => by cases h⟩
      rwa [List.filter_eq_nil_iff.mpr fun x _ => by simp] at this
    have some_ : ∀ js : List Nat, js.length ≤ 8 → (∀ j ∈ js, j < k) → O2 opIx F (.int 1) (.tup (js.map fun j => U.str (B.pn j))) → decide (q.tag ∈ [("row" : Str), "side"]) = true → Xf C [.s BU, .s MU, .s (intsU G), .s NM, .s F, .n, .n, .n, .n, .n, .n] (eLc [7] (gN 7) (iR1 (eBf bLen (aC (eOp opIx (eV 0) (eC (.int 1))) aN))) (tAn (tV (eOp opIn (eOp opIx (eV 4) (eC (.int 0))) (eTup (aC (eC (.str "row")) (aC (eC (.str "side")) aN))))) (tV (eOp opIn (eOp opIx (eOp opIx (eOp opIx (eV 0) (eC (.int 1))) (eV 7)) (eC (.int 0))) (eOp opIx (eV 4) (eC (.int 1)))))) (eV 7)) (natsU ((List.range k).filter fun i => decide (i ∈ js))) := fun js h8 hj e1 h => by
      rw [h] at inT
      refine f_lcrn (C := C) (n := k) (Xi.j (i_rn (by (repeat first | fail "p" | with_reducible exact ix1 | with_reducible exact lP | fail)) (by omega))) (by (repeat first | fail "p" | fail)) (sz_le (by omega)) (by omega) fun j hj2 => ?_
      have h1 := ixP j hj2
      have h2 := ixPn j
      have h3 := LN js h8 hj j hj2
      exact ⟨_, by (repeat first | fail "p" | fail), by (repeat first | fail "p" | with_reducible exact e0 | with_reducible exact e1 | with_reducible exact ix1 | with_reducible exact inT | with_reducible exact h1 | with_reducible exact h2 | with_reducible exact h3 | fail), fun _ => by (repeat first | fail "p" | fail)⟩
    cases q with
    | row js => exact some_ js j8 jl (by rw [hF]; exact o_ixt (at_int (by decide) rfl)) rfl
    | side js => exact some_ js j8 jl (by rw [hF]; exact o_ixt (at_int (by decide) rfl)) rfl
    | _ => exact none_ rfl
  rw [← hBU, ← hMU, ← hF, ← hk]
  have eA : O2 opEq (.str q.tag) (.str "again") (.bl (decide (q.tag = "again"))) := o_eqs
  have eR : O2 opEq (.str q.tag) (.str "row") (.bl (decide (q.tag = "row"))) := o_eqs
  have eS : O2 opEq (.str q.tag) (.str "side") (.bl (decide (q.tag = "side"))) := o_eqs
  have eW : O2 opEq (.str q.tag) (.str "raise") (.bl (decide (q.tag = "raise"))) := o_eqs
  have X1 : Xs C [0, 1, 2, 3, 4] [.s BU, .s MU, .s (intsU G), .s NM, .s F, .n, .n, .n, .n, .n, .n] (sAs (gN 5) (eLc [7] (gN 7) (iR1 (eBf bLen (aC (eOp opIx (eV 0) (eC (.int 1))) aN))) (tAn (tV (eOp opIn (eOp opIx (eV 4) (eC (.int 0))) (eTup (aC (eC (.str "row")) (aC (eC (.str "side")) aN))))) (tV (eOp opIn (eOp opIx (eOp opIx (eOp opIx (eV 0) (eC (.int 1))) (eV 7)) (eC (.int 0))) (eOp opIx (eV 4) (eC (.int 1)))))) (eV 7))) (.nx [.s BU, .s MU, .s (intsU G), .s NM, .s F, .s (natsU (nb1 k q)), .n, .n, .n, .n, .n]) := by (repeat first | fail "p" | with_reducible exact LC1.p | fail)
  have X2 : Xs C [0, 1, 2, 3, 4] [.s BU, .s MU, .s (intsU G), .s NM, .s F, .s (natsU (nb1 k q)), .n, .n, .n, .n, .n] (sIf (tV (eOp opEq (eOp opIx (eV 4) (eC (.int 0))) (eC (.str "again")))) (sAs (gN 5) (eLc [7] (gN 7) (iR1 (eBf bLen (aC (eOp opIx (eV 0) (eC (.int 1))) aN))) (tV (eOp opEq (eOp opIx (eOp opIx (eOp opIx (eV 0) (eC (.int 1))) (eV 7)) (eC (.int 0))) (eOp opIx (eV 4) (eC (.int 2))))) (eV 7))) sSk) (.nx [.s BU, .s MU, .s (intsU G), .s NM, .s F, .s (natsU (nbP k q)), .n, .n, .n, .n, .n]) := by
    have no : decide (q.tag = "again") = false → Xs C [0, 1, 2, 3, 4] [.s BU, .s MU, .s (intsU G), .s NM, .s F, .s (natsU (nb1 k q)), .n, .n, .n, .n, .n] (sIf (tV (eOp opEq (eOp opIx (eV 4) (eC (.int 0))) (eC (.str "again")))) (sAs (gN 5) (eLc [7] (gN 7) (iR1 (eBf bLen (aC (eOp opIx (eV 0) (eC (.int 1))) aN))) (tV (eOp opEq (eOp opIx (eOp opIx (eOp opIx (eV 0) (eC (.int 1))) (eV 7)) (eC (.int 0))) (eOp opIx (eV 4) (eC (.int 2))))) (eV 7))) sSk) (.nx [.s BU, .s MU, .s (intsU G), .s NM, .s F, .s (natsU (nb1 k q)), .n, .n, .n, .n, .n]) := fun h => by
      rw [h] at eA
      (repeat first | fail "p" | with_reducible exact e0 | with_reducible exact eA | fail)
    cases q with
    | again z j =>
      rw [show decide ((Pt.again z j).tag = "again") = true from rfl] at eA
      have jk : j < k := jl j (List.mem_cons_self ..)
      have e2 : O2 opIx F (.int 2) (.str (B.pn j)) := by rw [hF]; exact o_ixt (at_int (by decide) rfl)
      have LC : Xf C [.s BU, .s MU, .s (intsU G), .s NM, .s F, .s (natsU (nb1 k (.again z j))), .n, .n, .n, .n, .n] (eLc [7] (gN 7) (iR1 (eBf bLen (aC (eOp opIx (eV 0) (eC (.int 1))) aN))) (tV (eOp opEq (eOp opIx (eOp opIx (eOp opIx (eV 0) (eC (.int 1))) (eV 7)) (eC (.int 0))) (eOp opIx (eV 4) (eC (.int 2))))) (eV 7)) (natsU [j]) := by
        have := f_lcrn (C := C) (n := k) (pe := [.s BU, .s MU, .s (intsU G), .s NM, .s F, .s (natsU (nb1 k (.again z j))), .n, .n, .n, .n, .n]) (ws := [7]) (mi := (iR1 (eBf bLen (aC (eOp opIx (eV 0) (eC (.int 1))) aN)))) (g := gN 7) (p := fun i => decide (i = j)) (a := eV 7) (out := fun j => .int (j : Int)) (t := (tV (eOp opEq (eOp opIx (eOp opIx (eOp opIx (eV 0) (eC (.int 1))) (eV 7)) (eC (.int 0))) (eOp opIx (eV 4) (eC (.int 2)))))) (Xi.j (i_rn (by (repeat first | fail "p" | with_reducible exact ix1 | with_reducible exact lP | fail)) (by omega))) (by (repeat first | fail "p" | fail)) (sz_le (by omega)) (by omega) fun i hi => by
          have h1 := ixP i hi
          have h2 := ixPn i
          have h3 := EQn i j hi jk
          exact ⟨_, by (repeat first | fail "p" | fail), by (repeat first | fail "p" | with_reducible exact e2 | with_reducible exact ix1 | with_reducible exact h1 | with_reducible exact h2 | with_reducible exact h3 | fail), fun _ => by (repeat first | fail "p" | fail)⟩
        rwa [one_of j k jk] at this
      show Xs C _ _ _ (.nx [_, _, _, _, _, .s (natsU [j]), _, _, _, _, _])
      (repeat first | fail "p" | with_reducible exact e0 | with_reducible exact eA | with_reducible exact LC.p | fail)
    | _ => exact no rfl
  have X3 : Xs C [0, 1, 2, 3, 4] [.s BU, .s MU, .s (intsU G), .s NM, .s F, .s (natsU (nbP k q)), .n, .n, .n, .n, .n] (sAs (gNo 6) (eLc [7] (gN 7) (iR1 (eBf bLen (aC (eOp opIx (eV 0) (eC (.int 0))) aN))) (tAn (tV (eOp opEq (eOp opIx (eV 4) (eC (.int 0))) (eC (.str "raise")))) (tV (eOp opEq (eOp opIx (eOp opIx (eOp opIx (eV 0) (eC (.int 0))) (eV 7)) (eC (.int 0))) (eOp opIx (eV 4) (eC (.int 1)))))) (eV 7))) (.nx [.s BU, .s MU, .s (intsU G), .s NM, .s F, .s (natsU (nbP k q)), .o (intsU (lbP q)), .n, .n, .n, .n]) := by
    obtain ⟨NB, hNB⟩ : ∃ NB, NB = natsU (nbP k q) := ⟨_, rfl⟩
    rw [← hNB]
    have go : ∀ L : List Int, Xf C [.s BU, .s MU, .s (intsU G), .s NM, .s F, .s NB, .n, .n, .n, .n, .n] (eLc [7] (gN 7) (iR1 (eBf bLen (aC (eOp opIx (eV 0) (eC (.int 0))) aN))) (tAn (tV (eOp opEq (eOp opIx (eV 4) (eC (.int 0))) (eC (.str "raise")))) (tV (eOp opEq (eOp opIx (eOp opIx (eOp opIx (eV 0) (eC (.int 0))) (eV 7)) (eC (.int 0))) (eOp opIx (eV 4) (eC (.int 1)))))) (eV 7)) (intsU L) → Xs C [0, 1, 2, 3, 4] [.s BU, .s MU, .s (intsU G), .s NM, .s F, .s NB, .n, .n, .n, .n, .n] (sAs (gNo 6) (eLc [7] (gN 7) (iR1 (eBf bLen (aC (eOp opIx (eV 0) (eC (.int 0))) aN))) (tAn (tV (eOp opEq (eOp opIx (eV 4) (eC (.int 0))) (eC (.str "raise")))) (tV (eOp opEq (eOp opIx (eOp opIx (eOp opIx (eV 0) (eC (.int 0))) (eV 7)) (eC (.int 0))) (eOp opIx (eV 4) (eC (.int 1)))))) (eV 7))) (.nx [.s BU, .s MU, .s (intsU G), .s NM, .s F, .s NB, .o (intsU L), .n, .n, .n, .n]) := fun L LC => by (repeat first | fail "p" | with_reducible exact LC | fail)
    have none_ : decide (q.tag = "raise") = false → Xf C [.s BU, .s MU, .s (intsU G), .s NM, .s F, .s NB, .n, .n, .n, .n, .n] (eLc [7] (gN 7) (iR1 (eBf bLen (aC (eOp opIx (eV 0) (eC (.int 0))) aN))) (tAn (tV (eOp opEq (eOp opIx (eV 4) (eC (.int 0))) (eC (.str "raise")))) (tV (eOp opEq (eOp opIx (eOp opIx (eOp opIx (eV 0) (eC (.int 0))) (eV 7)) (eC (.int 0))) (eOp opIx (eV 4) (eC (.int 1)))))) (eV 7)) (intsU []) := fun h => by
      rw [h] at eW
      have := f_lcrn (C := C) (n := nl) (pe := [.s BU, .s MU, .s (intsU G), .s NM, .s F, .s NB, .n, .n, .n, .n, .n]) (ws := [7]) (mi := (iR1 (eBf bLen (aC (eOp opIx (eV 0) (eC (.int 0))) aN)))) (g := gN 7) (p := fun _ => false) (a := eV 7) (out := fun j => .int (j : Int)) (t := (tAn (tV (eOp opEq (eOp opIx (eV 4) (eC (.int 0))) (eC (.str "raise")))) (tV (eOp opEq (eOp opIx (eOp opIx (eOp opIx (eV 0) (eC (.int 0))) (eV 7)) (eC (.int 0))) (eOp opIx (eV 4) (eC (.int 1))))))) (Xi.j (i_rn (by (repeat first | fail "p" | with_reducible exact ix0 | with_reducible exact lL | fail)) (by omega))) (by (repeat first | fail "p" | fail)) (sz_le (by omega)) (by omega) fun j hj => ⟨_, by (repeat first | fail "p" | fail), by (repeat first | fail "p" | with_reducible exact e0 | with_reducible exact eW | fail), fun h => by cases h⟩
      rwa [List.filter_eq_nil_iff.mpr fun x _ => by simp] at this
    cases q with
    | raise l t b =>
      rw [show decide ((Pt.raise l t b).tag = "raise") = true from rfl] at eW
      have ll : l < nl := hnl ▸ o.ok.1
      have e1 : O2 opIx F (.int 1) (.str (B.ln l)) := by rw [hF]; exact o_ixt (at_int (by decide) rfl)
      have LC : Xf C [.s BU, .s MU, .s (intsU G), .s NM, .s F, .s NB, .n, .n, .n, .n, .n] (eLc [7] (gN 7) (iR1 (eBf bLen (aC (eOp opIx (eV 0) (eC (.int 0))) aN))) (tAn (tV (eOp opEq (eOp opIx (eV 4) (eC (.int 0))) (eC (.str "raise")))) (tV (eOp opEq (eOp opIx (eOp opIx (eOp opIx (eV 0) (eC (.int 0))) (eV 7)) (eC (.int 0))) (eOp opIx (eV 4) (eC (.int 1)))))) (eV 7)) (intsU [(l : Int)]) := by
        have := f_lcrn (C := C) (n := nl) (pe := [.s BU, .s MU, .s (intsU G), .s NM, .s F, .s NB, .n, .n, .n, .n, .n]) (ws := [7]) (mi := (iR1 (eBf bLen (aC (eOp opIx (eV 0) (eC (.int 0))) aN)))) (g := gN 7) (p := fun i => decide (i = l)) (a := eV 7) (out := fun j => .int (j : Int)) (t := (tAn (tV (eOp opEq (eOp opIx (eV 4) (eC (.int 0))) (eC (.str "raise")))) (tV (eOp opEq (eOp opIx (eOp opIx (eOp opIx (eV 0) (eC (.int 0))) (eV 7)) (eC (.int 0))) (eOp opIx (eV 4) (eC (.int 1))))))) (Xi.j (i_rn (by (repeat first | fail "p" | with_reducible exact ix0 | with_reducible exact lL | fail)) (by omega))) (by (repeat first | fail "p" | fail)) (sz_le (by omega)) (by omega) fun i hi => by
          have h1 := ixL i hi
          have h2 := ixLn i
          have h3 := EQl i l hi ll
          exact ⟨_, by (repeat first | fail "p" | fail), by (repeat first | fail "p" | with_reducible exact e0 | with_reducible exact eW | with_reducible exact e1 | with_reducible exact ix0 | with_reducible exact h1 | with_reducible exact h2 | with_reducible exact h3 | fail), fun _ => by (repeat first | fail "p" | fail)⟩
        rwa [one_of l nl ll] at this
      exact go _ LC
    | _ => exact go [] (none_ rfl)
  have nbk : ∀ i ∈ nbP k q, i < k := fun i hi => jl i ((nbP_mem jl).mp hi)
  have X4 : Xs C [0, 1, 2, 3, 4] [.s BU, .s MU, .s (intsU G), .s NM, .s F, .s (natsU (nbP k q)), .o (intsU (lbP q)), .n, .n, .n, .n] (sFo (gN 7) (iA (eV 5)) b_l_put_1) (.nx [.s BU, .s MU, .s (intsU G), .s NM, .s F, .s (natsU (nbP k q)), .o (intsU (mvP M k q)), .n, .n, .n, .n]) := by
    obtain ⟨NB, hNB⟩ : ∃ NB, NB = natsU (nbP k q) := ⟨_, rfl⟩
    have nl20 : (nbP k q).length ≤ 21 := by
      cases q with
      | row js => exact Nat.le_trans (List.length_filter_le _ _) (by rw [List.length_range]; omega)
      | side js => exact Nat.le_trans (List.length_filter_le _ _) (by rw [List.length_range]; omega)
      | again z j => show 1 ≤ 21; omega
      | _ => exact Nat.zero_le _
    have lb1 : (lbP q).length ≤ 1 := by
      cases q <;> first | exact Nat.le_refl _ | exact Nat.zero_le _
    unfold mvP
    generalize lbP q = lb at lb1 ⊢
    generalize nbP k q = nb at nbk nl20 hNB ⊢
    rw [← hNB]
    have e : nb.foldl (uni M) lb = (nb.take nb.length).foldl (uni M) lb := by rw [List.take_length]
    rw [e]
    refine s_fors (C := C) (io := [0, 1, 2, 3, 4]) (g := gN 7) (b := b_l_put_1) (xs := nb) (f := fun j : Nat => U.int (j : Int)) (S := fun j => [.s BU, .s MU, .s (intsU G), .s NM, .s F, .s NB, .o (intsU ((nb.take j).foldl (uni M) lb)), .n, .n, .n, .n]) ?_ (by omega) ?_ ?_
    · rw [hNB]; (repeat first | fail "p" | fail)
    · show Fgt _ [.s BU, .s MU, .s (intsU G), .s NM, .s F, .s NB, .o (intsU lb), .n, .n, .n, .n]; (repeat first | fail "p" | fail)
    · intro j i hj
      have ij : i < k := nbk i (List.mem_of_getElem? hj)
      have e2 : (nb.take (j + 1)).foldl (uni M) lb = uni M ((nb.take j).foldl (uni M) lb) i := by
        rw [List.take_add_one, hj, List.foldl_append]; rfl
      rw [e2]
      obtain ⟨acc, hacc⟩ : ∃ acc, acc = (nb.take j).foldl (uni M) lb := ⟨_, rfl⟩
      have al : acc.length ≤ 1000 := by
        have := uni_len o.m8 (nb.take j) lb
        have := List.length_take_le' j nb
        rw [hacc]; omega
      rw [← hacc]
      obtain ⟨A, hA⟩ : ∃ A, A = M.getD i [] := ⟨_, rfl⟩
      have a8 : A.length ≤ 8 := by rw [hA]; exact o.m8 _ (List.mem_of_getElem? (get_getD [] (by have := o.ml; omega)))
      have h1 := ixM i ij
      rw [← hA] at h1
      obtain ⟨W, hW⟩ : ∃ W, W = A.filter fun z => decide (z ∉ acc) := ⟨_, rfl⟩
      have eu : uni M acc i = acc ++ W := by unfold uni; rw [hW, hA]
      rw [eu]
      refine ⟨_, by (repeat first | fail "p" | fail), ?_⟩
      apply bod_nx
      · unfold b_l_put_1
        show Xs C _ _ (sAs (gNo 6) _) _
        have LC : Xf C [.s BU, .s MU, .s (intsU G), .s NM, .s F, .s NB, .o (intsU acc), .s (.int (i : Int)), .n, .n, .n] (eLc [9] (gN 9) (iA (eOp opIx (eV 1) (eV 7))) (tV (eOp opNin (eV 9) (eV 6))) (eV 9)) (intsU W) := by
          rw [hW]
          have : (A.filter fun z => decide (z ∉ acc)) = A.filter fun z => !decide (z ∈ acc) := List.filter_congr fun z _ => by simp
          rw [this]
          refine f_lcf (xs := A) (f := U.int) (by (repeat first | fail "p" | with_reducible exact h1 | fail)) (by (repeat first | fail "p" | fail)) (sz_le (by omega)) (by omega) fun z hz => ⟨_, by (repeat first | fail "p" | fail), by (repeat first | fail "p" | fail), fun _ => by (repeat first | fail "p" | fail)⟩
        have ad : O2f opAdd (intsU acc) (intsU W) (intsU (acc ++ W)) := by
          have := of_addl (us := acc.map U.int) (vs := W.map U.int) (sz_le (by
            have := List.length_filter_le (fun z => decide (z ∉ acc)) A
            rw [List.length_map, List.length_map, hW]; omega))
          rwa [← List.map_append] at this
        (repeat first | fail "p" | with_reducible exact LC.p.top | with_reducible exact LC.p | with_reducible exact ad | fail)
      · (repeat first | fail "p" | fail)
  have gbk : ∀ j ∈ q.js, (G.getD j 0).natAbs ≤ 10 ^ 80 := fun j hj => by
    have := o.gb j (hk ▸ jl j hj)
    refine Nat.le_trans (show _ ≤ 10 ^ 60 by omega) (Nat.pow_le_pow_right (by decide) (by decide))
  have X5 : Xs C [0, 1, 2, 3, 4] [.s BU, .s MU, .s (intsU G), .s NM, .s F, .s (natsU (nbP k q)), .o (intsU (mvP M k q)), .n, .n, .n, .n] (sSq (sAs (gN 8) (eOp opIx (eV 4) (eUn opNeg (eC (.int 1))))) (sSq (sIf (tV (eOp opEq (eOp opIx (eV 4) (eC (.int 0))) (eC (.str "row")))) (sAs (gN 8) (eBf bSum (aC (eLc [7] (gN 7) (iA (eV 5)) tY (eOp opMul (eOp opIx (eV 2) (eV 7)) (eBf bLen (aC (eLc [10] (gN 10) (iA (eOp opIx (eV 4) (eC (.int 1)))) (tV (eOp opEq (eV 10) (eOp opIx (eOp opIx (eOp opIx (eV 0) (eC (.int 1))) (eV 7)) (eC (.int 0))))) (eV 10)) aN)))) aN))) sSk) (sSq (sIf (tV (eOp opEq (eOp opIx (eV 4) (eC (.int 0))) (eC (.str "side")))) (sAs (gN 8) (eBf bMax (aC (eLc [7] (gN 7) (iA (eV 5)) tY (eOp opIx (eV 2) (eV 7))) aN))) sSk) (sIf (tV (eOp opEq (eOp opIx (eV 4) (eC (.int 0))) (eC (.str "again")))) (sAs (gN 8) (eOp opMul (eOp opIx (eV 4) (eC (.int 1))) (eOp opIx (eV 2) (eOp opIx (eV 5) (eC (.int 0)))))) sSk)))) (.nx [.s BU, .s MU, .s (intsU G), .s NM, .s F, .s (natsU (nbP k q)), .o (intsU (mvP M k q)), .n, .s (.int (lenF G q)), .n, .n]) := by
    obtain ⟨MV, hMV⟩ : ∃ MV, MV = intsU (mvP M k q) := ⟨_, rfl⟩
    rw [← hMV]
    have go : ∀ b : Int, decide (q.tag = "row") = false → decide (q.tag = "side") = false → decide (q.tag = "again") = false → O2 opIx F (.int (-1)) (.int b) → ∀ NB : U, Xs C [0, 1, 2, 3, 4] [.s BU, .s MU, .s (intsU G), .s NM, .s F, .s NB, .o MV, .n, .n, .n, .n] (sSq (sAs (gN 8) (eOp opIx (eV 4) (eUn opNeg (eC (.int 1))))) (sSq (sIf (tV (eOp opEq (eOp opIx (eV 4) (eC (.int 0))) (eC (.str "row")))) (sAs (gN 8) (eBf bSum (aC (eLc [7] (gN 7) (iA (eV 5)) tY (eOp opMul (eOp opIx (eV 2) (eV 7)) (eBf bLen (aC (eLc [10] (gN 10) (iA (eOp opIx (eV 4) (eC (.int 1)))) (tV (eOp opEq (eV 10) (eOp opIx (eOp opIx (eOp opIx (eV 0) (eC (.int 1))) (eV 7)) (eC (.int 0))))) (eV 10)) aN)))) aN))) sSk) (sSq (sIf (tV (eOp opEq (eOp opIx (eV 4) (eC (.int 0))) (eC (.str "side")))) (sAs (gN 8) (eBf bMax (aC (eLc [7] (gN 7) (iA (eV 5)) tY (eOp opIx (eV 2) (eV 7))) aN))) sSk) (sIf (tV (eOp opEq (eOp opIx (eV 4) (eC (.int 0))) (eC (.str "again")))) (sAs (gN 8) (eOp opMul (eOp opIx (eV 4) (eC (.int 1))) (eOp opIx (eV 2) (eOp opIx (eV 5) (eC (.int 0)))))) sSk)))) (.nx [.s BU, .s MU, .s (intsU G), .s NM, .s F, .s NB, .o MV, .n, .s (.int b), .n, .n]) := fun b h1 h2 h3 e5 NB => by
      rw [h1] at eR
      rw [h2] at eS
      rw [h3] at eA
      (repeat first | fail "p" | with_reducible exact e0 | with_reducible exact e5 | with_reducible exact eR | with_reducible exact eS | with_reducible exact eA | fail)
    cases q with
    | raise l t b => exact go b rfl rfl rfl (by rw [hF]; exact o_ixt (at_m1 rfl)) _
    | hold b => exact go b rfl rfl rfl (by rw [hF]; exact o_ixt (at_m1 rfl)) _
    | ring w b => exact go b rfl rfl rfl (by rw [hF]; exact o_ixt (at_m1 rfl)) _
    | row js =>
      have e5 : O2 opIx F (.int (-1)) (.tup (js.map fun j => U.str (B.pn j))) := by rw [hF]; exact o_ixt (at_m1 rfl)
      have e1 : O2 opIx F (.int 1) (.tup (js.map fun j => U.str (B.pn j))) := by rw [hF]; exact o_ixt (at_int (by decide) rfl)
      rw [show decide ((Pt.row js).tag = "row") = true from rfl] at eR
      rw [show decide ((Pt.row js).tag = "side") = false from rfl] at eS
      rw [show decide ((Pt.row js).tag = "again") = false from rfl] at eA
      have LC : Xf C [.s BU, .s MU, .s (intsU G), .s NM, .s F, .s (natsU (nbP k (.row js))), .o MV, .n, .s (.tup (js.map fun j => U.str (B.pn j))), .n, .n] (eLc [7] (gN 7) (iA (eV 5)) tY (eOp opMul (eOp opIx (eV 2) (eV 7)) (eBf bLen (aC (eLc [10] (gN 10) (iA (eOp opIx (eV 4) (eC (.int 1)))) (tV (eOp opEq (eV 10) (eOp opIx (eOp opIx (eOp opIx (eV 0) (eC (.int 1))) (eV 7)) (eC (.int 0))))) (eV 10)) aN)))) (intsU ((nbP k (.row js)).map fun i => G.getD i 0 * cntN i js)) := by
        have : intsU ((nbP k (.row js)).map fun i => G.getD i 0 * cntN i js) = .lst ((nbP k (.row js)).map fun i => U.int (G.getD i 0 * cntN i js)) := by
          show U.lst _ = _
          rw [List.map_map]; rfl
        rw [this]
        have nl20 : (nbP k (.row js)).length ≤ 21 := Nat.le_trans (List.length_filter_le _ _) (by rw [List.length_range]; omega)
        generalize nbP k (.row js) = nb at nbk nl20 ⊢
        apply f_lcm (f := fun j : Nat => U.int (j : Int)) (xs := nb)
        case hi => (repeat first | fail "p" | fail)
        case hw => (repeat first | fail "p" | fail)
        case hn => exact sz_le (by omega)
        case fu => omega
        case hs =>
          intro i hi
          have ik := nbk i hi
          have h1 := ixP i ik
          have h2 := ixPn i
          have h4 := ixG i ik
          have LI : Xf C [.s BU, .s MU, .s (intsU G), .s NM, .s F, .s (natsU nb), .o MV, .s (.int (i : Int)), .s (.tup (js.map fun j => U.str (B.pn j))), .n, .n] (eLc [10] (gN 10) (iA (eOp opIx (eV 4) (eC (.int 1)))) (tV (eOp opEq (eV 10) (eOp opIx (eOp opIx (eOp opIx (eV 0) (eC (.int 1))) (eV 7)) (eC (.int 0))))) (eV 10)) (.lst ((js.filter fun j => decide (j = i)).map fun j => U.str (B.pn j))) := by
            refine f_lcf (xs := js) (f := fun j => U.str (B.pn j)) (Xi.j (i_t (by (repeat first | fail "p" | with_reducible exact e1 | fail)))) (by (repeat first | fail "p" | fail)) (sz_le (by have : js.length ≤ 8 := j8; omega)) (by have : js.length ≤ 8 := j8; omega) fun j hj => ?_
            have h3 := EQn j i (jl j hj) ik
            exact ⟨_, by (repeat first | fail "p" | fail), by (repeat first | fail "p" | with_reducible exact ix1 | with_reducible exact h1 | with_reducible exact h2 | with_reducible exact h3 | fail), fun _ => by (repeat first | fail "p" | fail)⟩
          have ll : B1 bLen [.lst ((js.filter fun j => decide (j = i)).map fun j => U.str (B.pn j))] (.int (cntN i js)) := by
            have := b_lenl (us := (js.filter fun j => decide (j = i)).map fun j => U.str (B.pn j))
            rwa [List.length_map] at this
          have c8 : (cntN i js).natAbs ≤ 10 ^ 80 := by
            have h := List.length_filter_le (fun j => decide (j = i)) js
            have : js.length ≤ 8 := j8
            unfold cntN
            refine Nat.le_trans (show _ ≤ 10 ^ 1 by omega) (Nat.pow_le_pow_right (by decide) (by decide))
          have g8 : (G.getD i 0).natAbs ≤ 10 ^ 80 := by
            have := o.gb i (hk ▸ ik)
            refine Nat.le_trans (show _ ≤ 10 ^ 60 by omega) (Nat.pow_le_pow_right (by decide) (by decide))
          have ml : O2 opMul (.int (G.getD i 0)) (.int (cntN i js)) (.int (G.getD i 0 * cntN i js)) := o_mul (mulOk_sm (b300 _ g8) (b300 _ c8))
          exact ⟨_, by (repeat first | fail "p" | fail), by (repeat first | fail "p" | with_reducible exact h4 | with_reducible exact LI.p.top | with_reducible exact LI.p | with_reducible exact ll | with_reducible exact ml | fail)⟩
      have sm : B1 bSum [intsU ((nbP k (.row js)).map fun i => G.getD i 0 * cntN i js)] (.int (lenF G (.row js))) := by
        have := b_sum (ns := (nbP k (.row js)).map fun i => G.getD i 0 * cntN i js)
        rwa [show ((nbP k (.row js)).map fun i => G.getD i 0 * cntN i js).sum = lenF G (.row js) from sum_row (g := fun i => G.getD i 0) jl] at this
      generalize natsU (nbP k (.row js)) = NB at LC ⊢
      (repeat first | fail "p" | with_reducible exact e0 | with_reducible exact e5 | with_reducible exact eR | with_reducible exact eS | with_reducible exact eA | with_reducible exact LC.p.top | with_reducible exact LC.p | with_reducible exact sm | fail)
    | side js =>
      have e5 : O2 opIx F (.int (-1)) (.tup (js.map fun j => U.str (B.pn j))) := by rw [hF]; exact o_ixt (at_m1 rfl)
      rw [show decide ((Pt.side js).tag = "row") = false from rfl] at eR
      rw [show decide ((Pt.side js).tag = "side") = true from rfl] at eS
      rw [show decide ((Pt.side js).tag = "again") = false from rfl] at eA
      have LC : Xf C [.s BU, .s MU, .s (intsU G), .s NM, .s F, .s (natsU (nbP k (.side js))), .o MV, .n, .s (.tup (js.map fun j => U.str (B.pn j))), .n, .n] (eLc [7] (gN 7) (iA (eV 5)) tY (eOp opIx (eV 2) (eV 7))) (intsU ((nbP k (.side js)).map fun i => G.getD i 0)) := by
        have : intsU ((nbP k (.side js)).map fun i => G.getD i 0) = .lst ((nbP k (.side js)).map fun i => U.int (G.getD i 0)) := by
          show U.lst _ = _
          rw [List.map_map]; rfl
        rw [this]
        have nl20 : (nbP k (.side js)).length ≤ 21 := Nat.le_trans (List.length_filter_le _ _) (by rw [List.length_range]; omega)
        generalize nbP k (.side js) = nb at nbk nl20 ⊢
        apply f_lcm (f := fun j : Nat => U.int (j : Int)) (xs := nb)
        case hi => (repeat first | fail "p" | fail)
        case hw => (repeat first | fail "p" | fail)
        case hn => exact sz_le (by omega)
        case fu => omega
        case hs =>
          intro i hi
          have h4 := ixG i (nbk i hi)
          exact ⟨_, by (repeat first | fail "p" | fail), by (repeat first | fail "p" | with_reducible exact h4 | fail)⟩
      have ne : js ≠ [] := fun e => by
        have h2 := o.ok.1
        rw [e] at h2; exact absurd h2 (by decide)
      have sm : B1 bMax [intsU ((nbP k (.side js)).map fun i => G.getD i 0)] (.int (lenF G (.side js))) := b_maxl (max_side (g := fun i => G.getD i 0) jl ne)
      generalize natsU (nbP k (.side js)) = NB at LC ⊢
      (repeat first | fail "p" | with_reducible exact e0 | with_reducible exact e5 | with_reducible exact eR | with_reducible exact eS | with_reducible exact eA | with_reducible exact LC.p.top | with_reducible exact LC.p | with_reducible exact sm | fail)
    | again z j =>
      have jk : j < k := jl j (List.mem_cons_self ..)
      have e5 : O2 opIx F (.int (-1)) (.str (B.pn j)) := by rw [hF]; exact o_ixt (at_m1 rfl)
      have e1 : O2 opIx F (.int 1) (.int z) := by rw [hF]; exact o_ixt (at_int (by decide) rfl)
      rw [show decide ((Pt.again z j).tag = "row") = false from rfl] at eR
      rw [show decide ((Pt.again z j).tag = "side") = false from rfl] at eS
      rw [show decide ((Pt.again z j).tag = "again") = true from rfl] at eA
      have n0 : O2 opIx (natsU (nbP k (.again z j))) (.int 0) (.int (j : Int)) := o_ixl (at_int (by decide) rfl)
      have h4 := ixG j jk
      have zb : z.natAbs ≤ 10 ^ 80 := by
        have := o.ok.1
        have := o.ok.2.1
        refine Nat.le_trans (show _ ≤ 10 ^ 18 by omega) (Nat.pow_le_pow_right (by decide) (by decide))
      have ml : O2 opMul (.int z) (.int (G.getD j 0)) (.int (lenF G (.again z j))) := o_mul (mulOk_sm (b300 _ zb) (b300 _ (gbk j (List.mem_cons_self ..))))
      generalize natsU (nbP k (.again z j)) = NB at n0 ⊢
      (repeat first | fail "p" | with_reducible exact e0 | with_reducible exact e5 | with_reducible exact eR | with_reducible exact eS | with_reducible exact eA | with_reducible exact e1 | with_reducible exact n0 | with_reducible exact h4 | with_reducible exact ml | fail)
  generalize natsU (nb1 k q) = NB1 at X1 X2
  generalize natsU (nbP k q) = NB at X2 X3 X4 X5 ⊢
  unfold putPre
  (repeat first | fail "p" | with_reducible exact X1 | with_reducible exact X2 | with_reducible exact X3 | with_reducible exact X4 | with_reducible exact X5 | fail)
end
/-! a new thing handed to a def that changes it -/
theorem staAvoid {B : AS} {Sg : Nat → List Nat} {e : Ev} {h h1 : HP} {pe : List Sl} {S : List Nat} (s : Sta B Sg e h pe) (k : Kq h h1) (n : ∀ a ∈ S, h.length ≤ a) (lt : ∀ a ∈ S, a < h1.length) : Sta (fun a => B a ∨ a ∈ S) Sg e h1 pe := by
  have t : Tr (Av B Sg pe) (Av (fun a => B a ∨ a ∈ S) Sg pe) h h1 := ⟨fun i o _ q => k i o q, fun i q => by
    rcases q with (q | q) | q
    · exact .inl (.inl q)
    · exact .inr (n i q)
    · exact .inl (.inr q), k.len⟩
  refine ⟨s.len, fun i u q => ?_, fun i u q => ?_, s.dis, fun a q => ?_, fun a q w => ?_⟩
  · obtain ⟨d, e1, r⟩ := s.sh i u q
    exact ⟨d, e1, r.tr t⟩
  · obtain ⟨a, e1, c⟩ := s.ow i u q
    exact ⟨a, e1, c.tr (fun s _ o w => k s o w) t⟩
  · rcases q with q | q
    · exact Nat.lt_of_lt_of_le (s.bl a q) k.len
    · exact lt a q
  · rcases w with w | w
    · exact s.nb a q w
    · have := s.olt q
      have := n a w
      omega
theorem qb_all {A : AS} {h : HP} {b : Nat} {x : U} : ∀ {us : List U} {ds : List D}, AllR (Rd A h) ds us → Qb A h b x ds (us.map Sl.s)
  | [], ds, a => by rw [a.inv0]; exact qb_nil
  | u :: us, ds, a => by
    obtain ⟨d, r, rfl, q, a2⟩ := a.inv
    exact qb_s q (qb_all a2)
theorem x_callf {C : Ctx} {pe : List Sl} {a : ME} {as : MA} {f : Nat} {x y u : U} {us : List U} (ha : Xf C pe a x) (hb : Xa C pe as us) (hf : FnO (C.call f) (.o x :: us.map Sl.s) u (.o y :: us.map Sl.s)) : Xp C pe (eCall f (aC a as) []) u := fun B Sg e h s => by
  obtain ⟨i, h1, S, e1, k1, n, c⟩ := ha s
  have s1 := staAvoid s k1 n c.lt
  obtain ⟨ds, h2, e2, k2, r2⟩ := hb s1
  have av : ∀ a, Av (fun a => B a ∨ a ∈ S) Sg pe a ↔ (Av B Sg pe a ∨ a ∈ S) := fun a => by
    show ((B a ∨ a ∈ S) ∨ Ow Sg pe a) ↔ ((B a ∨ Ow Sg pe a) ∨ a ∈ S)
    constructor
    · rintro ((q | q) | q)
      · exact .inl (.inl q)
      · exact .inr q
      · exact .inl (.inr q)
    · rintro ((q | q) | q)
      · exact .inl (.inl q)
      · exact .inr q
      · exact .inl (.inr q)
  have bd : Bd (fun a => Av B Sg pe a ∨ a ∈ S) h2 := fun a q => by
    rcases q with q | q
    · exact Nat.lt_of_lt_of_le (s.lt q) (k1.trans k2).len
    · exact Nat.lt_of_lt_of_le (c.lt a q) k2.len
  have qb : Qb (fun a => Av B Sg pe a ∨ a ∈ S) h2 i x (.ref i :: ds) (.o x :: us.map Sl.s) := qb_o (qb_all (r2.imp fun d u r => r.tr ⟨fun _ _ _ q => q, fun a q => .inl ((av a).mpr q), Nat.le_refl _⟩))
  obtain ⟨d, h3, S', e3, kp, l3, n3, c3, r3⟩ := qb.run one0 bd (c.tr (fun s _ o w => k2 s o w) k2.tr) (fun s hs => .inr hs) hf one0
  refine ⟨d, h3, ?_, fun j o q => ?_, r3.tr ⟨fun _ _ _ q => q, fun a q => .inl (.inl ⟨.inl q, fun w => ?_⟩), Nat.le_refl _⟩⟩
  · unfold eCall aC
    rw [e1]; simp only [R.bind_ok]; rw [e2]; simp only [R.bind_ok, List.append_nil]
    exact e3
  · exact kp j o (fun w => by
      have := (List.getElem?_eq_some_iff.mp q).1
      have := n j w
      omega) (k2 j o (k1 j o q))
  · have := s.lt q
    have := n a w
    omega
/-! a part put behind a book: the whole -/
theorem sSq_assoc {a b c : MS} : sSq a (sSq b c) = sSq (sSq a b) c := by
  funext C e h
  unfold sSq
  cases a C e h with
  | ok f h1 => cases f <;> rfl
  | ex c fs h1 => rfl
  | no => rfl
def Px (A : AS) (p m g : Nat) : AS := fun x => A x ∨ x = p ∨ x = m ∨ x = g
/-- a book, its moves and its lengths, to be changed -/
structure PutSt (A : AS) (h : HP) (l p m g : Nat) (B : Bk) (M : List (List Int)) (G : List Int) : Prop where
  na : ¬ A p ∧ ¬ A m ∧ ¬ A g
  ne : p ≠ m ∧ p ≠ g ∧ m ≠ g
  lim : Rd (Px A p m g) h (.ref l) (.lst (B.L.map limbU))
  pa : ∃ ds, h[p]? = some (.lst ds) ∧ AllR (Rd (Px A p m g) h) ds (B.P.map (partU B.ln B.pn))
  mo : ∃ ds, h[m]? = some (.lst ds) ∧ AllR (Rd (Px A p m g) h) ds (M.map intsU)
  lo : ∃ ds, h[g]? = some (.lst ds) ∧ AllR (Rd (Px A p m g) h) ds (G.map U.int)
theorem rdFlat {A A' : AS} {h h' : HP} {u : U} (f : FlatT u) : ∀ {d : D}, Rd A h d u → Rd A' h' d u := by
  induction f with
  | int => intro d r; rw [Rd.int_iff] at r; rw [r]; exact .int
  | str => intro d r; rw [Rd.str_iff] at r; rw [r]; exact .str
  | tup _ ih =>
    intro d r
    obtain ⟨ds, rfl, a⟩ := r.tup_inv
    exact .mk_tup ⟨a.len, fun j d u q1 q2 => ih u (List.mem_of_getElem? q2) (a.each j d u q1 q2)⟩
section
variable {C : Ctx} {A : AS} {h h' : HP} {l p m g : Nat} {B : Bk} {M : List (List Int)} {G : List Int}
theorem px_less : Tr (Px A p m g) A h h := ⟨fun i o _ q => q, fun i q => .inl (.inl q), Nat.le_refl _⟩
theorem PutSt.book (s : PutSt A h l p m g B M G) : Rd A h (.tup [.ref l, .ref p]) B.u := by
  obtain ⟨ds, q, a⟩ := s.pa
  exact .mk_tup (.cons (s.lim.tr px_less) (.one (.mk_lst s.na.1 q (a.imp fun d u r => r.tr px_less))))
theorem PutSt.mv (s : PutSt A h l p m g B M G) : Rd A h (.ref m) (.lst (M.map intsU)) := by
  obtain ⟨ds, q, a⟩ := s.mo
  exact .mk_lst s.na.2.1 q (a.imp fun d u r => r.tr px_less)
theorem PutSt.lg (s : PutSt A h l p m g B M G) : Rd A h (.ref g) (intsU G) := by
  obtain ⟨ds, q, a⟩ := s.lo
  exact .mk_lst s.na.2.2 q (a.imp fun d u r => r.tr px_less)
theorem PutSt.kq (s : PutSt A h l p m g B M G) (k : Kq h h') : PutSt A h' l p m g B M G := by
  refine ⟨s.na, s.ne, s.lim.kq k, ?_, ?_, ?_⟩
  · obtain ⟨ds, q, a⟩ := s.pa; exact ⟨ds, k _ _ q, a.imp fun d u r => r.kq k⟩
  · obtain ⟨ds, q, a⟩ := s.mo; exact ⟨ds, k _ _ q, a.imp fun d u r => r.kq k⟩
  · obtain ⟨ds, q, a⟩ := s.lo; exact ⟨ds, k _ _ q, a.imp fun d u r => r.kq k⟩
theorem PutSt.lt (s : PutSt A h l p m g B M G) : p < h.length ∧ m < h.length ∧ g < h.length := by
  obtain ⟨_, q1, _⟩ := s.pa
  obtain ⟨_, q2, _⟩ := s.mo
  obtain ⟨_, q3, _⟩ := s.lo
  exact ⟨(List.getElem?_eq_some_iff.mp q1).1, (List.getElem?_eq_some_iff.mp q2).1, (List.getElem?_eq_some_iff.mp q3).1⟩
theorem put_run (fu : 1000 < C.fuel) {q : Pt} (st : PutSt A h l p m g B M G) (bd : Bd A h) (o : PutOk B M G q) (ah : Ahead B) {nm : Str} {df : D} (rf : Rd A h df (q.u B.ln B.pn)) :
    ∃ h', runFn C f_l_put [.tup [.ref l, .ref p], .ref m, .ref g, .str nm, df] h = .ok .non h' ∧ PutSt A h' l p m g (B.add (nm, q)) (M ++ [mvP M B.P.length q]) (G ++ [lenF G q]) ∧ h.length ≤ h'.length ∧ ∀ i ob, i ≠ p → i ≠ m → i ≠ g → h[i]? = some ob → h'[i]? = some ob := by
  have s0 := sta0 (vs := [B.u, .lst (M.map intsU), intsU G, .str nm, q.u B.ln B.pn]) bd (ds := [.tup [.ref l, .ref p], .ref m, .ref g, .str nm, df]) (.cons st.book (.cons st.mv (.cons st.lg (.cons .str (.one rf))))) 6
  obtain ⟨Sg', e', h1, e1, s1, t1, k1⟩ := put_pre fu o (NM := .str nm) s0
  have e1 : _ = _ := e1
  have kq : Kq h h1 := fun i ob w => t1.keep i ob (fun ⟨j, u, e, mm⟩ => by cases mm) w
  obtain ⟨a, ea, ca⟩ := s1.ow 6 _ rfl
  obtain ⟨eS, ds6, q6, r6⟩ := ca
  have al : h.length ≤ a := by
    rcases t1.sub a ⟨6, _, rfl, by rw [eS]; simp⟩ with ⟨j, u, e, mm⟩ | w
    · cases mm
    · exact w
  obtain ⟨d8, e8, r8⟩ := s1.sh 8 _ rfl
  rw [Rd.int_iff] at r8
  subst r8
  have g0 := k1 0 (by simp)
  have g1 := k1 1 (by simp)
  have g2 := k1 2 (by simp)
  have g3 := k1 3 (by simp)
  have g4 := k1 4 (by simp)
  have v0 : e'[0]? = some (some (.tup [.ref l, .ref p])) := g0
  have v1 : e'[1]? = some (some (.ref m)) := g1
  have v2 : e'[2]? = some (some (.ref g)) := g2
  have v3 : e'[3]? = some (some (.str nm)) := g3
  have v4 : e'[4]? = some (some df) := g4
  have st1 := st.kq kq
  obtain ⟨pd, qp, rp⟩ := st1.pa
  obtain ⟨md, qm, rm⟩ := st1.mo
  obtain ⟨gd, qg, rg⟩ := st1.lo
  have lt := st.lt
  have pl : pd.length < sizeLine := sz_lt (by rw [rp.len, List.length_map]; have := o.p20; omega)
  have ml : md.length < sizeLine := sz_lt (by rw [rm.len, List.length_map, o.ml]; have := o.p20; omega)
  have gl : gd.length < sizeLine := sz_lt (by rw [rg.len, List.length_map, o.gl]; have := o.p20; omega)
  have E1 : (sEx (eBk okL mApp (eOp opIx (eV 0) (eC (.int 1))) (aC (eTup (aC (eV 3) (aC (eV 4) aN))) aN))) C e' h1 = .ok (.nx e') (h1.set p (.lst (pd ++ [.tup [.str nm, df]]))) := by
    have ok : okL (.ref p) h1 = true := by show (isL p _).isSome = true; rw [isL_cases.mpr (.inl qp)]; rfl
    have t2 : (2 : Nat) ≤ sizeLine := sz_le (by omega)
    have i1 : opIx (.tup [.ref l, .ref p]) (.int 1) h1 = .ok (.ref p) h1 := rfl
    simp only [sEx, eBk, eOp, eV, eC, eTup, aC, aN, v0, v3, v4, R.bind_ok, i1, ok, if_true, List.length_cons, List.length_nil, Nat.zero_add, Nat.reduceAdd, t2, mApp, qp, pl]
  have qm2 : (h1.set p (.lst (pd ++ [.tup [.str nm, df]])))[m]? = some (.lst md) := by rw [List.getElem?_set_ne st.ne.1]; exact qm
  have E2 : (sEx (eBk okL mApp (eV 1) (aC (eV 6) aN))) C e' (h1.set p (.lst (pd ++ [.tup [.str nm, df]]))) = .ok (.nx e') ((h1.set p (.lst (pd ++ [.tup [.str nm, df]]))).set m (.lst (md ++ [.ref a]))) := by
    have ok : okL (.ref m) (h1.set p (.lst (pd ++ [.tup [.str nm, df]]))) = true := by show (isL m _).isSome = true; rw [isL_cases.mpr (.inl qm2)]; rfl
    simp only [sEx, eBk, eV, aC, aN, v1, ea, R.bind_ok, ok, if_true, mApp, qm2, ml]
  have qg2 : ((h1.set p (.lst (pd ++ [.tup [.str nm, df]]))).set m (.lst (md ++ [.ref a])))[g]? = some (.lst gd) := by rw [List.getElem?_set_ne st.ne.2.2, List.getElem?_set_ne st.ne.2.1]; exact qg
  obtain ⟨h4, hh4⟩ : ∃ h4, h4 = ((h1.set p (.lst (pd ++ [.tup [.str nm, df]]))).set m (.lst (md ++ [.ref a]))).set g (.lst (gd ++ [.int (lenF G q)])) := ⟨_, rfl⟩
  have E3 : (sEx (eBk okL mApp (eV 2) (aC (eV 8) aN))) C e' ((h1.set p (.lst (pd ++ [.tup [.str nm, df]]))).set m (.lst (md ++ [.ref a]))) = .ok (.nx e') h4 := by
    have ok : okL (.ref g) ((h1.set p (.lst (pd ++ [.tup [.str nm, df]]))).set m (.lst (md ++ [.ref a]))) = true := by show (isL g _).isSome = true; rw [isL_cases.mpr (.inl qg2)]; rfl
    simp only [sEx, eBk, eV, aC, aN, v2, e8, R.bind_ok, ok, if_true, mApp, qg2, gl, hh4]
  have keep : ∀ i ob, i ≠ p → i ≠ m → i ≠ g → h1[i]? = some ob → h4[i]? = some ob := fun i ob n1 n2 n3 w => by
    rw [hh4, List.getElem?_set_ne (fun e => n3 e.symm), List.getElem?_set_ne (fun e => n2 e.symm), List.getElem?_set_ne (fun e => n1 e.symm)]; exact w
  have l4 : h4.length = h1.length := by rw [hh4, List.length_set, List.length_set, List.length_set]
  have T : Tr (Px A p m g) (Px A p m g) h1 h4 := ⟨fun i ob n w => keep i ob (fun e => n (.inr (.inl e))) (fun e => n (.inr (.inr (.inl e)))) (fun e => n (.inr (.inr (.inr e)))) w, fun i q => .inl q, by rw [l4]; exact Nat.le_refl _⟩
  refine ⟨h4, ?_, ⟨st.na, st.ne, st1.lim.tr T, ⟨pd ++ [.tup [.str nm, df]], ?_, ?_⟩, ⟨md ++ [.ref a], ?_, ?_⟩, ⟨gd ++ [.int (lenF G q)], ?_, ?_⟩⟩, by rw [l4]; exact kq.len, fun i ob n1 n2 n3 w => keep i ob n1 n2 n3 (kq i ob w)⟩
  · unfold runFn
    rw [if_pos (by rfl)]
    have eb : f_l_put.body = sSq putPre (sSq (sEx (eBk okL mApp (eOp opIx (eV 0) (eC (.int 1))) (aC (eTup (aC (eV 3) (aC (eV 4) aN))) aN))) (sSq (sEx (eBk okL mApp (eV 1) (aC (eV 6) aN))) (sEx (eBk okL mApp (eV 2) (aC (eV 8) aN))))) := by
      unfold putPre
      simp only [f_l_put, ← sSq_assoc]
      rfl
    rw [eb]
    have e1 : putPre C (List.map some [D.tup [D.ref l, D.ref p], D.ref m, D.ref g, D.str nm, df] ++ List.replicate (f_l_put.nn - [D.tup [D.ref l, D.ref p], D.ref m, D.ref g, D.str nm, df].length) none) h = .ok (.nx e') h1 := e1
    unfold sSq
    rw [e1]; simp only [R.bind_ok]
    rw [E1]; simp only [R.bind_ok]
    rw [E2]; simp only [R.bind_ok]
    rw [E3]; rfl
  · rw [hh4, List.getElem?_set_ne (fun e => st.ne.2.1 e.symm), List.getElem?_set_ne (fun e => st.ne.1 e.symm), List.getElem?_set_self (by have := kq.len; omega)]
  · rw [add_parts ah o.ok.js_lt]
    refine (rp.imp fun d u r => r.tr T).app (.one (.mk_tup (.cons .str (.one ?_))))
    exact rdFlat pu_flat rf
  · rw [hh4, List.getElem?_set_ne (fun e => st.ne.2.2 e.symm), List.getElem?_set_self (by rw [List.length_set]; have := kq.len; omega)]
  · rw [List.map_append]
    refine (rm.imp fun d u r => r.tr T).app (.one (.mk_lst (fun w => ?_) (keep a _ ?_ ?_ ?_ q6) ?_))
    · rcases w with w | w | w | w
      · have := bd a w; omega
      · omega
      · omega
      · omega
    · omega
    · omega
    · omega
    · refine ⟨r6.len, fun j d u q1 q2 => ?_⟩
      have := r6.each j d u q1 q2
      rw [List.getElem?_map] at q2
      cases e : (mvP M B.P.length q)[j]? with
      | none => rw [e] at q2; cases q2
      | some z => rw [e] at q2; cases q2; rw [Rd.int_iff] at this; rw [this]; exact .int
  · rw [hh4, List.getElem?_set_self (by rw [List.length_set, List.length_set]; have := kq.len; omega)]
  · rw [List.map_append]
    exact (rg.imp fun d u r => r.tr T).app (.one .int)
end
/-! a book that grows part by part: plain -/
/-- what is asked of a part that is drawn -/
structure PartOk (nl k : Nat) (M : List (List Int)) (G : List Int) (q : Pt) : Prop where
  ok : PtOk nl k q
  sd : ∀ js, q = .side js → ∃ a b, js = [a, b] ∧ PairOk M (a, b)
  rw4 : ∀ js, q = .row js → js.length ≤ 4
  ag : ∀ z j, q = .again z j → z * G.getD j 0 ≤ 10 ^ 40 ∨ z ≤ 3
theorem FormOk.part {nl k : Nat} {ws : List Str} {M : List (List Int)} {G : List Int} {most : Int} {q : Pt} (f : FormOk nl k ws M G most q) (hm : most ≤ 10 ^ 18) (hw : ∀ w ∈ ws, PyData.strOk w = true) (ml : M.length = k) : PartOk nl k M G q := by
  cases q with
  | raise l t b =>
    have f : l < nl ∧ 0 ≤ t ∧ t ≤ most ∧ 1 ≤ b ∧ b ≤ most := f
    exact ⟨⟨f.1, f.2.1, by omega, f.2.2.2.1, by omega⟩, fun js e => (by cases e), fun js e => (by cases e), fun z j e => by cases e⟩
  | hold b =>
    have f : 1 ≤ b ∧ b ≤ most := f
    exact ⟨⟨f.1, by omega⟩, fun js e => (by cases e), fun js e => (by cases e), fun z j e => by cases e⟩
  | ring w b =>
    have f : w ∈ ws ∧ 1 ≤ b ∧ b ≤ most := f
    exact ⟨⟨hw w f.1, f.2.1, by omega⟩, fun js e => (by cases e), fun js e => (by cases e), fun z j e => by cases e⟩
  | row js =>
    have f : 1 ≤ js.length ∧ js.length ≤ 4 ∧ ∀ j ∈ js, j < k := f
    exact ⟨⟨f.1, by omega, f.2.2⟩, fun js e => (by cases e), fun js e => (by cases e; exact f.2.1), fun z j e => by cases e⟩
  | side js =>
    have f : ∃ a b, js = [a, b] ∧ PairOk M (a, b) := f
    refine ⟨?_, fun js e => (by cases e; exact f), fun js e => (by cases e), fun z j e => by cases e⟩
    obtain ⟨a, b, rfl, p⟩ := f
    refine ⟨by show 2 ≤ 2; omega, by show 2 ≤ 4; omega, fun j hj => ?_⟩
    simp only [List.mem_cons, List.not_mem_nil, or_false] at hj
    have p1 := p.1
    have p2 := p.2.1
    dsimp only at p1 p2
    rcases hj with rfl | rfl <;> omega
  | again z j =>
    have f : 1 ≤ z ∧ z ≤ 10 ^ 18 ∧ j < k ∧ (z * G.getD j 0 ≤ 10 ^ 40 ∨ z ≤ 3) := f
    exact ⟨⟨f.1, f.2.1, f.2.2.1⟩, fun js e => (by cases e), fun js e => (by cases e), fun z j e => by cases e; exact f.2.2.2⟩
/-- how long a part may be -/
def lbd (i : Nat) : Int := 10 ^ 40 * 4 ^ i
theorem lbd_succ (i : Nat) : lbd (i + 1) = 4 * lbd i := by
  unfold lbd
  generalize (10 : Int) ^ 40 = Y
  rw [Int.pow_succ]
  generalize (4 : Int) ^ i = X
  rw [← Int.mul_assoc, Int.mul_comm]
theorem lbd_pos : ∀ i, 10 ^ 40 ≤ lbd i
  | 0 => by unfold lbd; decide
  | i + 1 => by rw [lbd_succ]; have := lbd_pos i; omega
theorem lbd_mono {i j : Nat} (h : i ≤ j) : lbd i ≤ lbd j := by
  induction h with
  | refl => exact Int.le_refl _
  | step _ ih => rw [Nat.succ_eq_add_one, lbd_succ]; have := lbd_pos i; omega
theorem lbd_20 : lbd 20 ≤ 10 ^ 60 := by unfold lbd; decide
structure Grow (B : Bk) (M : List (List Int)) (G : List Int) (nm : Nat → Str) : Prop where
  l1 : 1 ≤ B.L.length ∧ B.L.length ≤ 8
  ln : (B.L.map (·.1)).Nodup
  ls : ∀ x ∈ B.L, PyData.strOk x.1 = true ∧ 0 ≤ x.2 ∧ x.2 ≤ 10 ^ 18
  nm : ∀ i, i < B.P.length → B.pn i = nm i
  pt : ∀ i, i < B.P.length → PtOk B.L.length i (B.pt i)
  sd : ∀ i js, i < B.P.length → B.pt i = .side js → (∀ j ∈ js, B.mv j ≠ []) ∧ js.Pairwise (fun i j => ∀ z ∈ B.mv i, z ∉ B.mv j)
  ml : M.length = B.P.length
  mm : ∀ i z, z ∈ M.getD i [] ↔ z ∈ B.mv i
  mn : ∀ m ∈ M, m.Nodup ∧ ∀ z ∈ m, 0 ≤ z ∧ z < (B.L.length : Int)
  g : G = B.lens
  gb : ∀ i, i < B.P.length → 1 ≤ G.getD i 0 ∧ G.getD i 0 ≤ lbd i
section
variable {B : Bk} {M : List (List Int)} {G : List Int} {nm : Nat → Str}
theorem getD_snoc {α : Type} {xs : List α} {x d : α} {i : Nat} : (xs ++ [x]).getD i d = if i < xs.length then xs.getD i d else if i = xs.length then x else d := by
  rw [List.getD_eq_getElem?_getD, List.getD_eq_getElem?_getD]
  split
  · rename_i h; rw [List.getElem?_append_left h]
  · rename_i h
    rw [List.getElem?_append_right (by omega)]
    split
    · rename_i e; rw [e, Nat.sub_self]; rfl
    · rw [List.getElem?_eq_none (by show 1 ≤ _; omega)]; rfl
theorem Grow.m8 (g : Grow B M G nm) : ∀ m ∈ M, m.length ≤ 8 := fun m hm => by
  have h1 := uniq_bd (g.mn m hm).2
  have e : ∀ {xs : List Int}, xs.Nodup → uniq xs = xs := fun {xs} h => by
    induction xs with
    | nil => rfl
    | cons x xs ih =>
      have h2 := List.nodup_cons.mp h
      unfold uniq
      first
        | (rw [ih h2.2, if_neg h2.1])
        | (simp only [ih h2.2]; rw [List.filter_eq_self.mpr]; intro y hy; simp; intro e; exact h2.1 (e ▸ hy))
  rw [e (g.mn m hm).1] at h1
  have := g.l1.2
  omega
theorem Grow.ahead (g : Grow B M G nm) : Ahead B := fun i hi => (g.pt i hi).js_lt
theorem Grow.gl (g : Grow B M G nm) : G.length = B.P.length := by rw [g.g]; exact B.lens_len
theorem Grow.nd (g : Grow B M G nm) (inj : ∀ i j, i < B.P.length → j < B.P.length → nm i = nm j → i = j) : (B.P.map (·.1)).Nodup := by
  have e : B.P.map (·.1) = (List.range B.P.length).map nm := by
    apply List.ext_getElem?
    intro i
    rw [List.getElem?_map, List.getElem?_map]
    by_cases h : i < B.P.length
    · rw [Bk.P_at h, List.getElem?_range h]; exact congrArg some (g.nm i h)
    · rw [List.getElem?_eq_none (by omega), List.getElem?_eq_none (by rw [List.length_range]; omega)]; rfl
  rw [e, List.nodup_iff_pairwise_ne, List.pairwise_map]
  refine List.Pairwise.imp_of_mem ?_ (List.pairwise_lt_range (n := B.P.length))
  intro a b ha hb hab hh
  have := inj a b (List.mem_range.mp ha) (List.mem_range.mp hb) hh
  omega
theorem Grow.ps (g : Grow B M G nm) (ok : ∀ i, i < B.P.length → PyData.strOk (nm i) = true) : ∀ x ∈ B.P, PyData.strOk x.1 = true := fun x hx => by
  obtain ⟨i, hi, e⟩ := List.getElem_of_mem hx
  have h1 := Bk.P_at hi
  rw [List.getElem?_eq_getElem hi, e] at h1
  cases h1
  show PyData.strOk (B.pn i) = true
  rw [g.nm i hi]; exact ok i hi
theorem Grow.gb60 (g : Grow B M G nm) (p20 : B.P.length ≤ 20) : ∀ j, j < B.P.length → 0 ≤ G.getD j 0 ∧ G.getD j 0 ≤ 10 ^ 60 := fun j hj => by
  have h1 := g.gb j hj
  have h2 := lbd_mono (show j ≤ 20 by omega)
  have h3 := lbd_20
  omega
theorem Grow.put (g : Grow B M G nm) (p20 : B.P.length ≤ 20) (inj : ∀ i j, i < B.P.length → j < B.P.length → nm i = nm j → i = j) (ok : ∀ i, i < B.P.length → PyData.strOk (nm i) = true) {q : Pt} (o : PartOk B.L.length B.P.length M G q) : PutOk B M G q :=
  ⟨o.ok, g.nd inj, g.ln, g.l1.2, p20, fun x hx => (g.ls x hx).1, g.ps ok, g.ml, g.m8, g.gl, g.gb60 p20⟩
theorem add_mv {x : Str × Pt} {i : Nat} : (B.add x).mv i = if i < B.P.length then B.mv i else if i = B.P.length then mvF B.mvs x.2 else [] := by
  unfold Bk.mv
  rw [add_mvs, getD_snoc, B.mvs_len]
theorem sum_le4 {js : List Nat} {f : Nat → Int} {m : Int} (h : ∀ j ∈ js, f j ≤ m) : (js.map f).sum ≤ (js.length : Int) * m := by
  induction js with
  | nil => simp
  | cons j js ih =>
    have h1 := ih fun i hi => h i (List.mem_cons_of_mem _ hi)
    have h2 := h j (List.mem_cons_self ..)
    rw [List.map_cons, List.sum_cons, List.length_cons, show ((js.length + 1 : Nat) : Int) = (js.length : Int) + 1 by omega, Int.add_mul, Int.one_mul]
    omega
theorem Grow.add (g : Grow B M G nm) {q : Pt} (o : PartOk B.L.length B.P.length M G q) {n : Str} (hn : n = nm B.P.length) : Grow (B.add (n, q)) (M ++ [mvP M B.P.length q]) (G ++ [lenF G q]) nm := by
  have jl := o.ok.js_lt
  have lt1 : ∀ {i}, i < (B.add (n, q)).P.length → i < B.P.length ∨ i = B.P.length := fun {i} h => by rw [add_len] at h; omega
  refine ⟨g.l1, g.ln, g.ls, fun i hi => ?_, fun i hi => ?_, fun i js hi e => ?_, by rw [List.length_append, add_len, g.ml]; rfl, fun i z => ?_, fun m hm => ?_, ?_, fun i hi => ?_⟩
  · rcases lt1 hi with h | h
    · rw [add_pn_lt h]; exact g.nm i h
    · subst h; rw [add_pn_eq]; exact hn
  · rcases lt1 hi with h | h
    · rw [add_pt_lt h]; exact g.pt i h
    · subst h; rw [add_pt_eq]; exact o.ok
  · have mvlt : ∀ j, j < B.P.length → (B.add (n, q)).mv j = B.mv j := fun j hj => by rw [add_mv, if_pos hj]
    rcases lt1 hi with h | h
    · rw [add_pt_lt h] at e
      obtain ⟨s1, s2⟩ := g.sd i js h e
      have jj : ∀ j ∈ js, j < B.P.length := fun j hj => by
        have := (g.pt i h).js_lt j (by rw [e]; exact hj)
        omega
      refine ⟨fun j hj => by rw [mvlt j (jj j hj)]; exact s1 j hj, List.Pairwise.imp_of_mem ?_ s2⟩
      intro a b ha hb hab
      rw [mvlt a (jj a ha), mvlt b (jj b hb)]; exact hab
    · subst h
      rw [add_pt_eq] at e
      obtain ⟨a, b, rfl, p⟩ := o.sd js e
      obtain ⟨p1, p2, p3, p4, p5⟩ := p
      dsimp only at p1 p2 p3 p4 p5
      rw [g.ml] at p1 p2
      have ne : ∀ i, M.getD i [] ≠ [] → B.mv i ≠ [] := fun i h1 h2 => by
        obtain ⟨z, hz⟩ := List.exists_mem_of_ne_nil _ h1
        have := (g.mm i z).mp hz
        rw [h2] at this; cases this
      refine ⟨fun j hj => ?_, ?_⟩
      · simp only [List.mem_cons, List.not_mem_nil, or_false] at hj
        rcases hj with rfl | rfl
        · rw [mvlt _ p1]; exact ne _ p3
        · rw [mvlt _ p2]; exact ne _ p4
      · rw [List.pairwise_cons]
        refine ⟨fun j hj z h1 h2 => ?_, List.pairwise_singleton _ _⟩
        rw [List.mem_singleton.mp hj, mvlt _ p2] at h2
        rw [mvlt _ p1] at h1
        exact p5 z ((g.mm a z).mpr h1) ((g.mm b z).mpr h2)
  · rw [getD_snoc, add_mv, g.ml]
    split
    · exact g.mm i z
    · split
      · rw [mvP_mem jl, mvF_mem]
        exact or_congr Iff.rfl ⟨fun ⟨j, h1, h2⟩ => ⟨j, h1, (g.mm j z).mp h2⟩, fun ⟨j, h1, h2⟩ => ⟨j, h1, (g.mm j z).mpr h2⟩⟩
      · exact Iff.rfl
  · rcases List.mem_append.mp hm with h | h
    · exact g.mn m h
    · rw [List.mem_singleton.mp h]
      refine ⟨?_, fun z hz => ?_⟩
      · unfold mvP
        exact uni_nd (fun m hm => (g.mn m hm).1) (by cases q <;> first | exact List.nodup_nil | exact List.pairwise_singleton _ _)
      · rcases (mvP_mem jl).mp hz with h1 | ⟨j, h1, h2⟩
        · cases q with
          | raise l t b =>
            have l1 : l < B.L.length := o.ok.1
            have h1 : z ∈ [(l : Int)] := h1
            rw [List.mem_singleton.mp h1]
            show _ ∧ _ < (B.L.length : Int)
            omega
          | _ => cases h1
        · rw [List.getD_eq_getElem?_getD] at h2
          cases e : M[j]? with
          | none => rw [e] at h2; cases h2
          | some w => rw [e] at h2; exact (g.mn w (List.mem_of_getElem? e)).2 z h2
  · rw [add_lens, ← g.g]
  · rw [getD_snoc, g.gl]
    rcases lt1 hi with h | h
    · rw [if_pos h]; exact g.gb i h
    · subst h
      rw [if_neg (Nat.lt_irrefl _), if_pos rfl]
      have P0 := lbd_pos B.P.length
      have small : ∀ b : Int, 1 ≤ b → b ≤ 10 ^ 18 → 1 ≤ b ∧ b ≤ lbd B.P.length := fun b h1 h2 => ⟨h1, by omega⟩
      have le4 : ∀ j, j < B.P.length → 4 * G.getD j 0 ≤ lbd B.P.length := fun j hj => by
        have h1 := (g.gb j hj).2
        have h2 := lbd_mono (show j ≤ B.P.length - 1 by omega)
        have h3 := lbd_succ (B.P.length - 1)
        rw [show B.P.length - 1 + 1 = B.P.length by omega] at h3
        omega
      cases q with
      | raise l t b => exact small b o.ok.2.2.2.1 o.ok.2.2.2.2
      | hold b => exact small b o.ok.1 o.ok.2
      | ring w b => exact small b o.ok.2.1 o.ok.2.2
      | row js =>
        have jl : ∀ j ∈ js, j < B.P.length := jl
        show 1 ≤ (js.map fun j => G.getD j 0).sum ∧ (js.map fun j => G.getD j 0).sum ≤ _
        have h1 := sum_ge (js := js) (f := fun j => G.getD j 0) fun j hj => (g.gb j (jl j hj)).1
        have h2 := o.ok.1
        refine ⟨by omega, ?_⟩
        have h4 := o.rw4 js rfl
        obtain ⟨X, hX⟩ : ∃ X, X = lbd (B.P.length - 1) := ⟨_, rfl⟩
        have h5 := sum_le4 (js := js) (f := fun j => G.getD j 0) (m := X) fun j hj => by
          have a1 := (g.gb j (jl j hj)).2
          have a2 := lbd_mono (show j ≤ B.P.length - 1 by have := jl j hj; omega)
          omega
        have h6 := lbd_succ (B.P.length - 1)
        have b1 : 1 ≤ B.P.length := by
          cases js with
          | nil => exact absurd h2 (by decide)
          | cons j js => have := jl j (List.mem_cons_self ..); omega
        rw [show B.P.length - 1 + 1 = B.P.length by omega, ← hX] at h6
        have X0 := lbd_pos (B.P.length - 1)
        rw [← hX] at X0
        have h7 : (js.length : Int) * X ≤ 4 * X := Int.mul_le_mul_of_nonneg_right (by omega) (by omega)
        omega
      | side js =>
        obtain ⟨a, b, rfl, p⟩ := o.sd js rfl
        have ne : ([a, b].map fun j => G.getD j 0) ≠ [] := by simp
        obtain ⟨m, e1, m1, _⟩ := maxL_ex ne
        show 1 ≤ (maxL ([a, b].map fun j => G.getD j 0)).getD 0 ∧ (maxL ([a, b].map fun j => G.getD j 0)).getD 0 ≤ _
        rw [e1, Option.getD_some]
        obtain ⟨j, hj, rfl⟩ := List.mem_map.mp m1
        have h1 := g.gb j (jl j hj)
        have h2 := le4 j (jl j hj)
        omega
      | again z j =>
        have jk : j < B.P.length := jl j (List.mem_cons_self ..)
        show 1 ≤ z * G.getD j 0 ∧ z * G.getD j 0 ≤ _
        have h1 := (g.gb j jk).1
        have z1 : 1 ≤ z := o.ok.1
        have h3 := Int.mul_le_mul z1 h1 (by omega) (by omega)
        refine ⟨by omega, ?_⟩
        rcases o.ag z j rfl with h | h
        · omega
        · have h2 := le4 j jk
          have h4 : z * G.getD j 0 ≤ 3 * G.getD j 0 := Int.mul_le_mul_of_nonneg_right h (by omega)
          omega
theorem Grow.sound (g : Grow B M G nm) (p1 : 1 ≤ B.P.length) (p20 : B.P.length ≤ 20) (inj : ∀ i j, i < B.P.length → j < B.P.length → nm i = nm j → i = j) (ok : ∀ i, i < B.P.length → PyData.strOk (nm i) = true) : Sound B where
  l1 := g.l1
  p1 := ⟨p1, by omega⟩
  ln := g.ln
  pn := g.nd inj
  ls := g.ls
  ps := g.ps ok
  pt := fun k x q => by
    have hk := (List.getElem?_eq_some_iff.mp q).1
    have := g.pt k hk
    rw [(Bk.pt_at q).1] at this
    exact this
  lgb := fun k hk => by
    have := (g.gb60 p20 k hk).2
    rw [g.g] at this
    exact this
  mvs := fun k js e hk => g.sd k js hk e
end
/-! a book drawn: the loop -/
section
variable {A : AS} {h : HP} {e : Ev} {pe : List Sl} {k : Nat} {d : D} {u : U}
def Slots (A : AS) (h : HP) (e : Ev) (k : Nat) (pe : List Sl) : Prop := ∀ (i : Nat) (u : U), pe[i]? ≠ some (.o u) ∧ (pe[i]? = some (.s u) → ∃ d, e[k + i]? = some (some d) ∧ Rd A h d u)
theorem slE : Slots A h e k [] := fun i u => ⟨fun q => by simp at q, fun q => by simp at q⟩
theorem slN (s : Slots A h e (k + 1) pe) : Slots A h e k (.n :: pe) := fun i u => by
  cases i with
  | zero => exact ⟨fun q => (by cases q), fun q => by cases q⟩
  | succ i => have := s i u; rw [show k + (i + 1) = k + 1 + i by omega]; exact this
theorem slS (q : e[k]? = some (some d)) (r : Rd A h d u) (s : Slots A h e (k + 1) pe) : Slots A h e k (.s u :: pe) := fun i u => by
  cases i with
  | zero => exact ⟨fun q => (by cases q), fun w => by cases w; exact ⟨d, q, r⟩⟩
  | succ i => have := s i u; rw [show k + (i + 1) = k + 1 + i by omega]; exact this
theorem slSta (b : Bd A h) (l : e.length = pe.length) (s : Slots A h e 0 pe) : Sta A (fun _ => []) e h pe := by
  refine ⟨l, fun i u q => ?_, fun i u q => absurd q (s i u).1, fun i j u v _ q => absurd q (s i u).1, b, fun a ⟨i, u, q, _⟩ => absurd q (s i u).1⟩
  obtain ⟨d, e1, r⟩ := (s i u).2 q
  rw [Nat.zero_add] at e1
  exact ⟨d, e1, r.tr ⟨fun _ _ _ q => q, fun a q => .inl (q.elim id fun ⟨i, u, _, m⟩ => by cases m), Nat.le_refl _⟩⟩
/-- behind statements that own nothing -/
theorem xs_go {C : Ctx} {io : List Nat} {pe1 : List Sl} {s : MS} (x : Xs C io pe s (.nx pe1)) (st : Sta A (fun _ => []) e h pe) : ∃ Sg' e' h', s C e h = .ok (.nx e') h' ∧ Sta A Sg' e' h' pe1 ∧ Kq h h' ∧ (∀ i ∈ io, e'[i]? = e[i]?) ∧ ∀ a, Ow Sg' pe1 a → h.length ≤ a := by
  obtain ⟨Sg', e', h', e1, s1, t1, k1⟩ := x st
  exact ⟨Sg', e', h', e1, s1, fun i ob w => t1.keep i ob (fun ⟨j, u, e, mm⟩ => by cases mm) w, k1, fun a w => (t1.sub a w).elim (fun ⟨j, u, e, mm⟩ => by cases mm) id⟩
end
/-- the calls that the drawing of a book makes -/
structure BkC (C : Ctx) : Prop where
  fu : 1000 < C.fuel
  tk : TakeF C
  nf : NumF C
  pool : ∀ (ns : List Int) (k : Nat), ns.length ≤ 63 → k ≤ 200 → ∃ v, Po v ∧ Ff (C.call 201) [.fz (ns.map U.int), .int (k : Int)] (poU v)
  word : ∀ p k : Nat, p < 4 → k < 25 → Fu (C.call 202) [.int (p : Int), .int (k : Int)] (.str (wordV p k))
  form : ∀ (B : Bk) (M : List (List Int)) (G : List Int) (nm : Nat → Str) (v most : Int), Grow B M G nm → B.P.length ≤ 20 → (∀ i, i < B.P.length → PyData.strOk (nm i) = true) → Po v → (1 ≤ most ∧ most ≤ 10 ^ 18) →
    ∃ q v', PartOk B.L.length B.P.length M G q ∧ FnO (C.call 206) [.o (poU v), .s B.u, .s (.lst (M.map intsU)), .s (intsU G), .s (.int most)] (q.u B.ln B.pn) [.o (poU v'), .s B.u, .s (.lst (M.map intsU)), .s (intsU G), .s (.int most)]
  put : ∀ {A : AS} {h : HP} {l p m g : Nat} {B : Bk} {M : List (List Int)} {G : List Int} {q : Pt}, PutSt A h l p m g B M G → Bd A h → PutOk B M G q → Ahead B → ∀ {nm : Str} {df : D}, Rd A h df (q.u B.ln B.pn) →
    ∃ h', C.call 207 [.tup [.ref l, .ref p], .ref m, .ref g, .str nm, df] h = .ok .non h' ∧ PutSt A h' l p m g (B.add (nm, q)) (M ++ [mvP M B.P.length q]) (G ++ [lenF G q]) ∧ h.length ≤ h'.length ∧ ∀ i ob, i ≠ p → i ≠ m → i ≠ g → h[i]? = some ob → h'[i]? = some ob
/-- the parts' names -/
def nmL (L : List (Str × Int)) (place : Nat) (called : Int) (i : Nat) : Str := if called = 1 ∧ i = 1 then (L.getD 0 ("", 0)).1 else wordV place i
structure EnvB (e : Ev) (dns : D) (start most place called many : Int) (l p m g : Nat) : Prop where
  len : e.length = 15
  v0 : e[0]? = some (some dns)
  v1 : e[1]? = some (some (.int start))
  v2 : e[2]? = some (some (.int most))
  v4 : e[4]? = some (some (.int place))
  v5 : e[5]? = some (some (.int called))
  v7 : e[7]? = some (some (.int many))
  v8 : e[8]? = some (some (.tup [.ref l, .ref p]))
  v9 : e[9]? = some (some (.ref m))
  v10 : e[10]? = some (some (.ref g))
theorem EnvB.to {e e' : Ev} {dns : D} {start most place called many : Int} {l p m g : Nat} (n : EnvB e dns start most place called many l p m g) (hl : e'.length = 15) (k : ∀ i ∈ [0, 1, 2, 4, 5, 7, 8, 9, 10], e'[i]? = e[i]?) : EnvB e' dns start most place called many l p m g :=
  ⟨hl, (k 0 (by simp)).trans n.v0, (k 1 (by simp)).trans n.v1, (k 2 (by simp)).trans n.v2, (k 4 (by simp)).trans n.v4, (k 5 (by simp)).trans n.v5, (k 7 (by simp)).trans n.v7, (k 8 (by simp)).trans n.v8, (k 9 (by simp)).trans n.v9, (k 10 (by simp)).trans n.v10⟩
/-- all that stands but the three lists -/
def Kp3 (h h' : HP) (p m g : Nat) : Prop := h.length ≤ h'.length ∧ ∀ i ob, i ≠ p → i ≠ m → i ≠ g → h[i]? = some ob → h'[i]? = some ob
/-- a put of a part with a name at slot 12 and a form -/
theorem put_go {C : Ctx} (K : BkC C) {A : AS} {h : HP} {e : Ev} {dns : D} {start most place called many : Int} {l p m g : Nat} {B : Bk} {M : List (List Int)} {G : List Int} {nm : Nat → Str} {q : Pt} {Sg : Nat → List Nat} {pe : List Sl} {a b : ME} {Y : Str}
    (bd : Bd A h) (n : EnvB e dns start most place called many l p m g) (st : PutSt A h l p m g B M G) (gr : Grow B M G nm) (p20 : B.P.length ≤ 20) (inj : ∀ i j, i < B.P.length → j < B.P.length → nm i = nm j → i = j) (ok : ∀ i, i < B.P.length → PyData.strOk (nm i) = true) (po : PartOk B.L.length B.P.length M G q)
    (sta : Sta A Sg e h pe) (ow : ∀ a, ¬ Ow Sg pe a) (ha : Xp C pe a (.str Y)) (hY : Y = nm B.P.length) (hb : Xp C pe b (q.u B.ln B.pn)) :
    ∃ h2, sEx (eCall 207 (aC (eV 8) (aC (eV 9) (aC (eV 10) (aC a (aC b aN))))) []) C e h = .ok (.nx e) h2 ∧ PutSt A h2 l p m g (B.add (Y, q)) (M ++ [mvP M B.P.length q]) (G ++ [lenF G q]) ∧ Grow (B.add (Y, q)) (M ++ [mvP M B.P.length q]) (G ++ [lenF G q]) nm ∧ Kp3 h h2 p m g := by
  obtain ⟨d1, h1, e1, k1, r1⟩ := ha sta
  rw [Rd.str_iff] at r1
  subst r1
  obtain ⟨d2, h2, e2, k2, r2⟩ := hb (sta.kq k1)
  have k := k1.trans k2
  have bd2 : Bd A h2 := fun a w => Nat.lt_of_lt_of_le (bd a w) k.len
  have r2 : Rd A h2 d2 (q.u B.ln B.pn) := rdFlat pu_flat r2
  obtain ⟨h3, e3, s3, l3, kp⟩ := K.put (st.kq k) bd2 (gr.put p20 inj ok po) gr.ahead (nm := Y) r2
  refine ⟨h3, ?_, s3, gr.add po hY, Nat.le_trans k.len l3, fun i ob n1 n2 n3 w => kp i ob n1 n2 n3 (k i ob w)⟩
  unfold sEx eCall
  simp only [aC, aN, eV, n.v8, n.v9, n.v10, R.bind_ok, e1, e2, List.append_nil]
  rw [e3]; rfl
theorem body_run {C : Ctx} (K : BkC C) {ns : List Int} {A : AS} {h : HP} {e : Ev} {dns : D} {start : Nat} {most called many : Int} {place l p m g : Nat} {B : Bk} {M : List (List Int)} {G : List Int}
    (hp : place < 4) (bd : Bd A h) (n : EnvB e dns (start : Int) most (place : Int) called many l p m g) (rn : Rd A h dns (.fz (ns.map U.int))) (st : PutSt A h l p m g B M G) (gr : Grow B M G (nmL B.L place called)) (p20 : B.P.length ≤ 20)
    (inj : ∀ i j, i < B.P.length → j < B.P.length → nmL B.L place called i = nmL B.L place called j → i = j) (ok : ∀ i, i < B.P.length → PyData.strOk (nmL B.L place called i) = true)
    {v v' : Int} {q : Pt} (PO : Ff (C.call 201) [.fz (ns.map U.int), .int ((start + 1 + B.P.length : Nat) : Int)] (poU v)) (po : PartOk B.L.length B.P.length M G q) (FO : FnO (C.call 206) [.o (poU v), .s B.u, .s (.lst (M.map intsU)), .s (intsU G), .s (.int most)] (q.u B.ln B.pn) [.o (poU v'), .s B.u, .s (.lst (M.map intsU)), .s (intsU G), .s (.int most)]) :
    ∃ e2 h2, b_l_book_1 C (e.set 11 (some (.int (B.P.length : Int)))) h = .ok (.nx e2) h2 ∧ EnvB e2 dns start most place called many l p m g ∧ Kp3 h h2 p m g ∧ PutSt A h2 l p m g (B.add (nmL B.L place called B.P.length, q)) (M ++ [mvP M B.P.length q]) (G ++ [lenF G q]) ∧ Grow (B.add (nmL B.L place called B.P.length, q)) (M ++ [mvP M B.P.length q]) (G ++ [lenF G q]) (nmL B.L place called) := by
  have fu := K.fu
  obtain ⟨k, hk⟩ : ∃ k, k = B.P.length := ⟨_, rfl⟩
  obtain ⟨Y, hY⟩ : ∃ Y, Y = nmL B.L place called B.P.length := ⟨_, rfl⟩
  obtain ⟨NS, hNS⟩ : ∃ NS, NS = U.fz (ns.map U.int) := ⟨_, rfl⟩
  rw [← hY, ← hk]
  obtain ⟨BU, hBU⟩ : ∃ BU, BU = B.u := ⟨_, rfl⟩
  obtain ⟨MU, hMU⟩ : ∃ MU, MU = U.lst (M.map intsU) := ⟨_, rfl⟩
  rw [← hk] at PO
  rw [← hNS] at PO rn
  rw [← hBU, ← hMU] at FO
  have WO := K.word place k hp (by omega)
  have n1 : EnvB (e.set 11 (some (.int (k : Int)))) dns start most place called many l p m g := n.to (by rw [List.length_set]; exact n.len) fun i hi => by
    rw [List.getElem?_set_ne fun e => by subst e; simp at hi]
  have v11 : (e.set 11 (some (D.int (k : Int))))[11]? = some (some (.int (k : Int))) := List.getElem?_set_self (by rw [n.len]; omega)
  have sta := slSta (pe := [.s NS, .s (.int (start : Int)), .s (.int most), .n, .s (.int (place : Int)), .s (.int called), .n, .n, .s BU, .s MU, .s (intsU G), .s (.int (k : Int)), .n, .n, .n]) bd n1.len
    (slS n1.v0 rn (slS n1.v1 .int (slS n1.v2 .int (slN (slS n1.v4 .int (slS n1.v5 .int (slN (slN (slS n1.v8 (hBU ▸ st.book) (slS n1.v9 (hMU ▸ st.mv) (slS n1.v10 st.lg (slS v11 .int (slN (slN (slN slE)))))))))))))))
  have ix0 : O2 opIx BU (.int 0) (.lst (B.L.map limbU)) := by rw [hBU]; exact o_ixt (at_int (by decide) rfl)
  have ix00 : O2 opIx (.lst (B.L.map limbU)) (.int 0) (limbU (B.ln 0, (B.L.getD 0 ("", 0)).2)) := o_ixl (at_nat (k := 0) (by rw [List.getElem?_map, Bk.L_at (show 0 < B.L.length by have := gr.l1; omega)]; rfl))
  have ix000 : O2 opIx (limbU (B.ln 0, (B.L.getD 0 ("", 0)).2)) (.int 0) (.str (B.ln 0)) := o_ixt (at_int (by decide) rfl)
  have cE : O2 opEq (.int called) (.int 1) (.bl (decide (called = 1))) := o_eq
  have kE : O2 opEq (.int (k : Int)) (.int 1) (.bl (decide ((k : Int) = 1))) := o_eq
  have X1 : Xs C [0, 1, 2, 4, 5, 7, 8, 9, 10, 11] [.s NS, .s (.int (start : Int)), .s (.int most), .n, .s (.int (place : Int)), .s (.int called), .n, .n, .s BU, .s MU, .s (intsU G), .s (.int (k : Int)), .n, .n, .n]
      (sSq (sAs (gN 12) (eCall 202 (aC (eV 4) (aC (eV 11) aN)) [])) (sIf (tAn (tV (eOp opEq (eV 5) (eC (.int 1)))) (tV (eOp opEq (eV 11) (eC (.int 1))))) (sAs (gN 12) (eOp opIx (eOp opIx (eOp opIx (eV 8) (eC (.int 0))) (eC (.int 0))) (eC (.int 0)))) sSk))
      (.nx [.s NS, .s (.int (start : Int)), .s (.int most), .n, .s (.int (place : Int)), .s (.int called), .n, .n, .s BU, .s MU, .s (intsU G), .s (.int (k : Int)), .s (.str Y), .n, .n]) := by
    by_cases c : called = 1
    · rw [decide_eq_true c] at cE
      by_cases c2 : k = 1
      · rw [decide_eq_true (by omega)] at kE
        have e : Y = B.ln 0 := by rw [hY]; unfold nmL; rw [if_pos ⟨c, by omega⟩]; rfl
        rw [e]
        (repeat first | fail "p" | with_reducible exact WO | with_reducible exact cE | with_reducible exact kE | with_reducible exact ix0 | with_reducible exact ix00 | with_reducible exact ix000 | fail)
      · rw [decide_eq_false (by omega)] at kE
        have e : Y = wordV place k := by rw [hY]; unfold nmL; rw [if_neg (by omega), hk]
        rw [e]
        (repeat first | fail "p" | with_reducible exact WO | with_reducible exact cE | with_reducible exact kE | fail)
    · rw [decide_eq_false c] at cE
      have e : Y = wordV place k := by rw [hY]; unfold nmL; rw [if_neg fun w => c w.1, hk]
      rw [e]
      (repeat first | fail "p" | with_reducible exact WO | with_reducible exact cE | fail)
  obtain ⟨Sg', e', h', e1, s1, kq, k1, ow⟩ := xs_go X1 sta
  have n2 : EnvB e' dns start most place called many l p m g := n1.to s1.len fun i hi => k1 i (by
    simp only [List.mem_cons, List.not_mem_nil, or_false] at hi ⊢; omega)
  have bd' : Bd A h' := fun a w => Nat.lt_of_lt_of_le (bd a w) kq.len
  have ad : O2 opAdd (.int ((start : Int) + 1)) (.int (k : Int)) (.int ((start + 1 + k : Nat) : Int)) := by
    have := o_add (p := (start : Int) + 1) (q := (k : Int))
    rwa [show (start : Int) + 1 + (k : Int) = ((start + 1 + k : Nat) : Int) by omega] at this
  have hb : Xp C [.s NS, .s (.int (start : Int)), .s (.int most), .n, .s (.int (place : Int)), .s (.int called), .n, .n, .s BU, .s MU, .s (intsU G), .s (.int (k : Int)), .s (.str Y), .n, .n] (eCall 206 (aC (eCall 201 (aC (eV 0) (aC (eOp opAdd (eOp opAdd (eV 1) (eC (.int 1))) (eV 11)) aN)) []) (aC (eV 8) (aC (eV 9) (aC (eV 10) (aC (eV 2) aN))))) []) (q.u B.ln B.pn) := by
    refine x_callf (us := [BU, MU, intsU G, .int most]) (f_call ?_ PO) ?_ FO
    · (repeat first | fail "p" | with_reducible exact ad | fail)
    · (repeat first | fail "p" | fail)
  obtain ⟨h3, e3, s3, g3, kp⟩ := put_go K (a := eV 12) (Y := Y) bd' n2 (st.kq kq) gr p20 inj ok po s1 (fun a ⟨i, u, w, _⟩ => by
    have := List.mem_of_getElem? w
    simp at this) (x_v rfl) hY hb
  refine ⟨e', h3, ?_, n2, ⟨Nat.le_trans kq.len kp.1, fun i ob n1 n2 n3 w => kp.2 i ob n1 n2 n3 (kq i ob w)⟩, by rw [← hk] at s3; exact s3, by rw [← hk] at g3; exact g3⟩
  unfold b_l_book_1
  rw [sSq_assoc]
  unfold sSq at e1 ⊢
  rw [e1]; simp only [R.bind_ok]
  exact e3
/-! a book drawn: its parts one by one -/
abbrev BMG := Bk × List (List Int) × List Int
def stepB (nm : Nat → Str) (S : BMG) (q : Pt) : BMG := (S.1.add (nm S.1.P.length, q), S.2.1 ++ [mvP S.2.1 S.1.P.length q], S.2.2 ++ [lenF S.2.2 q])
def StepOk (C : Ctx) (ns : List Int) (start : Nat) (most : Int) (nm : Nat → Str) (S S' : BMG) : Prop :=
  ∃ (v v' : Int) (q : Pt), Ff (C.call 201) [.fz (ns.map U.int), .int ((start + 1 + S.1.P.length : Nat) : Int)] (poU v) ∧ PartOk S.1.L.length S.1.P.length S.2.1 S.2.2 q ∧
    FnO (C.call 206) [.o (poU v), .s S.1.u, .s (.lst (S.2.1.map intsU)), .s (intsU S.2.2), .s (.int most)] (q.u S.1.ln S.1.pn) [.o (poU v'), .s S.1.u, .s (.lst (S.2.1.map intsU)), .s (intsU S.2.2), .s (.int most)] ∧ S' = stepB nm S q
theorem seq_ex {C : Ctx} (K : BkC C) {ns : List Int} (l63 : ns.length ≤ 63) {start : Nat} {most : Int} {nm : Nat → Str} (hs : start ≤ 100) (hm : 1 ≤ most ∧ most ≤ 10 ^ 18) {L : List (Str × Int)} (g0 : Grow ⟨L, []⟩ [] [] nm) (ok : ∀ i, i < 25 → PyData.strOk (nm i) = true) :
    ∀ n, n ≤ 20 → ∃ sq : Nat → BMG, sq 0 = (⟨L, []⟩, [], []) ∧ (∀ j, j < n → StepOk C ns start most nm (sq j) (sq (j + 1))) ∧ ∀ j, j ≤ n → Grow (sq j).1 (sq j).2.1 (sq j).2.2 nm ∧ (sq j).1.L = L ∧ (sq j).1.P.length = j
  | 0, _ => ⟨fun _ => (⟨L, []⟩, [], []), rfl, fun j h => absurd h (Nat.not_lt_zero _), fun j h => by
    have : j = 0 := by omega
    subst this; exact ⟨g0, rfl, rfl⟩⟩
  | n + 1, hn => by
    obtain ⟨sq, s0, s1, s2⟩ := seq_ex K l63 hs hm g0 ok n (by omega)
    obtain ⟨gr, hL, hl⟩ := s2 n (Nat.le_refl _)
    obtain ⟨v, pv, PO⟩ := K.pool ns (start + 1 + (sq n).1.P.length) l63 (by omega)
    obtain ⟨q, v', po, FO⟩ := K.form (sq n).1 (sq n).2.1 (sq n).2.2 nm v most gr (by omega) (fun i hi => ok i (by omega)) pv hm
    refine ⟨fun i => if i ≤ n then sq i else stepB nm (sq n) q, by simp only [Nat.zero_le, if_true]; exact s0, fun j hj => ?_, fun j hj => ?_⟩
    · by_cases c : j < n
      · simp only [show j ≤ n by omega, show j + 1 ≤ n by omega, if_true]; exact s1 j c
      · have : j = n := by omega
        subst this
        simp only [Nat.le_refl, if_true, show ¬ j + 1 ≤ j by omega, if_false]
        exact ⟨v, v', q, PO, po, FO, rfl⟩
    · by_cases c : j ≤ n
      · simp only [c, if_true]; exact s2 j c
      · have : j = n + 1 := by omega
        subst this
        simp only [show ¬ n + 1 ≤ n by omega, if_false]
        exact ⟨gr.add po rfl, hL, by show ((sq n).1.add _).P.length = _; rw [add_len, hl]⟩
theorem for_goB {it : Itr} {g : Tg} {b : MS} {C : Ctx} {n : Nat} (ds : Nat → D) (Pv : Nat → Ev → HP → Prop) (hi : ∀ j h, j < n → it j h = some (some (ds j))) (hd : ∀ h, it n h = some none)
    (hs : ∀ j e h, j < n → Pv j e h → ∃ e1, g e (ds j) = some e1 ∧ ∃ e2 h2, b C e1 h = .ok (.nx e2) h2 ∧ Pv (j + 1) e2 h2) :
    ∀ (m j : Nat) (e : Ev) (h : HP), j + m = n → Pv j e h → ∀ fuel, m < fuel → ∃ e2 h2, forN it g b fuel j C e h = .ok (.nx e2) h2 ∧ Pv n e2 h2
  | 0, j, e, h, hj, p, fuel, hf => by
    obtain ⟨f, rfl⟩ : ∃ f, fuel = f + 1 := ⟨fuel - 1, by omega⟩
    have : j = n := by omega
    subst this
    exact ⟨e, h, by simp only [forN, hd h], p⟩
  | m + 1, j, e, h, hj, p, fuel, hf => by
    obtain ⟨f, rfl⟩ : ∃ f, fuel = f + 1 := ⟨fuel - 1, by omega⟩
    obtain ⟨e1, g1, e2, h2, hb, p2⟩ := hs j e h (by omega) p
    obtain ⟨e3, h3, q, p3⟩ := for_goB ds Pv hi hd hs m (j + 1) e2 h2 (by omega) p2 f (by omega)
    exact ⟨e3, h3, by simp only [forN, hi j h (by omega), g1, hb, R.bind_ok]; exact q, p3⟩
theorem Kp3.refl {h : HP} {p m g : Nat} : Kp3 h h p m g := ⟨Nat.le_refl _, fun _ _ _ _ _ w => w⟩
theorem Kp3.trans {h h1 h2 : HP} {p m g : Nat} (a : Kp3 h h1 p m g) (b : Kp3 h1 h2 p m g) : Kp3 h h2 p m g := ⟨Nat.le_trans a.1 b.1, fun i ob n1 n2 n3 w => b.2 i ob n1 n2 n3 (a.2 i ob n1 n2 n3 w)⟩
theorem Kp3.rd {h h1 : HP} {p m g : Nat} {A : AS} {d : D} {u : U} (a : Kp3 h h1 p m g) (r : Rd (Px A p m g) h d u) : Rd (Px A p m g) h1 d u :=
  r.tr ⟨fun i ob n w => a.2 i ob (fun e => n (.inr (.inl e))) (fun e => n (.inr (.inr (.inl e)))) (fun e => n (.inr (.inr (.inr e)))) w, fun i q => .inl q, a.1⟩
theorem loop_run {C : Ctx} (K : BkC C) {ns : List Int} {start : Nat} {most called : Int} {place many : Nat} {sq : Nat → BMG} {L : List (Str × Int)} (hp : place < 4) (m20 : many ≤ 20) (s0 : sq 0 = (⟨L, []⟩, [], []))
    (s1 : ∀ j, j < many → StepOk C ns start most (nmL L place called) (sq j) (sq (j + 1))) (s2 : ∀ j, j ≤ many → Grow (sq j).1 (sq j).2.1 (sq j).2.2 (nmL L place called) ∧ (sq j).1.L = L ∧ (sq j).1.P.length = j)
    (inj : ∀ i j, i < 25 → j < 25 → nmL L place called i = nmL L place called j → i = j) (ok : ∀ i, i < 25 → PyData.strOk (nmL L place called i) = true)
    {A : AS} {h : HP} {e : Ev} {dns : D} {l p m g : Nat} (bd : Bd A h) (n : EnvB e dns (start : Int) most (place : Int) called (many : Int) l p m g) (rn : Rd (Px A p m g) h dns (.fz (ns.map U.int))) (st : PutSt A h l p m g ⟨L, []⟩ [] []) :
    ∃ e2 h2, sFo (gN 11) (iR1 (eV 7)) b_l_book_1 C e h = .ok (.nx e2) h2 ∧ EnvB e2 dns (start : Int) most (place : Int) called (many : Int) l p m g ∧ Kp3 h h2 p m g ∧ PutSt A h2 l p m g (sq many).1 (sq many).2.1 (sq many).2.2 := by
  have fu := K.fu
  obtain ⟨e2, h2, q, pv⟩ := for_goB (it := itR 0 many) (g := gN 11) (b := b_l_book_1) (C := C) (n := many) (fun j => .int (j : Int))
    (fun j e' h' => EnvB e' dns (start : Int) most (place : Int) called (many : Int) l p m g ∧ Kp3 h h' p m g ∧ PutSt A h' l p m g (sq j).1 (sq j).2.1 (sq j).2.2)
    (fun j h hj => by unfold itR; rw [if_pos hj, Int.zero_add]) (fun h => by unfold itR; rw [if_neg (Nat.lt_irrefl _)])
    (fun j e' h' hj ⟨n', k', st'⟩ => by
      obtain ⟨gr, hL, hl⟩ := s2 j (by omega)
      obtain ⟨v, v', qq, PO, po, FO, eq⟩ := s1 j hj
      obtain ⟨e2, h2, e1, n2, k2, st2, _⟩ := body_run K (A := A) (h := h') (e := e') (B := (sq j).1) (M := (sq j).2.1) (G := (sq j).2.2) hp (fun a w => Nat.lt_of_lt_of_le (bd a w) k'.1) n' ((k'.rd rn).tr px_less) st' (by rw [hL]; exact gr) (by omega)
        (by rw [hL, hl]; exact fun i j hi hj => inj i j (by omega) (by omega)) (by rw [hL, hl]; exact fun i hi => ok i (by omega)) PO po FO
      refine ⟨_, rfl, e2, h2, by rw [hl] at e1; exact e1, n2, k'.trans k2, ?_⟩
      rw [eq]
      rw [hL] at st2
      exact st2)
    many 0 e h (by omega) ⟨n, Kp3.refl, by rw [s0]; exact st⟩ C.fuel (by omega)
  refine ⟨e2, h2, ?_, pv⟩
  have r62 : Rg62 (many : Int) := ⟨by omega, by omega⟩
  have e7 : eV 7 C e h = .ok (.int (many : Int)) h := by unfold eV; rw [n.v7]
  have hr := iR1_i e7 r62
  rw [Int.toNat_natCast] at hr
  unfold sFo
  rw [hr]; simp only [R.bind_ok]
  exact q
/-- the last row names the last three parts, and the first of these again -/
def lastJ (k : Nat) : List Nat := (List.range k).drop (k - 3) ++ ((List.range k).drop (k - 3)).take 1
theorem lastJ_ok {k : Nat} (h2 : 2 ≤ k) : 1 ≤ (lastJ k).length ∧ (lastJ k).length ≤ 4 ∧ ∀ j ∈ lastJ k, j < k := by
  unfold lastJ
  refine ⟨?_, ?_, fun j hj => ?_⟩
  · rw [List.length_append, List.length_drop, List.length_range]; omega
  · rw [List.length_append, List.length_take, List.length_drop, List.length_range]; omega
  · rcases List.mem_append.mp hj with h | h
    · exact List.mem_range.mp (List.mem_of_mem_drop h)
    · exact List.mem_range.mp (List.mem_of_mem_drop (List.mem_of_mem_take h))
theorem tail_run {C : Ctx} (K : BkC C) {start : Int} {most called : Int} {place many : Nat} {nm : Nat → Str} {B : Bk} {M : List (List Int)} {G : List Int} (hp : place < 4) (m2 : 2 ≤ many) (m20 : many ≤ 20) (gr : Grow B M G nm) (hl : B.P.length = many)
    (inj : ∀ i j, i < 25 → j < 25 → nm i = nm j → i = j) (ok : ∀ i, i < 25 → PyData.strOk (nm i) = true) (hn : nm many = wordV place many)
    {A : AS} {h : HP} {e : Ev} {dns : D} {l p m g : Nat} (bd : Bd A h) (n : EnvB e dns start most (place : Int) called (many : Int) l p m g) (st : PutSt A h l p m g B M G) :
    ∃ (d : D) (h2 : HP), (sSq (sAs (gN 13) (eLc [14] (gN 14) (iA (eSl opSl (eOp opIx (eV 8) (eC (.int 1))) (oS (eUn opNeg (eC (.int 3)))) oN)) tY (eOp opIx (eV 14) (eC (.int 0)))))
      (sSq (sEx (eCall 207 (aC (eV 8) (aC (eV 9) (aC (eV 10) (aC (eCall 202 (aC (eV 4) (aC (eV 7) aN)) []) (aC (eTup (aC (eC (.str "row")) (aC (eBf bTup (aC (eOp opAdd (eV 13) (eSl opSl (eV 13) oN (oS (eC (.int 1))))) aN)) aN))) aN))))) []))
      (sRt (eTup (aC (eV 8) (aC (eOp opIx (eV 10) (eUn opNeg (eC (.int 1)))) aN)))))) C e h = .ok (.rt d) h2 ∧ Rd A h2 d (.tup [(B.add (nm many, .row (lastJ many))).u, .int ((B.add (nm many, .row (lastJ many))).lg many)]) ∧ Kp3 h h2 p m g ∧
      Grow (B.add (nm many, .row (lastJ many))) (M ++ [mvP M many (.row (lastJ many))]) (G ++ [lenF G (.row (lastJ many))]) nm := by
  have fu := K.fu
  obtain ⟨BU, hBU⟩ : ∃ BU, BU = B.u := ⟨_, rfl⟩
  have lj := lastJ_ok m2
  have sta := slSta (pe := [.n, .n, .n, .n, .s (.int (place : Int)), .n, .n, .s (.int (many : Int)), .s BU, .n, .n, .n, .n, .n, .n]) bd n.len
    (slN (slN (slN (slN (slS n.v4 .int (slN (slN (slS n.v7 .int (slS n.v8 (hBU ▸ st.book) (slN (slN (slN (slN (slN (slN slE)))))))))))))))
  have ix1 : O2 opIx BU (.int 1) (.lst (B.P.map (partU B.ln B.pn))) := by rw [hBU]; exact o_ixt (at_int (by decide) rfl)
  obtain ⟨J, hJ⟩ : ∃ J, J = (List.range many).drop (many - 3) := ⟨_, rfl⟩
  have J3 : J.length ≤ 3 ∧ 1 ≤ J.length := by rw [hJ, List.length_drop, List.length_range]; omega
  have sl : S3f (.lst (B.P.map (partU B.ln B.pn))) (some (-3)) none (.lst ((B.P.drop (many - 3)).map (partU B.ln B.pn))) := by
    have := sf_l (us := B.P.map (partU B.ln B.pn)) (lo := some (-3)) (hi := none)
    have e1 : HT.sIx B.P.length 0 (some (-3)) = many - 3 := by
      show (if (-3 : Int) < 0 then ((-3 : Int) + (B.P.length : Int)).toNat else min (-3 : Int).toNat B.P.length) = many - 3
      rw [if_pos (by decide), hl]; omega
    have e2 : HT.sIx B.P.length B.P.length none = B.P.length := HT.sIx_none _ _
    rw [cutU_map, e1, e2] at this
    rwa [List.take_of_length_le (by rw [List.length_drop]; omega)] at this
  have LC : Xf C [.n, .n, .n, .n, .s (.int (place : Int)), .n, .n, .s (.int (many : Int)), .s BU, .n, .n, .n, .n, .n, .n] (eLc [14] (gN 14) (iA (eSl opSl (eOp opIx (eV 8) (eC (.int 1))) (oS (eUn opNeg (eC (.int 3)))) oN)) tY (eOp opIx (eV 14) (eC (.int 0)))) (.lst (J.map fun j => U.str (B.pn j))) := by
    have e : J.map (fun j => U.str (B.pn j)) = (B.P.drop (many - 3)).map fun x => U.str x.1 := by
      rw [hJ, ← hl, List.map_drop, List.map_drop, ← names_range]
    rw [e]
    apply f_lcm (f := partU B.ln B.pn) (xs := B.P.drop (many - 3))
    case hi => (repeat first | fail "p" | with_reducible exact ix1 | with_reducible exact sl | with_reducible exact sl.s3 | fail)
    case hw => (repeat first | fail "p" | fail)
    case hn => exact sz_le (by rw [List.length_drop]; omega)
    case fu => rw [List.length_drop]; omega
    case hs => intro x hx; exact ⟨_, by (repeat first | fail "p" | fail), by (repeat first | fail "p" | fail)⟩
  have X1 : Xs C [0, 1, 2, 4, 5, 7, 8, 9, 10] [.n, .n, .n, .n, .s (.int (place : Int)), .n, .n, .s (.int (many : Int)), .s BU, .n, .n, .n, .n, .n, .n] (sAs (gN 13) (eLc [14] (gN 14) (iA (eSl opSl (eOp opIx (eV 8) (eC (.int 1))) (oS (eUn opNeg (eC (.int 3)))) oN)) tY (eOp opIx (eV 14) (eC (.int 0)))))
      (.nx [.n, .n, .n, .n, .s (.int (place : Int)), .n, .n, .s (.int (many : Int)), .s BU, .n, .n, .n, .n, .s (.lst (J.map fun j => U.str (B.pn j))), .n]) := by (repeat first | fail "p" | with_reducible exact LC.p | fail)
  obtain ⟨Sg', e', h', e1, s1, kq, k1, ow⟩ := xs_go X1 sta
  have n2 : EnvB e' dns start most place called many l p m g := n.to s1.len fun i hi => k1 i hi
  have bd' : Bd A h' := fun a w => Nat.lt_of_lt_of_le (bd a w) kq.len
  have WO := K.word place many hp (by omega)
  have sl2 : S3f (.lst (J.map fun j => U.str (B.pn j))) none (some 1) (.lst ((J.take 1).map fun j => U.str (B.pn j))) := by
    have := sf_l (us := J.map fun j => U.str (B.pn j)) (lo := none) (hi := some ((1 : Nat) : Int))
    rw [cutU_take 1 (by rw [List.length_map]; omega), ← List.map_take] at this
    exact this
  have ad : O2f opAdd (.lst (J.map fun j => U.str (B.pn j))) (.lst ((J.take 1).map fun j => U.str (B.pn j))) (.lst ((lastJ many).map fun j => U.str (B.pn j))) := by
    have := of_addl (us := J.map fun j => U.str (B.pn j)) (vs := (J.take 1).map fun j => U.str (B.pn j)) (sz_le (by rw [List.length_map, List.length_map, List.length_take]; omega))
    rwa [← List.map_append, show J ++ J.take 1 = lastJ many by rw [hJ]; rfl] at this
  have hb : Xp C [.n, .n, .n, .n, .s (.int (place : Int)), .n, .n, .s (.int (many : Int)), .s BU, .n, .n, .n, .n, .s (.lst (J.map fun j => U.str (B.pn j))), .n] (eTup (aC (eC (.str "row")) (aC (eBf bTup (aC (eOp opAdd (eV 13) (eSl opSl (eV 13) oN (oS (eC (.int 1))))) aN)) aN))) (Pt.u B.ln B.pn (.row (lastJ many))) := by
    show Xp C _ _ (.tup [.str "row", .tup ((lastJ many).map fun j => U.str (B.pn j))])
    generalize ((lastJ many).map fun j => U.str (B.pn j)) = W at ad ⊢
    generalize ((J.take 1).map fun j => U.str (B.pn j)) = W1 at sl2 ad
    generalize (J.map fun j => U.str (B.pn j)) = W0 at sl2 ad
    (repeat first | fail "p" | with_reducible exact sl2 | with_reducible exact sl2.s3 | with_reducible exact ad | with_reducible exact ad.o2 | fail)
  have po : PartOk B.L.length B.P.length M G (.row (lastJ many)) := ⟨⟨lj.1, by omega, by rw [hl]; exact lj.2.2⟩, fun js e => (by cases e), fun js e => (by cases e; exact lj.2.1), fun z j e => by cases e⟩
  obtain ⟨h3, e3, s3, g3, kp⟩ := put_go K (a := eCall 202 (aC (eV 4) (aC (eV 7) aN)) []) (Y := nm many) bd' n2 (st.kq kq) gr (by omega) (fun i j hi hj => inj i j (by omega) (by omega)) (fun i hi => ok i (by omega)) po s1 (fun a ⟨i, u, w, _⟩ => by
    have := List.mem_of_getElem? w
    simp at this) (by rw [hn]; (repeat first | fail "p" | with_reducible exact WO | fail)) (by rw [hl]) hb
  have k3 : Kp3 h h3 p m g := ⟨Nat.le_trans kq.len kp.1, fun i ob n1 n2 n3 w => kp.2 i ob n1 n2 n3 (kq i ob w)⟩
  have bd3 : Bd A h3 := fun a w => Nat.lt_of_lt_of_le (bd a w) k3.1
  obtain ⟨B2, hB2⟩ : ∃ B2, B2 = B.add (nm many, .row (lastJ many)) := ⟨_, rfl⟩
  rw [← hB2] at s3 g3 ⊢
  have sta3 := slSta (pe := [.n, .n, .n, .n, .n, .n, .n, .n, .s B2.u, .n, .s (intsU (G ++ [lenF G (.row (lastJ many))])), .n, .n, .n, .n]) bd3 n2.len
    (slN (slN (slN (slN (slN (slN (slN (slN (slS n2.v8 s3.book (slN (slS n2.v10 s3.lg (slN (slN (slN (slN slE)))))))))))))))
  have lgE : B2.lg many = lenF G (.row (lastJ many)) := by
    unfold Bk.lg
    rw [← g3.g, getD_snoc, gr.gl, if_neg (by omega), if_pos hl.symm]
  have ixg : O2 opIx (intsU (G ++ [lenF G (.row (lastJ many))])) (.int (-1)) (.int (B2.lg many)) := by
    rw [lgE]
    exact o_ixl (at_m1 (by rw [List.map_append]; exact List.getLast?_concat))
  have XR : Xp C [.n, .n, .n, .n, .n, .n, .n, .n, .s B2.u, .n, .s (intsU (G ++ [lenF G (.row (lastJ many))])), .n, .n, .n, .n] (eTup (aC (eV 8) (aC (eOp opIx (eV 10) (eUn opNeg (eC (.int 1)))) aN))) (.tup [B2.u, .int (B2.lg many)]) := by
    generalize B2.u = BU2
    (repeat first | fail "p" | with_reducible exact ixg | fail)
  obtain ⟨d4, h4, e4, k4, r4⟩ := XR sta3
  refine ⟨d4, h4, ?_, r4.tr ⟨fun _ _ _ q => q, fun a q => .inl (.inl q), Nat.le_refl _⟩, ⟨Nat.le_trans k3.1 k4.len, fun i ob n1 n2 n3 w => k4 i ob (k3.2 i ob n1 n2 n3 w)⟩, by rw [hl] at g3; exact g3⟩
  unfold sSq
  rw [e1]; simp only [R.bind_ok]
  rw [e3]; simp only [R.bind_ok]
  unfold sRt
  rw [e4]; rfl
/-! a book drawn: the whole -/
theorem wordV_ok : ∀ p, p < 4 → ∀ k, k < 25 → PyData.strOk (wordV p k) = true := by decide +kernel
def ordL (i : Nat) : List Str := if i = 0 then ["arm", "armm", "head"] else if i = 1 then ["head", "armm", "arm"] else ["armm", "head", "arm"]
section
variable {L : List (Str × Int)} {place : Nat} {called : Int}
theorem nm_inj (hL : (L.getD 0 ("", 0)).1 ∈ (["arm", "armm", "head"] : List Str)) (hp : place < 4) : ∀ i j, i < 25 → j < 25 → nmL L place called i = nmL L place called j → i = j := fun i j hi hj e => by
  have ne : ∀ i, i < 25 → wordV place i ≠ (L.getD 0 ("", 0)).1 := fun i hi e => by
    obtain ⟨a, b, c⟩ := wordV_limb place hp i hi
    rw [← e] at hL
    simp only [List.mem_cons, List.not_mem_nil, or_false] at hL
    rcases hL with h | h | h
    · exact a h
    · exact b h
    · exact c h
  unfold nmL at e
  by_cases c1 : called = 1 ∧ i = 1
  · by_cases c2 : called = 1 ∧ j = 1
    · omega
    · rw [if_pos c1, if_neg c2] at e
      exact absurd e.symm (ne j hj)
  · by_cases c2 : called = 1 ∧ j = 1
    · rw [if_neg c1, if_pos c2] at e
      exact absurd e (ne i hi)
    · rw [if_neg c1, if_neg c2] at e
      exact wordV_inj place hp i hi j hj e
theorem nm_ok (hL : (L.getD 0 ("", 0)).1 ∈ (["arm", "armm", "head"] : List Str)) (hp : place < 4) : ∀ i, i < 25 → PyData.strOk (nmL L place called i) = true := fun i hi => by
  unfold nmL
  split
  · have : ∀ x ∈ (["arm", "armm", "head"] : List Str), PyData.strOk x = true := by decide +kernel
    exact this _ hL
  · exact wordV_ok place hp i hi
end
/-- numbers drawn one behind the other -/
def pstN (most v : Int) : Nat → Int
  | 0 => v
  | j + 1 => (numP (pstN most v j) (most + 1)).2
theorem pstN_ok {most v : Int} (hm : 0 < most + 1) (p : Po v) : ∀ j, Po (pstN most v j)
  | 0 => p
  | j + 1 => (numP_ok (pstN_ok hm p j) hm).2.2
/-- the limbs drawn -/
def limbL (ord : List Str) (most v : Int) (n : Nat) : List (Str × Int) := (List.range n).map fun k => (ord.getD k "", (numP (pstN most v k) (most + 1)).1)
/-- an order of limbs' names -/
structure OrdOk (ord : List Str) (w : Nat) : Prop where
  le : w ≤ ord.length
  w8 : 1 ≤ w ∧ w ≤ 8
  nd : ord.Nodup
  ok : ∀ x ∈ ord, PyData.strOk x = true
  hd : ord.getD 0 "" ∈ (["arm", "armm", "head"] : List Str)
theorem limb_grow {ord : List Str} {w n : Nat} {most v : Int} (o : OrdOk ord w) (hm : 1 ≤ most ∧ most ≤ 10 ^ 18) (p : Po v) (n1 : 1 ≤ n) (nw : n ≤ w) (nm : Nat → Str) : Grow ⟨limbL ord most v n, []⟩ [] [] nm := by
  have len : (limbL ord most v n).length = n := by unfold limbL; rw [List.length_map, List.length_range]
  have w8 := o.w8
  have le := o.le
  refine ⟨by show 1 ≤ (limbL ord most v n).length ∧ _ ≤ 8; rw [len]; omega, ?_, fun x hx => ?_, fun i h => absurd h (Nat.not_lt_zero _), fun i h => absurd h (Nat.not_lt_zero _), fun i js h => absurd h (Nat.not_lt_zero _), rfl, fun i z => Iff.rfl, fun m h => by (cases h), rfl, fun i h => absurd h (Nat.not_lt_zero _)⟩
  · show ((limbL ord most v n).map (·.1)).Nodup
    have e : (limbL ord most v n).map (·.1) = ord.take n := by
      unfold limbL
      rw [List.map_map]
      apply List.ext_getElem?
      intro i
      rw [List.getElem?_map, List.getElem?_take]
      by_cases h : i < n
      · rw [List.getElem?_range h, if_pos h, get_getD ("" : Str) (by omega)]; rfl
      · rw [List.getElem?_eq_none (by rw [List.length_range]; omega), if_neg h]; rfl
    rw [e]
    exact List.Nodup.sublist (List.take_sublist _ _) o.nd
  · have hx : x ∈ limbL ord most v n := hx
    unfold limbL at hx
    obtain ⟨k, hk, rfl⟩ := List.mem_map.mp hx
    have kn := List.mem_range.mp hk
    have q := numP_ok (pstN_ok (most := most) (by omega) p k) (show 0 < most + 1 by omega)
    refine ⟨o.ok _ (List.mem_of_getElem? (get_getD ("" : Str) (by omega))), q.1, ?_⟩
    dsimp only
    omega
theorem limb_hd {ord : List Str} {w n : Nat} {most v : Int} (o : OrdOk ord w) (n1 : 1 ≤ n) : ((limbL ord most v n).getD 0 ("", 0)).1 ∈ (["arm", "armm", "head"] : List Str) := by
  have : (limbL ord most v n).getD 0 ("", 0) = (ord.getD 0 "", (numP (pstN most v 0) (most + 1)).1) := by
    unfold limbL
    rw [List.getD_eq_getElem?_getD, List.getElem?_map, List.getElem?_range (by omega)]; rfl
  rw [this]; exact o.hd
/-- what the first statements lead to -/
def bkPe (NS : U) (start : Nat) (most : Int) (v : Int) (place : Nat) (called : Int) (ord : List Str) (many : Nat) : List Sl :=
  [.s NS, .s (.int (start : Int)), .s (.int most), .o (poU v), .s (.int (place : Int)), .s (.int called), .s (.lst (ord.map U.str)), .s (.int (many : Int)), .n, .n, .n, .n, .n, .n, .n]
/-- the book drawn, its values told ahead -/
structure Drawn (B : Bk) : Prop where
  so : Sound B
  len : 3 ≤ B.P.length ∧ B.P.length ≤ 12
  lg : ∀ k, k < B.P.length → B.lg k ≤ lbd 12
theorem asTup2 {C : Ctx} {e : Ev} {h h1 : HP} {l : Nat} {LX : ME} (e1 : LX C e h = .ok (.ref l) h1) : sAs (gN 8) (eTup (aC LX (aC (eLst aN) aN))) C e h = .ok (.nx (e.set 8 (some (.tup [.ref l, .ref h1.length])))) (h1 ++ [.lst []]) := by
  have t2 : (2 : Nat) ≤ sizeLine := sz_le (by omega)
  have t0 : (0 : Nat) ≤ sizeLine := sz_le (by omega)
  unfold sAs eTup aC eLst aN
  rw [e1]
  simp only [R.bind_ok, List.length_nil, t0, if_true, List.length_cons, Nat.zero_add, Nat.reduceAdd, t2, gN]
theorem book_rest {C : Ctx} (K : BkC C) {ns : List Int} (l63 : ns.length ≤ 63) {start : Nat} {most called v : Int} {place many w : Nat} {ord : List Str} (hs : start ≤ 100) (hm : 1 ≤ most ∧ most ≤ 10 ^ 18) (hp : place < 4) (m2 : 2 ≤ many) (m10 : many ≤ 10) (po : Po v) (o : OrdOk ord w) :
    ∃ B, Drawn B ∧ ∀ {A : AS} {h0 h : HP} {e : Ev} {Sg : Nat → List Nat}, Bd A h0 → Kq h0 h → Sta A Sg e h (bkPe (.fz (ns.map U.int)) start most v place called ord many) → (∀ a, Ow Sg (bkPe (.fz (ns.map U.int)) start most v place called ord many) a → h0.length ≤ a) →
      ∃ (d : D) (h2 : HP), sSq (sAs (gN 8) (eTup (aC (eLc [11] (gN 11) (iR1 (eOp opAdd (eC (.int 1)) (eCall 180 (aC (eV 3) (aC (eC (.int (w : Int))) aN)) []))) tY (eTup (aC (eOp opIx (eV 6) (eV 11)) (aC (eCall 203 (aC (eV 3) (aC (eOp opAdd (eV 2) (eC (.int 1))) aN)) []) aN)))) (aC (eLst aN) aN))))
        (sSq (sAs (gN 9) (eLst aN)) (sSq (sAs (gN 10) (eLst aN)) (sSq (sFo (gN 11) (iR1 (eV 7)) b_l_book_1)
        (sSq (sAs (gN 13) (eLc [14] (gN 14) (iA (eSl opSl (eOp opIx (eV 8) (eC (.int 1))) (oS (eUn opNeg (eC (.int 3)))) oN)) tY (eOp opIx (eV 14) (eC (.int 0)))))
        (sSq (sEx (eCall 207 (aC (eV 8) (aC (eV 9) (aC (eV 10) (aC (eCall 202 (aC (eV 4) (aC (eV 7) aN)) []) (aC (eTup (aC (eC (.str "row")) (aC (eBf bTup (aC (eOp opAdd (eV 13) (eSl opSl (eV 13) oN (oS (eC (.int 1))))) aN)) aN))) aN))))) []))
        (sRt (eTup (aC (eV 8) (aC (eOp opIx (eV 10) (eUn opNeg (eC (.int 1)))) aN))))))))) C e h = .ok (.rt d) h2 ∧ Kq h0 h2 ∧ Rd A h2 d (.tup [B.u, .int (B.lg (B.P.length - 1))]) := by
  have b300 : ∀ z : Int, z.natAbs ≤ 10 ^ 40 → z.natAbs ≤ 10 ^ 300 := fun z h => Nat.le_trans h (Nat.pow_le_pow_right (by decide) (by decide))
  have fu := K.fu
  have w8 := o.w8
  obtain ⟨n, hn⟩ : ∃ n : Nat, (n : Int) = 1 + v % (w : Int) := ⟨(1 + v % (w : Int)).toNat, Int.toNat_of_nonneg (by have := Int.emod_nonneg v (show (w : Int) ≠ 0 by omega); omega)⟩
  have n1 : 1 ≤ n := by have := Int.emod_nonneg v (show (w : Int) ≠ 0 by omega); omega
  have nw : n ≤ w := by have := Int.emod_lt_of_pos v (show (0 : Int) < (w : Int) by omega); omega
  have pw := po.div (show (0 : Int) < (w : Int) by omega)
  obtain ⟨L, hL⟩ : ∃ L, L = limbL ord most (v / (w : Int)) n := ⟨_, rfl⟩
  have hd := limb_hd (most := most) (v := v / (w : Int)) o n1
  rw [← hL] at hd
  have inj := nm_inj (called := called) hd hp
  have ok := nm_ok (called := called) hd hp
  obtain ⟨sq, s0, s1, s2⟩ := seq_ex K l63 hs hm (nm := nmL L place called) (hL ▸ limb_grow o hm pw n1 nw _) ok many (by omega)
  obtain ⟨gr, gL, gl⟩ := s2 many (Nat.le_refl _)
  have lj := lastJ_ok m2
  have hnm : nmL L place called many = wordV place many := by unfold nmL; rw [if_neg (by omega)]
  have gr2 : Grow ((sq many).1.add (nmL L place called many, .row (lastJ many))) ((sq many).2.1 ++ [mvP (sq many).2.1 many (.row (lastJ many))]) ((sq many).2.2 ++ [lenF (sq many).2.2 (.row (lastJ many))]) (nmL L place called) := by
    have := gr.add (q := .row (lastJ many)) ⟨⟨lj.1, by omega, by rw [gl]; exact lj.2.2⟩, fun js e => (by cases e), fun js e => (by cases e; exact lj.2.1), fun z j e => by cases e⟩ (n := nmL L place called many) (by rw [gl])
    rwa [gl] at this
  have l2 : ((sq many).1.add (nmL L place called many, .row (lastJ many))).P.length = many + 1 := by rw [add_len, gl]
  refine ⟨(sq many).1.add (nmL L place called many, .row (lastJ many)), ⟨gr2.sound (by omega) (by omega) (fun i j hi hj => inj i j (by omega) (by omega)) (fun i hi => ok i (by omega)), by omega, fun k hk => ?_⟩, ?_⟩
  · have := (gr2.gb k hk).2
    rw [gr2.g] at this
    have := lbd_mono (show k ≤ 12 by omega)
    unfold Bk.lg
    omega
  intro A h0 h e Sg bd kq st ow
  have bdh : Bd A h := fun a w => Nat.lt_of_lt_of_le (bd a w) kq.len
  obtain ⟨NS, hNS⟩ : ∃ NS, NS = U.fz (ns.map U.int) := ⟨_, rfl⟩
  rw [← hNS] at st ow
  have r62 : Rg62 (n : Int) := ⟨by omega, by omega⟩
  have mb : most.natAbs ≤ 10 ^ 300 := b300 _ (by omega)
  have hm' : Xz C (bkPe NS start most v place called ord many) (eOp opAdd (eC (.int 1)) (eCall 180 (aC (eV 3) (aC (eC (.int (w : Int))) aN)) [])) (.int (n : Int)) (bkPe NS start most (v / (w : Int)) place called ord many) := by
    rw [hn]
    exact z_op x_ci.z (z_take K.tk rfl x_ci po (by omega) (b300 _ (by omega)) (toS (toS (toS to0)))) o_add
  have LC : Xz C (bkPe NS start most v place called ord many) (eLc [11] (gN 11) (iR1 (eOp opAdd (eC (.int 1)) (eCall 180 (aC (eV 3) (aC (eC (.int (w : Int))) aN)) []))) tY (eTup (aC (eOp opIx (eV 6) (eV 11)) (aC (eCall 203 (aC (eV 3) (aC (eOp opAdd (eV 2) (eC (.int 1))) aN)) []) aN)))) (.lst (L.map limbU)) (bkPe NS start most (pstN most (v / (w : Int)) n) place called ord many) := by
    have e : L.map limbU = (List.range n).map fun k => U.tup [.str (ord.getD k ""), .int (numP (pstN most (v / (w : Int)) k) (most + 1)).1] := by
      rw [hL]; unfold limbL; rw [List.map_map]; rfl
    rw [e]
    refine z_lcn (S := fun j => bkPe NS start most (pstN most (v / (w : Int)) j) place called ord many) hm' r62 ?_ (sz_le (by omega)) (by omega) (fun j hj => ?_) (fun j _ => rfl) (fun x hx => ?_)
    · show WipN (bkPe NS start most (v / (w : Int)) place called ord many) _ (bkPe NS start most (v / (w : Int)) place called ord many)
      unfold bkPe
      (repeat first | fail "p" | fail)
    · refine ⟨[.s NS, .s (.int (start : Int)), .s (.int most), .o (poU (pstN most (v / (w : Int)) j)), .s (.int (place : Int)), .s (.int called), .s (.lst (ord.map U.str)), .s (.int (many : Int)), .n, .n, .n, .s (.int (j : Nat)), .n, .n, .n], [.s NS, .s (.int (start : Int)), .s (.int most), .o (poU (pstN most (v / (w : Int)) (j + 1))), .s (.int (place : Int)), .s (.int called), .s (.lst (ord.map U.str)), .s (.int (many : Int)), .n, .n, .n, .s (.int (j : Nat)), .n, .n, .n], by unfold bkPe; (repeat first | fail "p" | fail), ?_, by unfold bkPe; (repeat first | fail "p" | fail)⟩
      have le := o.le
      have ix : O2 opIx (.lst (ord.map U.str)) (.int (j : Nat)) (.str (ord.getD j "")) := o_ixl (at_nat (by rw [List.getElem?_map, get_getD ("" : Str) (by omega)]; rfl))
      have ad1 : O2 opAdd (.int most) (.int 1) (.int (most + 1)) := o_add
      refine z_tup (za_c (x_op (x_v rfl).top (x_v rfl).top ix).z (za_c (z_num K.nf rfl (by (repeat first | fail "p" | with_reducible exact ad1 | fail)) (pstN_ok (by omega) pw j) (by omega) (b300 _ (by omega)) (toS (toS (toS to0)))) za_n)) (sz_le (by show 2 ≤ 1000000; decide))
    · rw [List.mem_singleton.mp hx]; rfl
  obtain ⟨dl, h1, Sg1, e1, st1, rl, t1⟩ := LC st
  obtain ⟨l, lds, rfl, nl, ql, rl2⟩ := rl.lst_inv
  have kq1 : Kq h0 h1 := fun i ob w => t1.keep i ob (fun q => by
    have := (List.getElem?_eq_some_iff.mp w).1
    have := ow i q
    omega) (kq i ob w)
  have bd1 : Bd A h1 := fun a w => Nat.lt_of_lt_of_le (bd a w) kq1.len
  obtain ⟨d0, v0, r0⟩ := st1.sh 0 _ rfl
  obtain ⟨d1, v1, r1⟩ := st1.sh 1 _ rfl
  obtain ⟨d2, v2, r2⟩ := st1.sh 2 _ rfl
  obtain ⟨d4, v4, r4⟩ := st1.sh 4 _ rfl
  obtain ⟨d5, v5, r5⟩ := st1.sh 5 _ rfl
  obtain ⟨d7, v7, r7⟩ := st1.sh 7 _ rfl
  rw [Rd.int_iff] at r1 r2 r4 r5 r7
  subst r1 r2 r4 r5 r7
  have elen : e.length = 15 := st1.len
  obtain ⟨p, hp_⟩ : ∃ p, p = h1.length := ⟨_, rfl⟩
  obtain ⟨e4, he4⟩ : ∃ e4, e4 = ((e.set 8 (some (.tup [.ref l, .ref p]))).set 9 (some (.ref (p + 1)))).set 10 (some (.ref (p + 2))) := ⟨_, rfl⟩
  obtain ⟨h4, hh4⟩ : ∃ h4, h4 = h1 ++ [.lst []] ++ [.lst []] ++ [.lst []] := ⟨_, rfl⟩
  have k14 : Kq h1 h4 := by
    rw [hh4]
    exact (Kq.app.trans Kq.app).trans Kq.app
  have E1 : sAs (gN 8) (eTup (aC (eLc [11] (gN 11) (iR1 (eOp opAdd (eC (.int 1)) (eCall 180 (aC (eV 3) (aC (eC (.int (w : Int))) aN)) []))) tY (eTup (aC (eOp opIx (eV 6) (eV 11)) (aC (eCall 203 (aC (eV 3) (aC (eOp opAdd (eV 2) (eC (.int 1))) aN)) []) aN)))) (aC (eLst aN) aN))) C e h = .ok (.nx (e.set 8 (some (.tup [.ref l, .ref p])))) (h1 ++ [.lst []]) := by
    have := asTup2 e1
    rw [← hp_] at this
    exact this
  have E2 : sAs (gN 9) (eLst aN) C (e.set 8 (some (.tup [.ref l, .ref p]))) (h1 ++ [.lst []]) = .ok (.nx ((e.set 8 (some (.tup [.ref l, .ref p]))).set 9 (some (.ref (p + 1))))) (h1 ++ [.lst []] ++ [.lst []]) := by
    have t0 : (0 : Nat) ≤ sizeLine := sz_le (by omega)
    unfold sAs eLst aN
    simp only [R.bind_ok, List.length_nil, t0, if_true, gN, List.length_append, List.length_cons, hp_, Nat.zero_add]
  have E3 : sAs (gN 10) (eLst aN) C ((e.set 8 (some (.tup [.ref l, .ref p]))).set 9 (some (.ref (p + 1)))) (h1 ++ [.lst []] ++ [.lst []]) = .ok (.nx e4) h4 := by
    have t0 : (0 : Nat) ≤ sizeLine := sz_le (by omega)
    unfold sAs eLst aN
    simp only [R.bind_ok, List.length_nil, t0, if_true, gN, List.length_append, List.length_cons, hp_, Nat.zero_add, he4, hh4, Nat.add_assoc, Nat.reduceAdd]
  have at_ : ∀ i, i < 8 → e4[i]? = e[i]? := fun i hi => by
    rw [he4, List.getElem?_set_ne (by omega), List.getElem?_set_ne (by omega), List.getElem?_set_ne (by omega)]
  have en : EnvB e4 d0 (start : Int) most (place : Int) called (many : Int) l p (p + 1) (p + 2) := by
    refine ⟨by rw [he4, List.length_set, List.length_set, List.length_set]; exact elen, (at_ 0 (by omega)).trans v0, (at_ 1 (by omega)).trans v1, (at_ 2 (by omega)).trans v2, (at_ 4 (by omega)).trans v4, (at_ 5 (by omega)).trans v5, (at_ 7 (by omega)).trans v7, ?_, ?_, ?_⟩
    · rw [he4, List.getElem?_set_ne (by omega), List.getElem?_set_ne (by omega), List.getElem?_set_self (by omega)]
    · rw [he4, List.getElem?_set_ne (by omega), List.getElem?_set_self (by rw [List.length_set]; omega)]
    · rw [he4, List.getElem?_set_self (by rw [List.length_set, List.length_set]; omega)]
  have T : Tr (Av A Sg1 (bkPe NS start most (pstN most (v / (w : Int)) n) place called ord many)) (Px A p (p + 1) (p + 2)) h1 h4 := ⟨fun i ob _ q => k14 i ob q, fun i q => by
    rcases q with q | q | q | q
    · exact .inl (.inl q)
    · exact .inr (by omega)
    · exact .inr (by omega)
    · exact .inr (by omega), k14.len⟩
  have nA : ∀ i, p ≤ i → ¬ A i := fun i hi w => by have := bd1 i w; omega
  have l4 : h4.length = p + 3 := by rw [hh4]; simp only [List.length_append, List.length_cons, List.length_nil, hp_]
  have g0 : h4[p]? = some (.lst []) := by
    rw [hh4, List.append_assoc, List.append_assoc, List.getElem?_append_right (by omega), hp_, Nat.sub_self]; rfl
  have g1 : h4[p + 1]? = some (.lst []) := by
    rw [hh4, List.append_assoc, List.append_assoc, List.getElem?_append_right (by omega), hp_, Nat.add_sub_cancel_left]; rfl
  have g2 : h4[p + 2]? = some (.lst []) := by
    rw [hh4, List.append_assoc, List.append_assoc, List.getElem?_append_right (by omega), hp_, Nat.add_sub_cancel_left]; rfl
  have pst : PutSt A h4 l p (p + 1) (p + 2) ⟨L, []⟩ [] [] :=
    ⟨⟨nA p (by omega), nA _ (by omega), nA _ (by omega)⟩, ⟨by omega, by omega, by omega⟩, (Rd.mk_lst nl ql rl2).tr T, ⟨[], g0, .nil⟩, ⟨[], g1, .nil⟩, ⟨[], g2, .nil⟩⟩
  have bd4 : Bd A h4 := fun a w => Nat.lt_of_lt_of_le (bd1 a w) k14.len
  obtain ⟨e5, h5, E5, n5, k5, pst5⟩ := loop_run K hp (by omega) s0 s1 s2 inj ok bd4 en (hNS ▸ r0.tr T) pst
  have bd5 : Bd A h5 := fun a w => Nat.lt_of_lt_of_le (bd4 a w) k5.1
  obtain ⟨d6, h6, E6, r6, k6, _⟩ := tail_run K (nm := nmL L place called) hp m2 (by omega) gr gl inj ok hnm bd5 n5 pst5
  refine ⟨d6, h6, ?_, fun i ob q => ?_, ?_⟩
  · conv => lhs; unfold sSq
    rw [E1]; simp only [R.bind_ok]
    conv => lhs; unfold sSq
    rw [E2]; simp only [R.bind_ok]
    conv => lhs; unfold sSq
    rw [E3]; simp only [R.bind_ok]
    conv => lhs; unfold sSq
    rw [E5]; simp only [R.bind_ok]
    exact E6
  · have ih := (List.getElem?_eq_some_iff.mp q).1
    have := kq1.len
    exact k6.2 i ob (by omega) (by omega) (by omega) (k5.2 i ob (by omega) (by omega) (by omega) (k14 i ob (kq1 i ob q)))
  · rw [l2, Nat.add_sub_cancel]; exact r6
/-! a book drawn, of up to eight limbs -/
def ordA (i : Nat) : List Str := ordL i ++ ([("leg" : Str), "wing", "tail", "eye", "paw"] : List Str)
theorem ordA_ok : ∀ i, i < 3 → OrdOk (ordA i) 8 := fun i hi => by
  have a : ∀ i, i < 3 → (8 ≤ (ordA i).length ∧ (ordA i).Nodup ∧ (∀ x ∈ ordA i, PyData.strOk x = true) ∧ (ordA i).getD 0 "" ∈ (["arm", "armm", "head"] : List Str)) := by decide +kernel
  obtain ⟨a1, a2, a3, a4⟩ := a i hi
  exact ⟨a1, ⟨by omega, by omega⟩, a2, a3, a4⟩
theorem sq_nx {a b : MS} {C : Ctx} {e e' : Ev} {h h' : HP} (e1 : a C e h = .ok (.nx e') h') : sSq a b C e h = b C e' h' := by
  unfold sSq
  rw [e1]; rfl
def bkPre : MS := sSq (sAs (gNo 3) (eCall 201 (aC (eV 0) (aC (eV 1) aN)) [])) (sSq (sAs (gN 4) (eCall 180 (aC (eV 3) (aC (eC (.int 4)) aN)) [])) (sSq (sAs (gN 5) (eCall 180 (aC (eV 3) (aC (eC (.int 2)) aN)) []))
    (sSq (sAs (gN 6) (eOp opIx (eLst (aC (eLst (aC (eC (.str "arm")) (aC (eC (.str "armm")) (aC (eC (.str "head")) aN)))) (aC (eLst (aC (eC (.str "head")) (aC (eC (.str "armm")) (aC (eC (.str "arm")) aN)))) (aC (eLst (aC (eC (.str "armm")) (aC (eC (.str "head")) (aC (eC (.str "arm")) aN)))) aN)))) (eCall 180 (aC (eV 3) (aC (eC (.int 3)) aN)) [])))
    (sSq (sAs (gN 6) (eOp opAdd (eV 6) (eLst (aC (eC (.str "leg")) (aC (eC (.str "wing")) (aC (eC (.str "tail")) (aC (eC (.str "eye")) (aC (eC (.str "paw")) aN))))))))
    (sAs (gN 7) (eOp opAdd (eC (.int 2)) (eCall 180 (aC (eV 3) (aC (eC (.int 9)) aN)) [])))))))
theorem book_u {C : Ctx} (K : BkC C) {ns : List Int} (l63 : ns.length ≤ 63) {start : Nat} {most : Int} (hs : start ≤ 100) (hm : 1 ≤ most ∧ most ≤ 10 ^ 18) :
    ∃ B, Drawn B ∧ Fu (runFn C f_l_book) [.fz (ns.map U.int), .int (start : Int), .int most] (.tup [B.u, .int (B.lg (B.P.length - 1))]) := by
  have b300 : ∀ z : Int, z.natAbs ≤ 10 ^ 40 → z.natAbs ≤ 10 ^ 300 := fun z h => Nat.le_trans h (Nat.pow_le_pow_right (by decide) (by decide))
  obtain ⟨v0, p0, PO⟩ := K.pool ns start l63 (by omega)
  have p1 := p0.div (show (0 : Int) < 4 by omega)
  have p2 := p1.div (show (0 : Int) < 2 by omega)
  have p3 := p2.div (show (0 : Int) < 3 by omega)
  have p4 := p3.div (show (0 : Int) < 9 by omega)
  obtain ⟨place, hpl⟩ : ∃ k : Nat, (k : Int) = v0 % 4 := ⟨(v0 % 4).toNat, Int.toNat_of_nonneg (Int.emod_nonneg _ (by omega))⟩
  obtain ⟨i, hi⟩ : ∃ k : Nat, (k : Int) = v0 / 4 / 2 % 3 := ⟨(v0 / 4 / 2 % 3).toNat, Int.toNat_of_nonneg (Int.emod_nonneg _ (by omega))⟩
  obtain ⟨many, hmn⟩ : ∃ k : Nat, (k : Int) = 2 + v0 / 4 / 2 / 3 % 9 := ⟨(2 + v0 / 4 / 2 / 3 % 9).toNat, Int.toNat_of_nonneg (by have := Int.emod_nonneg (v0 / 4 / 2 / 3) (show (9 : Int) ≠ 0 by omega); omega)⟩
  have i3 : i < 3 := by have := Int.emod_lt_of_pos (v0 / 4 / 2) (show (0 : Int) < 3 by omega); omega
  obtain ⟨B, dr, RR⟩ := book_rest K l63 (start := start) (called := v0 / 4 % 2) (place := place) (many := many) hs hm (by have := Int.emod_lt_of_pos v0 (show (0 : Int) < 4 by omega); omega) (by have := Int.emod_nonneg (v0 / 4 / 2 / 3) (show (9 : Int) ≠ 0 by omega); omega) (by have := Int.emod_lt_of_pos (v0 / 4 / 2 / 3) (show (0 : Int) < 9 by omega); omega) p4 (ordA_ok i i3)
  refine ⟨B, dr, fun A h ds bd rs => ?_⟩
  obtain ⟨NS, hNS⟩ : ∃ NS, NS = U.fz (ns.map U.int) := ⟨_, rfl⟩
  rw [← hNS] at PO rs
  have st := sta0 bd rs 12
  have X2 : Xs C [] [.s NS, .s (.int (start : Int)), .s (.int most), .o (poU v0), .n, .n, .n, .n, .n, .n, .n, .n, .n, .n, .n] (sAs (gN 4) (eCall 180 (aC (eV 3) (aC (eC (.int 4)) aN)) [])) (.nx [.s NS, .s (.int (start : Int)), .s (.int most), .o (poU (v0 / 4)), .s (.int (place : Int)), .n, .n, .n, .n, .n, .n, .n, .n, .n, .n]) := by
    rw [hpl]
    exact s_asz (z_take K.tk rfl x_ci p0 (by omega) (b300 _ (by decide)) (toS (toS (toS to0)))) (tp_n (tsS (tsS (tsS (tsS ts0)))) (by decide))
  have X3 : Xs C [] [.s NS, .s (.int (start : Int)), .s (.int most), .o (poU (v0 / 4)), .s (.int (place : Int)), .n, .n, .n, .n, .n, .n, .n, .n, .n, .n] (sAs (gN 5) (eCall 180 (aC (eV 3) (aC (eC (.int 2)) aN)) [])) (.nx [.s NS, .s (.int (start : Int)), .s (.int most), .o (poU (v0 / 4 / 2)), .s (.int (place : Int)), .s (.int (v0 / 4 % 2)), .n, .n, .n, .n, .n, .n, .n, .n, .n]) :=
    s_asz (z_take K.tk rfl x_ci p1 (by omega) (b300 _ (by decide)) (toS (toS (toS to0)))) (tp_n (tsS (tsS (tsS (tsS (tsS ts0))))) (by decide))
  have X4 : Xs C [] [.s NS, .s (.int (start : Int)), .s (.int most), .o (poU (v0 / 4 / 2)), .s (.int (place : Int)), .s (.int (v0 / 4 % 2)), .n, .n, .n, .n, .n, .n, .n, .n, .n] (sAs (gN 6) (eOp opIx (eLst (aC (eLst (aC (eC (.str "arm")) (aC (eC (.str "armm")) (aC (eC (.str "head")) aN)))) (aC (eLst (aC (eC (.str "head")) (aC (eC (.str "armm")) (aC (eC (.str "arm")) aN)))) (aC (eLst (aC (eC (.str "armm")) (aC (eC (.str "head")) (aC (eC (.str "arm")) aN)))) aN)))) (eCall 180 (aC (eV 3) (aC (eC (.int 3)) aN)) []))) (.nx [.s NS, .s (.int (start : Int)), .s (.int most), .o (poU (v0 / 4 / 2 / 3)), .s (.int (place : Int)), .s (.int (v0 / 4 % 2)), .s (.lst ((ordL i).map U.str)), .n, .n, .n, .n, .n, .n, .n, .n]) := by
    have ix : O2 opIx (.lst [.lst [.str "arm", .str "armm", .str "head"], .lst [.str "head", .str "armm", .str "arm"], .lst [.str "armm", .str "head", .str "arm"]]) (.int (i : Int)) (.lst ((ordL i).map U.str)) := o_ixl (at_nat (by
      match i, i3 with
      | 0, _ => rfl
      | 1, _ => rfl
      | 2, _ => rfl))
    rw [hi] at ix
    exact s_asz (z_op (Xz.p (by (repeat first | fail "p" | fail))) (z_take K.tk rfl x_ci p2 (by omega) (b300 _ (by decide)) (toS (toS (toS to0)))) ix) (tp_n (tsS (tsS (tsS (tsS (tsS (tsS ts0)))))) (by decide))
  have ad : O2f opAdd (.lst ((ordL i).map U.str)) (.lst [.str "leg", .str "wing", .str "tail", .str "eye", .str "paw"]) (.lst ((ordA i).map U.str)) := by
    have l3 : (ordL i).length = 3 := by
      match i, i3 with
      | 0, _ => rfl
      | 1, _ => rfl
      | 2, _ => rfl
    have := of_addl (us := (ordL i).map U.str) (vs := [.str "leg", .str "wing", .str "tail", .str "eye", .str "paw"]) (sz_le (by rw [List.length_map, l3]; show 8 ≤ 1000000; omega))
    unfold ordA
    rw [List.map_append]
    exact this
  have X6 : Xs C [] [.s NS, .s (.int (start : Int)), .s (.int most), .o (poU (v0 / 4 / 2 / 3)), .s (.int (place : Int)), .s (.int (v0 / 4 % 2)), .s (.lst ((ordA i).map U.str)), .n, .n, .n, .n, .n, .n, .n, .n] (sAs (gN 7) (eOp opAdd (eC (.int 2)) (eCall 180 (aC (eV 3) (aC (eC (.int 9)) aN)) []))) (.nx (bkPe NS start most (v0 / 4 / 2 / 3 / 9) place (v0 / 4 % 2) (ordA i) many)) := by
    unfold bkPe
    rw [hmn]
    exact s_asz (z_op x_ci.z (z_take K.tk rfl x_ci p3 (by omega) (b300 _ (by decide)) (toS (toS (toS to0)))) o_add) (tp_n (tsS (tsS (tsS (tsS (tsS (tsS (tsS ts0))))))) (by decide))
  have X : Xs C [] [.s NS, .s (.int (start : Int)), .s (.int most), .n, .n, .n, .n, .n, .n, .n, .n, .n, .n, .n, .n] bkPre (.nx (bkPe NS start most (v0 / 4 / 2 / 3 / 9) place (v0 / 4 % 2) (ordA i) many)) := by
    unfold bkPre
    generalize (ordL i).map U.str = O1 at X4 ad
    generalize (ordA i).map U.str = O2' at ad X6
    (repeat first | fail "p" | with_reducible exact PO | with_reducible exact X2 | with_reducible exact X3 | with_reducible exact X4 | with_reducible exact ad | with_reducible exact ad.o2 | with_reducible exact X6 | fail)
  obtain ⟨Sg', e', h', e1, s1, kq, _, ow⟩ := xs_go X st
  obtain ⟨d, h2, e2, k2, r2⟩ := RR bd kq (hNS ▸ s1) (hNS ▸ ow)
  refine ⟨d, h2, ?_, k2, r2⟩
  have dl : ds.length = 3 := rs.len
  unfold runFn
  rw [if_pos (show ds.length = f_l_book.np from dl)]
  have eb : f_l_book.body = sSq bkPre (sSq (sAs (gN 8) (eTup (aC (eLc [11] (gN 11) (iR1 (eOp opAdd (eC (.int 1)) (eCall 180 (aC (eV 3) (aC (eC (.int ((8 : Nat) : Int))) aN)) []))) tY (eTup (aC (eOp opIx (eV 6) (eV 11)) (aC (eCall 203 (aC (eV 3) (aC (eOp opAdd (eV 2) (eC (.int 1))) aN)) []) aN)))) (aC (eLst aN) aN))))
        (sSq (sAs (gN 9) (eLst aN)) (sSq (sAs (gN 10) (eLst aN)) (sSq (sFo (gN 11) (iR1 (eV 7)) b_l_book_1)
        (sSq (sAs (gN 13) (eLc [14] (gN 14) (iA (eSl opSl (eOp opIx (eV 8) (eC (.int 1))) (oS (eUn opNeg (eC (.int 3)))) oN)) tY (eOp opIx (eV 14) (eC (.int 0)))))
        (sSq (sEx (eCall 207 (aC (eV 8) (aC (eV 9) (aC (eV 10) (aC (eCall 202 (aC (eV 4) (aC (eV 7) aN)) []) (aC (eTup (aC (eC (.str "row")) (aC (eBf bTup (aC (eOp opAdd (eV 13) (eSl opSl (eV 13) oN (oS (eC (.int 1))))) aN)) aN))) aN))))) []))
        (sRt (eTup (aC (eV 8) (aC (eOp opIx (eV 10) (eUn opNeg (eC (.int 1)))) aN)))))))))) := by
    unfold bkPre
    simp only [f_l_book, ← sSq_assoc]
    rfl
  rw [eb]
  have e1 : bkPre C (List.map some ds ++ List.replicate (f_l_book.nn - ds.length) none) h = .ok (.nx e') h' := by rw [dl]; exact e1
  rw [sq_nx e1, e2]; rfl
/-! the calls, level by level -/
theorem bkC (n : Nat) : BkC (ctx T (n + 5)) := by
  have tk : ∀ n, TakeF (ctx T (n + 1)) := fun n v m p h b => take_u (C := ctx T n) p h b
  have nf : ∀ n, NumF (ctx T (n + 2)) := fun n v m p h b => number_u (C := ctx T (n + 1)) (tk n) p h b
  have na : ∀ n ln, NamF (ctx T (n + 4)) ln := fun n ln pn k M G v way most k1 k20 ml gl m8 gb p hw hm => naming_u (C := ctx T (n + 3)) (tk (n + 2)) (nf (n + 1)) (fuT _) k1 k20 ml gl gb (fun a ha => l_pair_u (C := ctx T (n + 2)) (fuT _) (by omega) m8 ha) p hw hm
  refine ⟨fuT _, tk _, nf _, fun ns k l63 hk => l_pool_u (C := ctx T (n + 4)) l63 (fuT _) hk, fun p k hp hk => l_word_u (C := ctx T (n + 4)) hp hk, fun B M G nm v most gr p20 ok pv hm => ?_, fun {A h l p m g B M G q} st bd o ah {nm df} r => put_run (C := ctx T (n + 4)) (fuT _) st bd o ah r⟩
  obtain ⟨q, v', fo, pv', F⟩ := form_u (C := ctx T (n + 4)) (tk _) (nf _) (na n B.ln) (fuT _) gr.l1 p20 gr.ml gr.m8 gr.gl (gr.gb60 p20) (gr.ps ok) pv hm
  refine ⟨q, v', fo.part hm.2 (fun w hw => ?_) gr.ml, F⟩
  rcases List.mem_append.mp hw with h | h
  · have : ∀ x ∈ ([("bell" : Str), "bells", "gong"] : List Str), PyData.strOk x = true := by decide +kernel
    exact this w h
  · obtain ⟨x, hx, rfl⟩ := List.mem_map.mp h
    exact gr.ps ok x (List.mem_of_mem_take hx)
theorem book_call {n : Nat} (hn : 6 ≤ n) {ns : List Int} (l63 : ns.length ≤ 63) {start : Nat} {most : Int} (hs : start ≤ 100) (hm : 1 ≤ most ∧ most ≤ 10 ^ 18) :
    ∃ B, Drawn B ∧ Fu ((ctx T n).call 208) [.fz (ns.map U.int), .int (start : Int), .int most] (.tup [B.u, .int (B.lg (B.P.length - 1))]) := by
  obtain ⟨m, rfl⟩ : ∃ m, n = m + 6 := ⟨n - 6, by omega⟩
  exact book_u (bkC m) l63 hs hm
/-! one limb's heights at a beat, and its first jump -/
def First (F : Int → Int) (m n : Int) : Option (Int × Int) → Prop
  | none => ∀ x, 0 ≤ x → x < n → ((F (x + 1) - F x).natAbs : Int) ≤ m
  | some p => (0 ≤ p.1 ∧ p.1 < n) ∧ F (p.1 + 1) - F p.1 = p.2 ∧ m < (p.2.natAbs : Int) ∧ ∀ x, 0 ≤ x → x < p.1 → ((F (x + 1) - F x).natAbs : Int) ≤ m
theorem First.congr {F G : Int → Int} {m n : Int} {r : Option (Int × Int)} (e : ∀ x, 0 ≤ x → x ≤ n → F x = G x) (h : First G m n r) : First F m n r := by
  cases r with
  | none =>
    intro x h0 h1
    rw [e x h0 (by omega), e (x + 1) (by omega) (by omega)]
    exact h x h0 h1
  | some p =>
    obtain ⟨⟨h0, h1⟩, h2, h3, h4⟩ := h
    refine ⟨⟨h0, h1⟩, ?_, h3, fun x x0 x1 => ?_⟩
    · rw [e _ h0 (by omega), e (p.1 + 1) (by omega) (by omega)]; exact h2
    · rw [e x x0 (by omega), e (x + 1) (by omega) (by omega)]
      exact h4 x x0 x1
theorem First.const {F : Int → Int} {m n c : Int} (hm : 0 ≤ m) (e : ∀ x, 0 ≤ x → x ≤ n → F x = c) : First F m n none := fun x h0 h1 => by
  rw [e x h0 (by omega), e (x + 1) (by omega) (by omega), Int.sub_self]
  exact hm
theorem First.cat_some {F : Int → Int} {m a b : Int} {p : Int × Int} (h : First F m a (some p)) (ab : a ≤ b) : First F m b (some p) := ⟨⟨h.1.1, by have := h.1.2; omega⟩, h.2⟩
theorem First.cat_none {F G : Int → Int} {m a b : Int} {r : Option (Int × Int)} (h : First F m a none) (a0 : 0 ≤ a) (e : ∀ x, 0 ≤ x → x ≤ b → F (a + x) = G x) (h2 : First G m b r) : First F m (a + b) (r.map fun p => (a + p.1, p.2)) := by
  have key : ∀ x, a ≤ x → x < a + b → F (x + 1) - F x = G (x - a + 1) - G (x - a) := fun x h0 h1 => by
    have e1 := e (x - a) (by omega) (by omega)
    have e2 := e (x - a + 1) (by omega) (by omega)
    rw [show a + (x - a) = x by omega] at e1
    rw [show a + (x - a + 1) = x + 1 by omega] at e2
    rw [e1, e2]
  cases r with
  | none =>
    intro x h0 h1
    by_cases c : x < a
    · exact h x h0 c
    · rw [key x (by omega) h1]
      exact h2 (x - a) (by omega) (by omega)
  | some p =>
    obtain ⟨⟨h20, h21⟩, h22, h23, h24⟩ := h2
    refine ⟨⟨by show 0 ≤ a + p.1; omega, by show a + p.1 < a + b; omega⟩, ?_, h23, fun x x0 x1 => ?_⟩
    · show F (a + p.1 + 1) - F (a + p.1) = p.2
      rw [key _ (by omega) (by omega), show a + p.1 - a = p.1 by omega]
      exact h22
    · have x1 : x < a + p.1 := x1
      by_cases c : x < a
      · exact h x x0 c
      · rw [key x (by omega) (by omega)]
        exact h24 (x - a) (by omega) (by omega)
/-- the ramp's steps: the quotient, or one more -/
theorem step_eq (c r b x : Int) (hb : 0 < b) : ((b * c + r) * (x + 1)) / b - ((b * c + r) * x) / b = c + ((r * (x + 1)) / b - (r * x) / b) := by
  have e : ∀ y, (b * c + r) * y / b = c * y + r * y / b := fun y => by
    rw [Int.add_mul, Int.mul_assoc, Int.add_comm, Int.add_mul_ediv_left _ _ (by omega), Int.add_comm]
  rw [e, e, Int.mul_add, Int.mul_one]
  omega
theorem ramp_first {s g b m : Int} (hb : 1 ≤ b) : First (rampV s g b) m b (rampJ s g b m) := by
  obtain ⟨c, hc⟩ : ∃ c, c = (g - s) / b := ⟨_, rfl⟩
  obtain ⟨r, hr⟩ : ∃ r, r = (g - s) % b := ⟨_, rfl⟩
  have d : g - s = b * c + r := by rw [hc, hr]; have := Int.mul_ediv_add_emod (g - s) b; omega
  have r0 : 0 ≤ r := by rw [hr]; exact Int.emod_nonneg _ (by omega)
  have r1 : r < b := by rw [hr]; exact Int.emod_lt_of_pos _ (by omega)
  have st : ∀ x, rampV s g b (x + 1) - rampV s g b x = c + ((r * (x + 1)) / b - (r * x) / b) := fun x => by
    unfold rampV
    rw [d, ← step_eq c r b x (by omega)]; omega
  -- below the first step the rest's share is nought
  have nul : ∀ x, 0 ≤ x → r * x < b → r * x / b = 0 := fun x x0 h => Int.ediv_eq_zero_of_lt (Int.mul_nonneg r0 x0) h
  have one : ∀ x, 0 ≤ x → r * (x + 1) / b - r * x / b = 0 ∨ r * (x + 1) / b - r * x / b = 1 := fun x x0 => by
    have h1 : r * x / b ≤ r * (x + 1) / b := Int.ediv_le_ediv (by omega) (by rw [Int.mul_add, Int.mul_one]; omega)
    have h2 : r * (x + 1) / b ≤ (r * x + b * 1) / b := Int.ediv_le_ediv (by omega) (by rw [Int.mul_add, Int.mul_one]; omega)
    rw [Int.add_mul_ediv_left _ _ (by omega)] at h2
    omega
  unfold rampJ
  rw [← hc, ← hr]
  by_cases h1 : m < (c.natAbs : Int)
  · rw [if_pos h1]
    refine ⟨⟨Int.le_refl _, by show 0 < b; omega⟩, ?_, h1, fun x x0 x1 => ?_⟩
    · show rampV s g b (0 + 1) - rampV s g b 0 = c
      rw [st 0, nul 0 (Int.le_refl _) (by omega), nul (0 + 1) (by omega) (by omega)]; omega
    · have : x < 0 := x1
      omega
  · rw [if_neg h1]
    by_cases h2 : 0 < r ∧ m < ((c + 1).natAbs : Int)
    · rw [if_pos h2]
      obtain ⟨k, hk⟩ : ∃ k, k = (b - 1) / r := ⟨_, rfl⟩
      have k0 : 0 ≤ k := by rw [hk]; exact Int.ediv_nonneg (by omega) (by omega)
      have k1 : r * k < b := by have := Int.mul_ediv_self_le (x := b - 1) (k := r) (by omega); rw [← hk] at this; omega
      have k2 : b ≤ r * (k + 1) := by
        have := Int.lt_mul_ediv_self_add (x := b - 1) (k := r) h2.1
        rw [← hk] at this
        rw [Int.mul_add, Int.mul_one]; omega
      have kb : k < b := by
        have h3 : k * 1 ≤ (b - 1) / r * r := by rw [hk]; exact Int.mul_le_mul_of_nonneg_left (by omega) (hk ▸ k0)
        have h4 : (b - 1) / r * r ≤ b - 1 := by rw [Int.mul_comm]; exact Int.mul_ediv_self_le (by omega)
        omega
      rw [← hk]
      refine ⟨⟨k0, kb⟩, ?_, h2.2, fun x x0 x1 => ?_⟩
      · show rampV s g b (k + 1) - rampV s g b k = c + 1
        have e1 : r * (k + 1) / b = 1 := by
          have l1 : 1 ≤ r * (k + 1) / b := (Int.le_ediv_iff_mul_le (by omega)).mpr (by omega)
          have := nul k k0 k1
          have := one k k0
          omega
        rw [st k, nul k k0 k1, e1]; rfl
      · have x1 : x < k := x1
        have h5 : r * (x + 1) ≤ r * k := Int.mul_le_mul_of_nonneg_left (by omega) r0
        rw [st x, nul x x0 (by rw [Int.mul_add, Int.mul_one] at h5; omega), nul (x + 1) (by omega) (by omega)]
        omega
    · rw [if_neg h2]
      intro x x0 x1
      rw [st x]
      by_cases rp : 0 < r
      · have h3 : ¬ m < ((c + 1).natAbs : Int) := fun h => h2 ⟨rp, h⟩
        rcases one x x0 with e | e <;> rw [e]
        · omega
        · omega
      · have : r = 0 := by omega
        subst this
        rw [Int.zero_mul, Int.zero_mul, Int.zero_ediv]; omega
/-! heights of one limb -/
abbrev HT := Int → Int → Int
def idT : HT := fun _ h => h
def Bk.lv (B : Bk) (l j : Nat) (h : Int) : Int := (B.ef j l).getD h
def wH (B : Bk) (l : Nat) (f : Nat → HT) (j : Nat) : HT := fun x h => if x < B.lg j then f j x h else B.lv l j h
def rowT (B : Bk) (l : Nat) (f : Nat → HT) : List Nat → HT
  | [], _, h => h
  | j :: js, x, h => if x < B.lg j then f j x h else rowT B l f js (x - B.lg j) (B.lv l j h)
def sideT (B : Bk) (l : Nat) (f : Nat → HT) (js : List Nat) : HT := fun x h => js.foldl (fun h j => wH B l f j x h) h
def hF (B : Bk) (l : Nat) (acc : List HT) : Pt → HT
  | .raise l' t b => fun x h => if l = l' then rampV h t b x else h
  | .side js => sideT B l (fun j => acc.getD j idT) js
  | .row js => rowT B l (fun j => acc.getD j idT) js
  | .again _ j => fun x h => acc.getD j idT (x % B.lg j) (if 0 < x / B.lg j then B.lv l j h else h)
  | _ => idT
def Bk.hp (B : Bk) (l k : Nat) : HT := (tab (hF B l) B.pts).getD k idT
theorem setH_len : ∀ (ps : List (Int × Int)) (hs : List Int), (setH hs ps).length = hs.length
  | [], _ => rfl
  | p :: ps, hs => by
    show (setH (hs.set p.1.toNat p.2) ps).length = _
    rw [setH_len ps, List.length_set]
theorem setH_at {g : Nat → Option Int} {l : Nat} : ∀ (ls : List Nat) (hs : List Int), l < hs.length → (setH hs (ls.filterMap fun l => (g l).map fun h => ((l : Int), h))).getD l 0 = if l ∈ ls then (g l).getD (hs.getD l 0) else hs.getD l 0
  | [], _, _ => rfl
  | a :: ls, hs, hl => by
    rw [List.filterMap_cons]
    cases e : g a with
    | none =>
      simp only [Option.map_none]
      rw [setH_at ls hs hl]
      by_cases c : l = a
      · subst c
        rw [e, Option.getD_none, if_pos (List.mem_cons_self ..), ite_self]
      · simp only [List.mem_cons, c, false_or]
    | some v =>
      simp only [Option.map_some]
      show (setH (hs.set (a : Int).toNat v) (ls.filterMap _)).getD l 0 = _
      rw [Int.toNat_natCast, setH_at ls (hs.set a v) (by rw [List.length_set]; exact hl)]
      by_cases c : l = a
      · subst c
        have : (hs.set l v).getD l 0 = v := by
          rw [List.getD_eq_getElem?_getD, List.getElem?_set_self (by omega), Option.getD_some]
        rw [e, if_pos (List.mem_cons_self ..), Option.getD_some, Option.getD_some, this, ite_self]
      · have : (hs.set a v).getD l 0 = hs.getD l 0 := by
          rw [List.getD_eq_getElem?_getD, List.getElem?_set_ne (by omega), ← List.getD_eq_getElem?_getD]
        rw [this]
        simp only [List.mem_cons, c, false_or]
section
variable {B : Bk} {l : Nat}
theorem leave_at {k : Nat} {hs : List Int} (hl : l < B.L.length) (e : hs.length = B.L.length) : (B.leave k hs).getD l 0 = B.lv l k (hs.getD l 0) := by
  unfold Bk.leave endL
  rw [setH_at _ _ (by omega), if_pos (List.mem_range.mpr hl)]; rfl
theorem leave_len {k : Nat} {hs : List Int} : (B.leave k hs).length = hs.length := setH_len _ _
theorem rowT_congr {f g : Nat → HT} : ∀ {js : List Nat} {x h : Int}, (∀ j ∈ js, f j = g j) → rowT B l f js x h = rowT B l g js x h
  | [], _, _, _ => rfl
  | j :: js, x, h, e => by
    unfold rowT
    rw [e j (List.mem_cons_self ..), rowT_congr fun i hi => e i (List.mem_cons_of_mem _ hi)]
theorem sideT_cons {f : Nat → HT} {j : Nat} {js : List Nat} {x h : Int} : sideT B l f (j :: js) x h = sideT B l f js x (wH B l f j x h) := rfl
theorem sideT_congr {f g : Nat → HT} : ∀ {js : List Nat} {x h : Int}, (∀ j ∈ js, f j = g j) → sideT B l f js x h = sideT B l g js x h
  | [], _, _, _ => rfl
  | j :: js, x, h, e => by
    rw [sideT_cons, sideT_cons, sideT_congr fun i hi => e i (List.mem_cons_of_mem _ hi)]
    unfold wH
    rw [e j (List.mem_cons_self ..)]
theorem hF_congr {a a' : List HT} {p : Pt} (h : ∀ j ∈ p.js, a.getD j idT = a'.getD j idT) : hF B l a p = hF B l a' p := by
  cases p with
  | row js => funext x y; exact rowT_congr h
  | side js => funext x y; exact sideT_congr h
  | again z j => funext x y; show a.getD j idT _ _ = _; rw [h j (List.mem_singleton.mpr rfl)]; rfl
  | _ => rfl
theorem Ok.hp_eq (o : Ok B) {k : Nat} (h : k < B.P.length) : B.hp l k = hF B l (tab (hF B l) B.pts) (B.pt k) := by
  unfold Bk.hp
  rw [getD_of (tab_at (Bk.pt_at (Bk.P_at h)).2.2)]
  exact hF_congr fun j hj => getD_take ((o.pt_ok h).js_lt j hj)
/-- the heights of one limb are told by that limb alone -/
theorem put_at (o : Ok B) (hl : l < B.L.length) : ∀ k, k < B.P.length → ∀ x hs, hs.length = B.L.length → (B.put k x hs).length = B.L.length ∧ (B.put k x hs).getD l 0 = B.hp l k x (hs.getD l 0) := by
  intro k
  induction k using Nat.strongRecOn with
  | ind k ih =>
    intro hk x hs hn
    have op := o.pt_ok hk
    have jl := op.js_lt
    rw [o.put_eq hk, o.hp_eq hk]
    have ih : ∀ j, j < k → ∀ x hs, hs.length = B.L.length → ((tab (pF B) B.pts).getD j idP x hs).length = B.L.length ∧ ((tab (pF B) B.pts).getD j idP x hs).getD l 0 = (tab (hF B l) B.pts).getD j idT x (hs.getD l 0) := fun j hj => ih j hj (by omega)
    cases ep : B.pt k with
    | raise l' t b =>
      refine ⟨(List.length_set).trans hn, ?_⟩
      show (hs.set l' (rampV (hs.getD l' 0) t b x)).getD l 0 = if l = l' then rampV (hs.getD l 0) t b x else hs.getD l 0
      by_cases c : l = l'
      · subst c
        rw [if_pos rfl, List.getD_eq_getElem?_getD, List.getElem?_set_self (by omega), Option.getD_some]
      · rw [if_neg c, List.getD_eq_getElem?_getD, List.getElem?_set_ne (by omega), ← List.getD_eq_getElem?_getD]
    | row js =>
      rw [ep] at jl
      have jl : ∀ j ∈ js, j < k := jl
      have key : ∀ (js : List Nat) (x : Int) (hs : List Int), (∀ j ∈ js, j < k) → hs.length = B.L.length → (rowH B (fun j => (tab (pF B) B.pts).getD j idP) js x hs).length = B.L.length ∧ (rowH B (fun j => (tab (pF B) B.pts).getD j idP) js x hs).getD l 0 = rowT B l (fun j => (tab (hF B l) B.pts).getD j idT) js x (hs.getD l 0) := by
        intro js
        induction js with
        | nil => intro x hs _ hn; exact ⟨hn, rfl⟩
        | cons j js ih2 =>
          intro x hs jl hn
          unfold rowH rowT
          split
          · exact ih j (jl j (List.mem_cons_self ..)) x hs hn
          · rw [← leave_at hl hn]
            exact ih2 _ _ (fun i hi => jl i (List.mem_cons_of_mem _ hi)) (leave_len.trans hn)
      exact key js x hs jl hn
    | side js =>
      rw [ep] at jl
      have jl : ∀ j ∈ js, j < k := jl
      have key : ∀ (js : List Nat) (hs : List Int), (∀ j ∈ js, j < k) → hs.length = B.L.length → (sideH B (fun j => (tab (pF B) B.pts).getD j idP) js x hs).length = B.L.length ∧ (sideH B (fun j => (tab (pF B) B.pts).getD j idP) js x hs).getD l 0 = sideT B l (fun j => (tab (hF B l) B.pts).getD j idT) js x (hs.getD l 0) := by
        intro js
        induction js with
        | nil => intro hs _ hn; exact ⟨hn, rfl⟩
        | cons j js ih2 =>
          intro hs jl hn
          rw [sideH_cons, sideT_cons]
          unfold wH
          split
          · have q := ih j (jl j (List.mem_cons_self ..)) x hs hn
            have e := ih2 (((tab (pF B) B.pts).getD j idP) x hs)
            rw [q.2] at e
            exact e (fun i hi => jl i (List.mem_cons_of_mem _ hi)) q.1
          · rw [← leave_at hl hn]
            exact ih2 _ (fun i hi => jl i (List.mem_cons_of_mem _ hi)) (leave_len.trans hn)
      exact key js hs jl hn
    | again z j =>
      rw [ep] at jl
      have hj := jl j (List.mem_singleton.mpr rfl)
      show (((tab (pF B) B.pts).getD j idP) _ _).length = _ ∧ (((tab (pF B) B.pts).getD j idP) _ _).getD l 0 = ((tab (hF B l) B.pts).getD j idT) _ _
      split
      · rw [← leave_at hl hn]
        exact ih j hj _ _ (leave_len.trans hn)
      · exact ih j hj _ _ hn
    | hold b => exact ⟨hn, rfl⟩
    | ring w b => exact ⟨hn, rfl⟩
theorem lv_eq (o : Ok B) {k : Nat} (hk : k < B.P.length) {h : Int} (js : List Nat) (e : B.ef k l = js.reverse.findSome? fun j => B.ef j l) : B.lv l k h = js.foldl (fun h j => B.lv l j h) h := by
  unfold Bk.lv
  rw [e]
  clear e hk o
  induction js generalizing h with
  | nil => rfl
  | cons j js ih =>
    rw [List.foldl_cons, ← ih, List.reverse_cons, List.findSome?_append]
    cases js.reverse.findSome? fun j => B.ef j l with
    | some v => rfl
    | none =>
      rw [List.findSome?_singleton]; rfl
/-- a limb that a part doesn't move stays -/
theorem hp_stay (o : Ok B) : ∀ k, k < B.P.length → B.ef k l = none → ∀ x h, B.hp l k x h = h := by
  intro k
  induction k using Nat.strongRecOn with
  | ind k ih =>
    intro hk ne x h
    have op := o.pt_ok hk
    have jl := op.js_lt
    rw [o.hp_eq hk]
    rw [o.ef_eq hk] at ne
    have lv0 : ∀ j, B.ef j l = none → ∀ h, B.lv l j h = h := fun j e h => by unfold Bk.lv; rw [e]; rfl
    have many : ∀ js : List Nat, (∀ j ∈ js, j < k) → (js.reverse.findSome? fun j => (B.efs.getD j fun _ => none) l) = none → ∀ j ∈ js, (∀ x h, ((tab (hF B l) B.pts).getD j idT) x h = h) ∧ ∀ h, B.lv l j h = h := fun js jl e j hj => by
      have e : B.ef j l = none := List.findSome?_eq_none_iff.mp e j (List.mem_reverse.mpr hj)
      exact ⟨ih j (jl j hj) (by have := jl j hj; omega) e, lv0 j e⟩
    cases ep : B.pt k with
    | raise l' t b =>
      rw [ep] at ne
      have ne : (if l = l' then some t else none) = none := ne
      show (if l = l' then rampV h t b x else h) = h
      split at ne
      · cases ne
      · rw [if_neg (by assumption)]
    | row js =>
      rw [ep] at ne jl
      have M := many js jl ne
      show rowT B l _ js x h = h
      clear ne jl ep op
      induction js generalizing x with
      | nil => rfl
      | cons j js ih2 =>
        unfold rowT
        split
        · exact (M j (List.mem_cons_self ..)).1 x h
        · rw [(M j (List.mem_cons_self ..)).2]
          exact ih2 _ fun i hi => M i (List.mem_cons_of_mem _ hi)
    | side js =>
      rw [ep] at ne jl
      have M := many js jl ne
      show sideT B l _ js x h = h
      clear ne jl ep op
      induction js with
      | nil => rfl
      | cons j js ih2 =>
        rw [sideT_cons]
        have : wH B l (fun j => (tab (hF B l) B.pts).getD j idT) j x h = h := by
          unfold wH
          split
          · exact (M j (List.mem_cons_self ..)).1 x h
          · exact (M j (List.mem_cons_self ..)).2 h
        rw [this]
        exact ih2 fun i hi => M i (List.mem_cons_of_mem _ hi)
    | again z j =>
      rw [ep] at ne jl
      have M := many [j] jl ne j (List.mem_singleton.mpr rfl)
      show ((tab (hF B l) B.pts).getD j idT) _ _ = h
      rw [M.2, ite_self, M.1]
    | hold b => rfl
    | ring w b => rfl
/-- at beat nought no limb has moved -/
theorem hp_zero (o : Ok B) : ∀ k, k < B.P.length → ∀ h, B.hp l k 0 h = h := by
  intro k
  induction k using Nat.strongRecOn with
  | ind k ih =>
    intro hk h
    have op := o.pt_ok hk
    have jl := op.js_lt
    rw [o.hp_eq hk]
    have ih : ∀ j, j < k → ∀ h, ((tab (hF B l) B.pts).getD j idT) 0 h = h := fun j hj => ih j hj (by omega)
    have l1 : ∀ j, j < k → 0 < B.lg j := fun j hj => by have := o.lg1 j (by omega); omega
    cases ep : B.pt k with
    | raise l' t b =>
      show (if l = l' then rampV h t b 0 else h) = h
      split
      · unfold rampV; rw [Int.mul_zero, Int.zero_ediv, Int.add_zero]
      · rfl
    | row js =>
      rw [ep] at jl
      show rowT B l _ js 0 h = h
      cases js with
      | nil => rfl
      | cons j js =>
        have hj := jl j (List.mem_cons_self ..)
        unfold rowT
        rw [if_pos (l1 j hj), ih j hj]
    | side js =>
      rw [ep] at jl
      show sideT B l _ js 0 h = h
      have jl : ∀ j ∈ js, j < k := jl
      clear ep op
      induction js with
      | nil => rfl
      | cons j js ih2 =>
        have hj := jl j (List.mem_cons_self ..)
        rw [sideT_cons]
        unfold wH
        rw [if_pos (l1 j hj)]
        show sideT B l _ js 0 (((tab (hF B l) B.pts).getD j idT) 0 h) = h
        rw [ih j hj]
        exact ih2 (fun i hi => jl i (List.mem_cons_of_mem _ hi)) fun i hi => jl i (List.mem_cons_of_mem _ hi)
    | again z j =>
      rw [ep] at jl
      have hj := jl j (List.mem_singleton.mpr rfl)
      show ((tab (hF B l) B.pts).getD j idT) (0 % B.lg j) (if 0 < 0 / B.lg j then _ else h) = h
      rw [Int.zero_emod, Int.zero_ediv, if_neg (Int.lt_irrefl _), ih j hj]
    | hold b => rfl
    | ring w b => rfl
end
/-! the first jump in a part: what the search finds is the first one -/
theorem mb_ef {B : Bk} (o : Ok B) (l k : Nat) : B.mb l k = (B.ef k l).isSome := by
  unfold Bk.mb
  have := o.mv_ef k l
  cases e : B.ef k l with
  | none => exact decide_eq_false fun h => (this.mp h) e
  | some v => exact decide_eq_true (this.mpr (by rw [e]; simp))
section
variable {B : Bk} {l : Nat} {m : Int}
/-- a part's heights up to its end -/
def Bk.wh (B : Bk) (l k : Nat) : HT := wH B l (B.hp l) k
theorem rowT_zero (o : Ok B) {js : List Nat} (jl : ∀ j ∈ js, j < B.P.length) (h : Int) : rowT B l (B.hp l) js 0 h = h := by
  cases js with
  | nil => rfl
  | cons j js =>
    have hj := jl j (List.mem_cons_self ..)
    unfold rowT
    rw [if_pos (by have := o.lg1 j hj; omega), hp_zero o j hj]
theorem wh_end {k : Nat} (h : Int) : B.wh l k (B.lg k) h = B.lv l k h := by
  unfold Bk.wh wH
  rw [if_neg (Int.lt_irrefl _)]
theorem rowJ_gone {f : Nat → Int → Option (Int × Int)} {mv : Nat → Bool} {lf lg : Nat → Int} : ∀ {js : List Nat} {h g : Int}, rowJ f mv lf lg js h g = (rowJ f mv lf lg js h 0).map fun r => (g + r.1, r.2)
  | [], _, _ => rfl
  | j :: js, h, g => by
    unfold rowJ
    cases f j h with
    | some r => simp only [Option.map_some, Int.zero_add]
    | none =>
      simp only
      rw [rowJ_gone (g := g + lg j), rowJ_gone (g := 0 + lg j)]
      cases rowJ f mv lf lg js (if mv j = true then lf j else h) 0 with
      | none => rfl
      | some r => simp only [Option.map_some, Int.zero_add, Int.add_assoc]
theorem rowT_end (o : Ok B) : ∀ {js : List Nat} {h : Int}, (∀ j ∈ js, j < B.P.length) → rowT B l (B.hp l) js (js.map B.lg).sum h = js.foldl (fun h j => B.lv l j h) h
  | [], _, _ => rfl
  | j :: js, h, jl => by
    have pos : 0 ≤ (js.map B.lg).sum := by have := sum_ge (js := js) (f := B.lg) fun i hi => o.lg1 i (jl i (List.mem_cons_of_mem _ hi)); omega
    unfold rowT
    rw [List.map_cons, List.sum_cons, if_neg (by omega), show B.lg j + (js.map B.lg).sum - B.lg j = (js.map B.lg).sum by omega, rowT_end o fun i hi => jl i (List.mem_cons_of_mem _ hi)]
    rfl
theorem lf_lv (o : Ok B) {j : Nat} {h : Int} : (if B.mb l j = true then B.lf l j else h) = B.lv l j h := by
  rw [mb_ef o]
  unfold Bk.lf Bk.lv
  cases B.ef j l with
  | none => rfl
  | some v => rfl
theorem row_first (o : Ok B) (k : Nat) (hk : k ≤ B.P.length) (ih : ∀ j, j < k → ∀ h, First (fun x => B.wh l j x h) m (B.lg j) (jm B l m j h)) : ∀ {js : List Nat} {h : Int}, (∀ j ∈ js, j < k) → First (fun x => rowT B l (B.hp l) js x h) m (js.map B.lg).sum (rowJ (jm B l m) (B.mb l) (B.lf l) B.lg js h 0)
  | [], h, _ => fun x h0 h1 => by
    have h1 : x < 0 := h1
    omega
  | j :: js, h, jl => by
    have hj := jl j (List.mem_cons_self ..)
    have jl' : ∀ i ∈ js, i < k := fun i hi => jl i (List.mem_cons_of_mem _ hi)
    have jp : ∀ i ∈ js, i < B.P.length := fun i hi => by have := jl' i hi; omega
    have lj := o.lg1 j (by omega)
    have pos : 0 ≤ (js.map B.lg).sum := by have := sum_ge (js := js) (f := B.lg) fun i hi => o.lg1 i (jp i hi); omega
    have F1 : First (fun x => rowT B l (B.hp l) (j :: js) x h) m (B.lg j) (jm B l m j h) := by
      refine First.congr (fun x h0 h1 => ?_) (ih j hj h)
      show rowT B l (B.hp l) (j :: js) x h = wH B l (B.hp l) j x h
      unfold rowT wH
      split
      · rfl
      · rw [show x - B.lg j = 0 by omega, rowT_zero o jp]
    rw [List.map_cons, List.sum_cons]
    unfold rowJ
    cases e : jm B l m j h with
    | some r =>
      rw [e] at F1
      simp only [Int.zero_add]
      exact F1.cat_some (by omega)
    | none =>
      rw [e] at F1
      simp only [Int.zero_add]
      rw [rowJ_gone, lf_lv o]
      refine F1.cat_none (by omega) (fun x h0 h1 => ?_) (row_first o k hk ih jl')
      show rowT B l (B.hp l) (j :: js) (B.lg j + x) h = rowT B l (B.hp l) js x (B.lv l j h)
      conv => lhs; unfold rowT
      rw [if_neg (by omega), show B.lg j + x - B.lg j = x by omega]
theorem lv_lv {j : Nat} {h : Int} : B.lv l j (B.lv l j h) = B.lv l j h := by
  unfold Bk.lv
  cases B.ef j l <;> rfl
theorem turn_first (o : Ok B) (hm : 0 ≤ m) {j : Nat} (hj : j < B.P.length) {z : Int} (hz : 1 ≤ z) (ih : ∀ h, First (fun x => B.wh l j x h) m (B.lg j) (jm B l m j h)) {h : Int} : First (fun x => B.hp l j (x % B.lg j) (if 0 < x / B.lg j then B.lv l j h else h)) m (z * B.lg j) (match jm B l m j h with
        | some r => some r
        | none => if z = 1 then none else (jm B l m j (B.lv l j h)).map fun r => (B.lg j + r.1, r.2)) := by
  have lj := o.lg1 j hj
  obtain ⟨L, hL⟩ : ∃ L, L = B.lg j := ⟨_, rfl⟩
  have ih : ∀ h, First (fun x => B.wh l j x h) m L (jm B l m j h) := hL ▸ ih
  rw [← hL] at lj ⊢
  have at_ : ∀ x h, 0 ≤ x → x < L → B.hp l j x h = B.wh l j x h := fun x h h0 h1 => by unfold Bk.wh wH; rw [if_pos (by omega)]
  have we : ∀ h, B.wh l j L h = B.lv l j h := fun h => by rw [hL]; exact wh_end h
  have F1 : First (fun x => B.hp l j (x % L) (if 0 < x / L then B.lv l j h else h)) m L (jm B l m j h) := by
    refine First.congr (fun x h0 h1 => ?_) (ih h)
    by_cases c : x < L
    · rw [Int.emod_eq_of_lt h0 c, Int.ediv_eq_zero_of_lt h0 c, if_neg (Int.lt_irrefl _)]
      exact at_ x h h0 c
    · have : x = L := by omega
      subst this
      rw [Int.emod_self, Int.ediv_self (by omega), if_pos (by decide), hp_zero o j hj]
      exact (we h).symm
  have zL : L ≤ z * L := by
    have := Int.mul_le_mul_of_nonneg_right hz (show 0 ≤ L by omega)
    omega
  -- the later turns
  have lat : ∀ t : Int, 1 ≤ t → ∀ x, 0 ≤ x → x ≤ L → B.hp l j ((t * L + x) % L) (if 0 < (t * L + x) / L then B.lv l j h else h) = B.wh l j x (B.lv l j h) := fun t ht x h0 h1 => by
    have e1 : (t * L + x) % L = x % L := by rw [Int.add_comm, Int.add_mul_emod_self_right]
    have e2 : (t * L + x) / L = t + x / L := by rw [Int.add_comm, Int.add_mul_ediv_right _ _ (by omega), Int.add_comm]
    have e3 : 0 ≤ x / L := Int.ediv_nonneg h0 (by omega)
    rw [e1, e2, if_pos (by omega)]
    by_cases c : x < L
    · rw [Int.emod_eq_of_lt h0 c]; exact at_ _ _ h0 c
    · have : x = L := by omega
      subst this
      rw [Int.emod_self, hp_zero o j hj, we, lv_lv]
  cases e : jm B l m j h with
  | some r =>
    rw [e] at F1
    exact F1.cat_some zL
  | none =>
    rw [e] at F1
    simp only
    by_cases z1 : z = 1
    · subst z1
      rw [if_pos rfl, Int.one_mul]; exact F1
    · rw [if_neg z1]
      have z2 : L ≤ (z - 1) * L := by
        have := Int.mul_le_mul_of_nonneg_right (show 1 ≤ z - 1 by omega) (show 0 ≤ L by omega)
        omega
      have F2 : First (fun x => B.hp l j ((L + x) % L) (if 0 < (L + x) / L then B.lv l j h else h)) m ((z - 1) * L) (jm B l m j (B.lv l j h)) := by
        have I := ih (B.lv l j h)
        cases e2 : jm B l m j (B.lv l j h) with
        | some r =>
          rw [e2] at I
          refine First.cat_some (First.congr (fun x h0 h1 => ?_) I) z2
          have := lat 1 (Int.le_refl _) x h0 h1
          rwa [Int.one_mul] at this
        | none =>
          rw [e2] at I
          intro x h0 h1
          obtain ⟨t, ht⟩ : ∃ t, t = x / L := ⟨_, rfl⟩
          obtain ⟨y, hy⟩ : ∃ y, y = x % L := ⟨_, rfl⟩
          have t0 : 0 ≤ t := by rw [ht]; exact Int.ediv_nonneg h0 (by omega)
          have y0 : 0 ≤ y := by rw [hy]; exact Int.emod_nonneg _ (by omega)
          have y1 : y < L := by rw [hy]; exact Int.emod_lt_of_pos _ (by omega)
          have ex : L + x = (t + 1) * L + y := by
            have := Int.mul_ediv_add_emod x L
            rw [← ht, ← hy] at this
            rw [Int.add_mul, Int.one_mul, Int.mul_comm t L]; omega
          show ((B.hp l j ((L + (x + 1)) % L) _ - B.hp l j ((L + x) % L) _).natAbs : Int) ≤ m
          rw [show L + (x + 1) = (t + 1) * L + (y + 1) by omega, ex, lat (t + 1) (by omega) (y + 1) (by omega) (by omega), lat (t + 1) (by omega) y y0 (by omega)]
          exact I y y0 y1
      have := F1.cat_none (b := (z - 1) * L) (by omega) (fun x _ _ => rfl) F2
      rwa [show L + (z - 1) * L = z * L by rw [Int.sub_mul, Int.one_mul]; omega] at this
theorem jm_first (o : Sound B) (hm : 0 ≤ m) : ∀ k, k < B.P.length → ∀ h, First (fun x => B.wh l k x h) m (B.lg k) (jm B l m k h) := by
  intro k
  induction k using Nat.strongRecOn with
  | ind k ih =>
    intro hk h
    have ok := o.toOk
    have op := ok.pt_ok hk
    have jl := op.js_lt
    have ih : ∀ j, j < k → ∀ h, First (fun x => B.wh l j x h) m (B.lg j) (jm B l m j h) := fun j hj => ih j hj (by omega)
    have lge := ok.lg_eq hk
    have hpe := ok.hp_eq (l := l) hk
    have efe := congrFun (ok.ef_eq hk) l
    rw [jm_eq ok hk]
    by_cases mb : B.mb l k = true
    · rw [if_pos mb]
      have mbs : (B.ef k l).isSome = true := by rw [← mb_ef ok]; exact mb
      cases ep : B.pt k with
      | raise l' t b =>
        rw [ep] at lge hpe efe op
        have lge : B.lg k = b := lge
        have efe2 : B.ef k l = if l = l' then some t else none := efe
        have ll : l = l' := by
          by_cases c : l = l'
          · exact c
          · rw [efe2, if_neg c] at mbs; cases mbs
        rw [if_pos ll] at efe2
        rw [lge]
        refine First.congr (fun x h0 h1 => ?_) (ramp_first op.2.2.2.1)
        show wH B l (B.hp l) k x h = _
        unfold wH
        rw [lge]
        split
        · rw [hpe]
          show (if l = l' then rampV h t b x else h) = _
          rw [if_pos ll]
        · have b1 := op.2.2.2.1
          have : x = b := by omega
          subst this
          unfold Bk.lv rampV
          rw [efe2, Int.mul_ediv_cancel _ (by omega)]
          show t = _
          omega
      | hold b => rw [ep] at efe; have efe : B.ef k l = none := efe; rw [efe] at mbs; cases mbs
      | ring w b => rw [ep] at efe; have efe : B.ef k l = none := efe; rw [efe] at mbs; cases mbs
      | row js =>
        rw [ep] at lge hpe efe jl
        have lge : B.lg k = (js.map B.lg).sum := lge
        have jl : ∀ j ∈ js, j < k := jl
        have jp : ∀ i ∈ js, i < B.P.length := fun i hi => by have := jl i hi; omega
        rw [lge]
        refine First.congr (fun x h0 h1 => ?_) (row_first ok k (by omega) ih jl)
        show wH B l (B.hp l) k x h = rowT B l (B.hp l) js x h
        unfold wH
        rw [lge]
        split
        · rw [hpe]; rfl
        · rw [show x = (js.map B.lg).sum by omega, rowT_end ok jp, lv_eq ok hk js efe]
      | side js =>
        rw [ep] at lge hpe efe jl op
        have jl : ∀ j ∈ js, j < k := jl
        have lge : B.lg k = (maxL (js.map B.lg)).getD 0 := lge
        have efe : B.ef k l = js.reverse.findSome? fun j => B.ef j l := efe
        have pw := (o.mvs k js ep hk).2
        simp only
        cases ef : js.find? (B.mb l) with
        | none =>
          have : (js.reverse.findSome? fun j => B.ef j l) = none := List.findSome?_eq_none_iff.mpr fun j hj => by
            have := List.find?_eq_none.mp ef j (List.mem_reverse.mp hj)
            rw [mb_ef ok] at this
            cases e : B.ef j l with
            | none => rfl
            | some v => rw [e] at this; exact absurd rfl this
          rw [efe, this] at mbs; cases mbs
        | some j0 =>
          simp only
          obtain ⟨hb0, pre, post, ejs, npre⟩ := List.find?_eq_some_iff_append.mp ef
          have hj0 := jl j0 (by rw [ejs]; exact List.mem_append_right _ (List.mem_cons_self ..))
          have npost : ∀ j ∈ post, B.mb l j = false := fun j hj => by
            rw [ejs] at pw
            have := (List.pairwise_cons.mp (List.pairwise_append.mp pw).2.1).1 j hj l (of_decide_eq_true hb0)
            exact decide_eq_false this
          have st : ∀ j, j < B.P.length → B.mb l j = false → (∀ x h, wH B l (B.hp l) j x h = h) ∧ ∀ h, B.lv l j h = h := fun j hj e => by
            have ne : B.ef j l = none := by
              rw [mb_ef ok] at e
              cases q : B.ef j l with
              | none => rfl
              | some v => rw [q] at e; cases e
            have lv0 : ∀ h, B.lv l j h = h := fun h => by unfold Bk.lv; rw [ne]; rfl
            refine ⟨fun x h => ?_, lv0⟩
            unfold wH
            split
            · exact hp_stay ok j hj ne x h
            · exact lv0 h
          have sk : ∀ (ks : List Nat), (∀ j ∈ ks, j < k ∧ B.mb l j = false) → ∀ x h, sideT B l (B.hp l) ks x h = h ∧ ks.foldl (fun h j => B.lv l j h) h = h := fun ks => by
            induction ks with
            | nil => intro _ x h; exact ⟨rfl, rfl⟩
            | cons j ks ih2 =>
              intro hq x h
              have q := hq j (List.mem_cons_self ..)
              obtain ⟨q1, q2⟩ := st j (by omega) q.2
              rw [sideT_cons, q1, List.foldl_cons, q2]
              exact ih2 (fun i hi => hq i (List.mem_cons_of_mem _ hi)) x h
          have kpre : ∀ j ∈ pre, j < k ∧ B.mb l j = false := fun j hj => ⟨jl j (by rw [ejs]; exact List.mem_append_left _ hj), by have := npre j hj; simpa using this⟩
          have kpost : ∀ j ∈ post, j < k ∧ B.mb l j = false := fun j hj => ⟨jl j (by rw [ejs]; exact List.mem_append_right _ (List.mem_cons_of_mem _ hj)), npost j hj⟩
          have e1 : ∀ x h, sideT B l (B.hp l) js x h = wH B l (B.hp l) j0 x h := fun x h => by
            have ap : ∀ (a c : List Nat) h, sideT B l (B.hp l) (a ++ c) x h = sideT B l (B.hp l) c x (sideT B l (B.hp l) a x h) := fun a c h => List.foldl_append
            rw [ejs, ap, (sk pre kpre x h).1, sideT_cons, (sk post kpost x _).1]
          have e2 : B.lv l k h = B.lv l j0 h := by
            rw [lv_eq ok hk js efe, ejs, List.foldl_append, (sk pre kpre 0 h).2, List.foldl_cons, (sk post kpost 0 _).2]
          have le : B.lg j0 ≤ B.lg k := by
            have ne : js.map B.lg ≠ [] := by rw [ejs]; simp
            obtain ⟨mm, q1, _, q3⟩ := maxL_ex ne
            rw [lge, q1]
            exact q3 _ (List.mem_map.mpr ⟨j0, by rw [ejs]; exact List.mem_append_right _ (List.mem_cons_self ..), rfl⟩)
          have F : ∀ x, 0 ≤ x → x ≤ B.lg k → B.wh l k x h = wH B l (B.hp l) j0 x h := fun x h0 h1 => by
            unfold Bk.wh
            conv => lhs; unfold wH
            split
            · rw [hpe]; exact e1 x h
            · rw [e2]; unfold wH; rw [if_neg (by omega)]
          have I := ih j0 hj0 h
          have I1 : First (fun x => B.wh l k x h) m (B.lg j0) (jm B l m j0 h) := First.congr (fun x h0 h1 => F x h0 (by omega)) I
          cases e : jm B l m j0 h with
          | some r => rw [e] at I1; exact I1.cat_some le
          | none =>
            rw [e] at I1
            intro x h0 h1
            by_cases c : x < B.lg j0
            · exact I1 x h0 c
            · show ((B.wh l k (x + 1) h - B.wh l k x h).natAbs : Int) ≤ m
              rw [F x h0 (by omega), F (x + 1) (by omega) (by omega)]
              unfold wH
              rw [if_neg (by omega), if_neg (by omega), Int.sub_self]
              exact hm
      | again z j =>
        rw [ep] at lge hpe efe jl op
        have hj := jl j (List.mem_singleton.mpr rfl)
        have lge : B.lg k = z * B.lg j := lge
        have efe : B.ef k l = [j].reverse.findSome? fun j => B.ef j l := efe
        have lvk : ∀ h, B.lv l k h = B.lv l j h := fun h => lv_eq ok hk [j] efe
        have elf : B.lf l j = B.lv l j h := by
          have e1 : B.ef k l = B.ef j l := by rw [efe]; show ([j].findSome? _) = _; rw [List.findSome?_singleton]
          rw [e1] at mbs
          unfold Bk.lf Bk.lv
          cases q : B.ef j l with
          | none => rw [q] at mbs; cases mbs
          | some v => rfl
        simp only
        rw [elf, lge]
        refine First.congr (fun x h0 h1 => ?_) (turn_first ok hm (by omega) op.1 (ih j hj))
        show wH B l (B.hp l) k x h = _
        unfold wH
        have lj := ok.lg1 j (by omega)
        split
        · rw [hpe]; rfl
        · have : x = z * B.lg j := by omega
          have z1 := op.1
          rw [this, Int.mul_emod_left, Int.mul_ediv_cancel _ (by omega), if_pos (by omega), hp_zero ok j (by omega), lvk]
    · rw [if_neg mb]
      have ne : B.ef k l = none := by
        rw [mb_ef ok] at mb
        cases q : B.ef k l with
        | none => rfl
        | some v => rw [q] at mb; exact absurd rfl mb
      refine First.const (c := h) hm fun x _ _ => ?_
      show wH B l (B.hp l) k x h = h
      unfold wH Bk.lv
      rw [ne]
      split
      · exact hp_stay ok k hk ne x h
      · rfl
end
/-! the first jump of all limbs, by the heights that stand tells -/
section
variable {B : Bk}
def Bk.h0 (B : Bk) (l : Nat) : Int := (B.L.getD l ("", 0)).2
/-- a limb's change at a beat -/
def Bk.dH (B : Bk) (x : Int) (l : Nat) : Int := (B.stand (x + 1)).getD l 0 - (B.stand x).getD l 0
theorem stand_at (o : Ok B) {l : Nat} (hl : l < B.L.length) {x : Int} (h1 : x ≤ B.lg (B.P.length - 1)) : (B.stand x).getD l 0 = B.wh l (B.P.length - 1) x (B.h0 l) := by
  have p1 := o.p1
  have e0 : B.hs0.length = B.L.length := List.length_map _
  have e : B.hs0.getD l 0 = B.h0 l := by
    unfold Bk.hs0 Bk.h0
    rw [List.getD_eq_getElem?_getD, List.getElem?_map, Bk.L_at hl]; rfl
  unfold Bk.stand Bk.wh wH
  by_cases c : x = B.lg (B.P.length - 1)
  · rw [if_pos c, if_neg (by omega), leave_at hl e0, e]
  · rw [if_neg c, if_pos (by omega), (put_at o hl _ (by omega) x _ e0).2, e]
theorem jm_stand (so : Sound B) {m : Int} (hm : 0 ≤ m) {l : Nat} (hl : l < B.L.length) : match jm B l m (B.P.length - 1) (B.h0 l) with
    | none => ∀ x, 0 ≤ x → x < B.lg (B.P.length - 1) → ((B.dH x l).natAbs : Int) ≤ m
    | some p => (0 ≤ p.1 ∧ p.1 < B.lg (B.P.length - 1)) ∧ B.dH p.1 l = p.2 ∧ m < (p.2.natAbs : Int) ∧ ∀ x, 0 ≤ x → x < p.1 → ((B.dH x l).natAbs : Int) ≤ m := by
  have p1 := so.toOk.p1
  have F : First (fun x => (B.stand x).getD l 0) m (B.lg (B.P.length - 1)) (jm B l m (B.P.length - 1) (B.h0 l)) := First.congr (fun x _ h1 => stand_at so.toOk hl h1) (jm_first so hm _ (by omega) _)
  revert F
  cases jm B l m (B.P.length - 1) (B.h0 l) with
  | none => exact fun F => F
  | some p => exact fun F => F
/-- the best one of some limbs ahead -/
def BestOk (B : Bk) (J : Nat → Option (Int × Int)) (n : Nat) : Option (Int × Str × Int) → Prop
  | none => ∀ l, l < n → J l = none
  | some b => ∃ l, l < n ∧ b.2.1 = B.ln l ∧ J l = some (b.1, b.2.2) ∧ (∀ i, i < l → ∀ p, J i = some p → b.1 < p.1) ∧ ∀ i, i < n → ∀ p, J i = some p → b.1 ≤ p.1
theorem best_ok {m : Int} : BestOk B (fun l => jm B l m (B.P.length - 1) (B.h0 l)) B.L.length (firstJ B m) := by
  obtain ⟨xs, hxs⟩ : ∃ xs, xs = B.L.mapIdx fun l x => (l, x) := ⟨_, rfl⟩
  have xat : ∀ j x, B.L[j]? = some x → xs[j]? = some (j, x) := fun j x q => by rw [hxs, List.getElem?_mapIdx, q]; rfl
  have xl : xs.length = B.L.length := by rw [hxs, List.length_mapIdx]
  have app : ∀ (ys : List (Nat × (Str × Int))) (z : Nat × (Str × Int)) b0, bestJ B m (ys ++ [z]) b0 = bestJ B m [z] (bestJ B m ys b0) := fun ys => by
    induction ys with
    | nil => intro z b0; rfl
    | cons y ys ih => intro z b0; obtain ⟨l, w⟩ := y; simp only [List.cons_append, bestJ]; exact ih z _
  have key : ∀ n, n ≤ B.L.length → BestOk B (fun l => jm B l m (B.P.length - 1) (B.h0 l)) n (bestJ B m (xs.take n) none) := by
    intro n
    induction n with
    | zero => intro _ l h; exact absurd h (Nat.not_lt_zero _)
    | succ n ih =>
      intro hn
      have I := ih (by omega)
      have q := Bk.L_at (B := B) (show n < B.L.length by omega)
      rw [take_snoc_g (xat n _ q), app]
      show BestOk B _ (n + 1) (match jm B n m (B.P.length - 1) (B.h0 n) with
        | none => bestJ B m (xs.take n) none
        | some f => match bestJ B m (xs.take n) none with
          | none => some (f.1, B.ln n, f.2)
          | some b => if f.1 < b.1 then some (f.1, B.ln n, f.2) else some b)
      revert I
      generalize bestJ B m (xs.take n) none = best
      intro I
      cases e : jm B n m (B.P.length - 1) (B.h0 n) with
      | none =>
        simp only
        cases best with
        | none =>
          intro l hl
          by_cases c : l = n
          · subst c; exact e
          · exact I l (by omega)
        | some b =>
          obtain ⟨l, h1, h2, h3, h4, h5⟩ := I
          refine ⟨l, by omega, h2, h3, h4, fun i hi p hp => ?_⟩
          by_cases c : i = n
          · subst c; rw [show jm B i m (B.P.length - 1) (B.h0 i) = some p from hp] at e; cases e
          · exact h5 i (by omega) p hp
      | some f =>
        simp only
        cases best with
        | none =>
          refine ⟨n, by omega, rfl, e, fun i hi p hp => ?_, fun i hi p hp => ?_⟩
          · rw [I i hi] at hp; cases hp
          · by_cases c : i = n
            · subst c; rw [show jm B i m (B.P.length - 1) (B.h0 i) = some p from hp] at e; cases e; exact Int.le_refl _
            · rw [I i (by omega)] at hp; cases hp
        | some b =>
          obtain ⟨l, h1, h2, h3, h4, h5⟩ := I
          simp only
          by_cases c : f.1 < b.1
          · rw [if_pos c]
            refine ⟨n, by omega, rfl, e, fun i hi p hp => ?_, fun i hi p hp => ?_⟩
            · have := h5 i hi p hp
              show f.1 < p.1
              omega
            · show f.1 ≤ p.1
              by_cases c2 : i = n
              · subst c2; rw [show jm B i m (B.P.length - 1) (B.h0 i) = some p from hp] at e; cases e; exact Int.le_refl _
              · have := h5 i (by omega) p hp
                omega
          · rw [if_neg c]
            refine ⟨l, by omega, h2, h3, h4, fun i hi p hp => ?_⟩
            by_cases c2 : i = n
            · subst c2; rw [show jm B i m (B.P.length - 1) (B.h0 i) = some p from hp] at e; cases e; omega
            · exact h5 i (by omega) p hp
  have := key B.L.length (Nat.le_refl _)
  rw [List.take_of_length_le (by omega), hxs] at this
  exact this
/-- what first_jump tells, by the heights -/
def JumpOk (B : Bk) (m : Int) : Option (Int × Str × Int) → Prop
  | none => ∀ x, 0 ≤ x → x < B.lg (B.P.length - 1) → ∀ l, l < B.L.length → ((B.dH x l).natAbs : Int) ≤ m
  | some b => ∃ l, l < B.L.length ∧ b.2.1 = B.ln l ∧ (0 ≤ b.1 ∧ b.1 < B.lg (B.P.length - 1)) ∧ B.dH b.1 l = b.2.2 ∧ m < (b.2.2.natAbs : Int) ∧ (∀ i, i < l → ((B.dH b.1 i).natAbs : Int) ≤ m) ∧ ∀ x, 0 ≤ x → x < b.1 → ∀ i, i < B.L.length → ((B.dH x i).natAbs : Int) ≤ m
theorem jump_ok (so : Sound B) {m : Int} (hm : 0 ≤ m) : JumpOk B m (firstJ B m) := by
  have bo := best_ok (B := B) (m := m)
  revert bo
  cases firstJ B m with
  | none =>
    intro bo x h0 h1 l hl
    have := jm_stand so hm hl
    rw [show jm B l m (B.P.length - 1) (B.h0 l) = none from bo l hl] at this
    exact this x h0 h1
  | some b =>
    rintro ⟨l, h1, h2, h3, h4, h5⟩
    have J := jm_stand so hm h1
    rw [show jm B l m (B.P.length - 1) (B.h0 l) = some (b.1, b.2.2) from h3] at J
    obtain ⟨j1, j2, j3, j4⟩ := J
    have calm : ∀ i, i < B.L.length → ∀ x, 0 ≤ x → x < B.lg (B.P.length - 1) → (∀ p, jm B i m (B.P.length - 1) (B.h0 i) = some p → x < p.1) → ((B.dH x i).natAbs : Int) ≤ m := fun i hi x x0 x1 hp => by
      have J := jm_stand so hm hi
      revert J hp
      cases jm B i m (B.P.length - 1) (B.h0 i) with
      | none => exact fun _ J => J x x0 x1
      | some p => exact fun hp J => J.2.2.2 x x0 (hp p rfl)
    have j11 : b.1 < B.lg (B.P.length - 1) := j1.2
    refine ⟨l, h1, h2, j1, j2, j3, fun i hi => calm i (by omega) b.1 j1.1 j1.2 fun p hp => h4 i hi p hp, fun x x0 x1 i hi => calm i hi x x0 (by omega) fun p hp => ?_⟩
    have := h5 i hi p hp
    have : b.1 ≤ p.1 := this
    omega
end
/-! changes at a beat, told by two stands -/
theorem first29 {B : Bk} (o : Sound B) (n : Nat) (hn : 3 * B.P.length + 8 ≤ n) (m : Int) : Fu ((ctx T (n + 1)).call 96) [B.u, .int m] (bestU (firstJ B m)) := by
  obtain ⟨n, rfl⟩ : ∃ i, n = i + 7 := ⟨n - 7, by omega⟩
  refine first_jump_u (C := ctx T (n + 7)) o (fuT _) (fun l hl => ?_) (fun l hl h hh => ?_)
  · obtain ⟨c72, c63, c76⟩ := calls29 o n
    exact ff_make T (search_init_u (C := ctx T (n + 5)) o hl (fuT _) c72.fu c63.fu c76.fu)
  · have p1 := o.p1
    exact all_found o.toOk (hs_of o.toOk hh) (fun n => fuT n) _ (by omega) _ (by omega)
theorem limb_ix {B : Bk} (o : Ok B) {l : Nat} (hl : l < B.L.length) : M1 mIdx (.lst (B.L.map fun x => U.str x.1)) [.str (B.ln l)] (.int l) := by
  have hk : B.ln l ∈ B.L.map (·.1) := List.mem_map.mpr ⟨_, List.mem_of_getElem? (Bk.L_at hl), rfl⟩
  have := m_idxs (zs := B.L.map (·.1)) hk
  rw [List.map_map] at this
  have e : ((B.L.map (·.1)).findIdx fun x => decide (x = B.ln l)) = l := by
    have ll : l < (B.L.map (·.1)).length := by rw [List.length_map]; exact hl
    have q : (B.L.map (·.1))[l]? = some (B.ln l) := by rw [List.getElem?_map, Bk.L_at hl]; rfl
    obtain ⟨_, q'⟩ := List.getElem?_eq_some_iff.mp q
    refine (List.findIdx_eq ll).mpr ⟨decide_eq_true q', fun i hi => decide_eq_false fun e => ?_⟩
    refine nd_take o.ln q (List.mem_of_getElem? (i := i) ?_)
    rw [List.getElem?_take, if_pos hi]
    exact List.getElem?_eq_some_iff.mpr ⟨by omega, e⟩
  rwa [e] at this
theorem no_jump {B : Bk} (so : Sound B) : firstJ B (10 ^ 18) = none := by
  have J := jump_ok so (show (0 : Int) ≤ 10 ^ 18 by decide)
  revert J
  cases firstJ B (10 ^ 18) with
  | none => exact fun _ => rfl
  | some b =>
    rintro ⟨l, hl, _, ⟨b0, b1⟩, eh, bm, _⟩
    have o1 := (stand_ok so.toOk b0 (Int.le_of_lt b1)).at_ hl
    have o2 := (stand_ok so.toOk (show 0 ≤ b.1 + 1 by omega) (by omega)).at_ hl
    unfold Bk.dH at eh
    omega
/-! books are clean and small -/
inductive Sm : Nat → U → Prop
  | int {n : Nat} {i : Int} : Sm n (.int i)
  | str {n : Nat} {x : Str} : Sm n (.str x)
  | tup {n : Nat} {us : List U} : us.length ≤ 500 → (∀ u ∈ us, Sm n u) → Sm (n + 1) (.tup us)
  | lst {n : Nat} {us : List U} : us.length ≤ 500 → (∀ u ∈ us, Sm n u) → Sm (n + 1) (.lst us)
theorem limbs_sm {L : List (Str × Int)} (h : L.length ≤ 8) {n : Nat} : Sm (n + 2) (.lst (L.map limbU)) := .lst (by rw [List.length_map]; omega) fun u hu => by
  obtain ⟨x, _, rfl⟩ := List.mem_map.mp hu
  exact .tup (by show 2 ≤ 500; decide) fun v hv => by
    simp only [List.mem_cons, List.not_mem_nil, or_false] at hv
    rcases hv with rfl | rfl <;> first | exact .int | exact .str
theorem u_sm {ln pn : Nat → Str} {p : Pt} (l8 : p.js.length ≤ 8) : Sm 2 (p.u ln pn) := by
  have itq : ∀ js : List Nat, js.length ≤ 8 → Sm 1 (.tup (js.map fun j => U.str (pn j))) := fun js h => .tup (by rw [List.length_map]; omega) fun u hu => by
    obtain ⟨j, _, rfl⟩ := List.mem_map.mp hu; exact .str
  have all : ∀ us : List U, us.length ≤ 500 → (∀ u ∈ us, Sm 1 u) → Sm 2 (.tup us) := fun us l h => .tup l h
  cases p <;> refine all _ (by show (_ : Nat) ≤ 500; simp only [Pt.its, List.length_cons, List.length_nil]; omega) (fun u hu => ?_) <;> simp only [Pt.tag, Pt.its, List.mem_cons, List.not_mem_nil, or_false] at hu
  · rcases hu with rfl | rfl | rfl | rfl <;> first | exact .int | exact .str
  · rcases hu with rfl | rfl <;> first | exact .int | exact .str
  · rcases hu with rfl | rfl | rfl <;> first | exact .int | exact .str
  · rcases hu with rfl | rfl <;> first | exact .str | exact itq _ l8
  · rcases hu with rfl | rfl <;> first | exact .str | exact itq _ l8
  · rcases hu with rfl | rfl | rfl <;> first | exact .int | exact .str
section
variable {B : Bk}
theorem Ok.ln_ok (o : Ok B) {l : Nat} (h : l < B.L.length) : PyData.strOk (B.ln l) = true := (o.ls _ (List.mem_of_getElem? (Bk.L_at h))).1
theorem Ok.pn_ok (o : Ok B) {j : Nat} (h : j < B.P.length) : PyData.strOk (B.pn j) = true := o.ps _ (List.mem_of_getElem? (Bk.P_at h))
theorem Ok.u_cl (o : Ok B) {k : Nat} {p : Pt} (h : k ≤ B.P.length) (op : PtOk B.L.length k p) : Cl 2 (p.u B.ln B.pn) := by
  have itq : ∀ js : List Nat, (∀ j ∈ js, j < k) → Cl 1 (.tup (js.map fun j => U.str (B.pn j))) := fun js hj => .tup fun u hu => by
    obtain ⟨j, hm, rfl⟩ := List.mem_map.mp hu; exact .str (o.pn_ok (by have := hj j hm; omega))
  have all : ∀ us : List U, (∀ u ∈ us, Cl 1 u) → Cl 2 (.tup us) := fun us h => .tup h
  cases p <;> refine all _ (fun u hu => ?_) <;> simp only [Pt.tag, Pt.its, List.mem_cons, List.not_mem_nil, or_false] at hu
  · have hl := o.ln_ok op.1
    rcases hu with rfl | rfl | rfl | rfl <;> first | exact .int | exact .str hl | exact .str (by decide +kernel)
  · rcases hu with rfl | rfl <;> first | exact .int | exact .str (by decide +kernel)
  · have hw := op.1
    rcases hu with rfl | rfl | rfl <;> first | exact .int | exact .str hw | exact .str (by decide +kernel)
  · have hj := op.2.2
    rcases hu with rfl | rfl <;> first | exact itq _ hj | exact .str (by decide +kernel)
  · have hj := op.2.2
    rcases hu with rfl | rfl <;> first | exact itq _ hj | exact .str (by decide +kernel)
  · have hn := o.pn_ok (Nat.lt_of_lt_of_le op.2.2 h)
    rcases hu with rfl | rfl | rfl <;> first | exact .int | exact .str hn | exact .str (by decide +kernel)
theorem Ok.cl (o : Ok B) : Cl 5 B.u := .tup fun u hu => by
  simp only [List.mem_cons, List.not_mem_nil, or_false] at hu
  rcases hu with rfl | rfl
  · refine .lst fun u hu => ?_
    obtain ⟨x, hx, rfl⟩ := List.mem_map.mp hu
    have hs := (o.ls x hx).1
    exact .tup fun v hv => by
      simp only [List.mem_cons, List.not_mem_nil, or_false] at hv
      rcases hv with rfl | rfl <;> first | exact .int | exact .str hs
  · refine .lst fun u hu => ?_
    obtain ⟨x, hx, rfl⟩ := List.mem_map.mp hu
    have hs := o.ps x hx
    obtain ⟨k, q⟩ := List.mem_iff_getElem?.mp hx
    have kl := (List.getElem?_eq_some_iff.mp q).1
    have uc := o.u_cl (Nat.le_of_lt kl) (o.pt k x q)
    exact .tup fun v hv => by
      simp only [List.mem_cons, List.not_mem_nil, or_false] at hv
      rcases hv with rfl | rfl
      · exact .str hs
      · exact uc
theorem Ok.sm (o : Ok B) : Sm 5 B.u := .tup (by show 2 ≤ 500; decide) fun u hu => by
  simp only [List.mem_cons, List.not_mem_nil, or_false] at hu
  rcases hu with rfl | rfl
  · exact limbs_sm o.l1.2 (n := 2)
  · refine .lst (by have := o.p1; rw [List.length_map]; omega) fun u hu => ?_
    obtain ⟨x, hx, rfl⟩ := List.mem_map.mp hu
    obtain ⟨k, q⟩ := List.mem_iff_getElem?.mp hx
    have l8 := (o.pt k x q).js_len
    exact .tup (by show 2 ≤ 500; decide) fun v hv => by
      simp only [List.mem_cons, List.not_mem_nil, or_false] at hv
      rcases hv with rfl | rfl
      · exact .str
      · exact u_sm l8
end
/-! k32: bounds raised -/
theorem l_change_u {B : Bk} (so : Sound B) {n : Nat} (hn : 151 ≤ n) {x : Int} (h0 : 0 ≤ x) (h1 : x < B.lg (B.P.length - 1)) {l : Nat} (hl : l < B.L.length) : Fu (runFn (ctx T n) f_l_change) [B.u, .int x, .str (B.ln l)] (.int (B.dH x l)) := by
  have fu := fuT n
  have l1 := so.toOk.l1
  have S1 := (stand_call so hn h0 (show x ≤ B.lg (B.P.length - 1) by omega)).fu
  have S2 := (stand_call so hn (show 0 ≤ x + 1 by omega) (show x + 1 ≤ B.lg (B.P.length - 1) by omega)).fu
  have o1 := stand_ok so.toOk h0 (show x ≤ B.lg (B.P.length - 1) by omega)
  have o2 := stand_ok so.toOk (show 0 ≤ x + 1 by omega) (show x + 1 ≤ B.lg (B.P.length - 1) by omega)
  have a1 : O2 opIx (intsU (B.stand x)) (.int (l : Nat)) (.int ((B.stand x).getD l 0)) := o_ixl (at_nat (by rw [List.getElem?_map, (o1.at_ hl).1]; rfl))
  have a2 : O2 opIx (intsU (B.stand (x + 1))) (.int (l : Nat)) (.int ((B.stand (x + 1)).getD l 0)) := o_ixl (at_nat (by rw [List.getElem?_map, (o2.at_ hl).1]; rfl))
  have sb : O2 opSub (.int ((B.stand (x + 1)).getD l 0)) (.int ((B.stand x).getD l 0)) (.int (B.dH x l)) := o_sub
  have NM : Xf (ctx T n) [.s B.u, .s (.int x), .s (.str (B.ln l)), .n, .n] (eLc [4] (gN 4) (iA (eOp opIx (eV 0) (eC (.int 0)))) tY (eOp opIx (eV 4) (eC (.int 0)))) (.lst (B.L.map fun x => U.str x.1)) := by
    apply f_lcm (f := limbU) (xs := B.L)
    case hi => (repeat first | fail "p" | fail)
    case hw => (repeat first | fail "p" | fail)
    case hn => exact sz_le (by omega)
    case fu => omega
    case hs => intro x hx; exact ⟨_, by (repeat first | fail "p" | fail), by (repeat first | fail "p" | fail)⟩
  have IX := limb_ix so.toOk hl
  refine fu_of rfl (by simp only [List.map_cons, List.map_nil, List.length_cons, List.length_nil, List.cons_append, List.nil_append, Nat.reduceAdd, Nat.reduceSub, List.replicate_succ, List.replicate_zero]; exact rfl) ?_
  (repeat first | fail "p" | with_reducible exact NM | with_reducible exact IX | with_reducible exact S1 | with_reducible exact S2 | with_reducible exact a1 | with_reducible exact a2 | with_reducible exact sb | fail)
def stB (B : Bk) : Nat → Int × Int
  | 0 => (0, 0)
  | j + 1 => match firstJ B (stB B j).1 with
    | none => stB B j
    | some b => ((b.2.2.natAbs : Int), b.1)
theorem stB_ok {B : Bk} (so : Sound B) : ∀ j, 0 ≤ (stB B j).1 ∧ ∀ x, 0 ≤ x → x < (stB B j).2 → ∀ i, i < B.L.length → ((B.dH x i).natAbs : Int) ≤ (stB B j).1
  | 0 => ⟨Int.le_refl _, fun x h0 h1 => by
      have h1 : x < 0 := h1
      omega⟩
  | j + 1 => by
    obtain ⟨h0, h1⟩ := stB_ok so j
    have J := jump_ok so h0
    unfold stB
    revert J
    cases firstJ B (stB B j).1 with
    | none => exact fun _ => ⟨h0, h1⟩
    | some b =>
      rintro ⟨l, hl, _, ⟨b0, b1⟩, eh, bm, _, ca⟩
      refine ⟨by show 0 ≤ (b.2.2.natAbs : Int); omega, fun x x0 x1 i hi => ?_⟩
      have := ca x x0 x1 i hi
      show _ ≤ (b.2.2.natAbs : Int)
      omega
abbrev pe32 (NS BU : U) (s : Int × Int) : List Sl := [.s NS, .s BU, .s (.int s.1), .s (.int s.2), .n, .n, .n]
theorem law_u (ns : List Int) (l63 : ns.length ≤ 63) (hb : ∀ z ∈ ns, Builtin.Int.intBits z ≤ 1048576) : Fu (runFn (ctx T 200) f_law) [.fz (ns.map U.int)] (.bl true) := by
  have f200 := fuT 200
  have e18 : (10 : Int) ^ (18 : Int).toNat = 10 ^ 18 := rfl
  obtain ⟨B, dr, BC⟩ := book_call (n := 200) (by decide) l63 (start := 0) (most := 10 ^ (18 : Int).toNat) (by decide) (by rw [e18]; decide)
  have so := dr.so
  have o := so.toOk
  have l1 := o.l1
  have p12 := dr.len
  obtain ⟨NS, hNS⟩ : ∃ NS, NS = U.fz (ns.map U.int) := ⟨_, rfl⟩
  rw [← hNS] at BC ⊢
  have BC : Fu ((ctx T 200).call 208) [NS, .int 0, .int (10 ^ (18 : Int).toNat)] (.tup [B.u, .int (B.lg (B.P.length - 1))]) := BC
  have FJ : ∀ m, Fu ((ctx T 200).call 96) [B.u, .int m] (bestU (firstJ B m)) := fun m => first29 so 199 (by omega) m
  have FN : Fu ((ctx T 200).call 96) [B.u, .int (10 ^ (18 : Int).toNat)] .non := by
    have := FJ (10 ^ (18 : Int).toNat)
    rw [e18, no_jump so] at this
    exact this
  have CH : ∀ x, 0 ≤ x → x < B.lg (B.P.length - 1) → ∀ l, l < B.L.length → Fu ((ctx T 200).call 216) [B.u, .int x, .str (B.ln l)] (.int (B.dH x l)) := fun x h0 h1 l hl => l_change_u so (n := 199) (by decide) h0 h1 hl
  have turn : ∀ j b, firstJ B (stB B j).1 = some b → ∃ x l c, b = (x, B.ln l, c) ∧ (0 ≤ x ∧ x < B.lg (B.P.length - 1)) ∧ l < B.L.length ∧ B.dH x l = c ∧ ¬ x < (stB B j).2 ∧ ¬ (c.natAbs : Int) ≤ (stB B j).1 ∧ ∃ a, firstJ B ((c.natAbs : Int) - 1) = some a ∧ ¬ x < a.1 := fun j b e => by
    obtain ⟨h0, h1⟩ := stB_ok so j
    have J := jump_ok so h0
    rw [e] at J
    obtain ⟨l, hl, en, ⟨b0, b1⟩, eh, bm, _, ca⟩ := J
    obtain ⟨x, nm, c⟩ := b
    simp only at en b0 b1 eh bm ca
    subst en
    refine ⟨x, l, c, rfl, ⟨b0, b1⟩, hl, eh, fun q => ?_, by omega, ?_⟩
    · have := h1 x b0 q l hl
      rw [eh] at this
      omega
    · have J := jump_ok so (m := (c.natAbs : Int) - 1) (by omega)
      revert J
      cases firstJ B ((c.natAbs : Int) - 1) with
      | none =>
        intro J
        have J := J x b0 b1 l hl
        rw [eh] at J
        omega
      | some a =>
        rintro ⟨l', _, _, ⟨a0, _⟩, _, _, _, cb⟩
        refine ⟨a, rfl, fun q => ?_⟩
        have := cb x b0 q l hl
        rw [eh] at this
        omega
  -- one turn that goes by
  have body : ∀ (j k : Nat) b, firstJ B (stB B j).1 = some b → Bod (ctx T 200) [] [.s NS, .s B.u, .s (.int (stB B j).1), .s (.int (stB B j).2), .s (.int (k : Int)), .n, .n] b_law_1 (pe32 NS B.u (stB B (j + 1))) := fun j k b e => by
    obtain ⟨x, l, c, rfl, ⟨b0, b1⟩, hl, eh, n1, n2, a, ea, n3⟩ := turn j b e
    have es : stB B (j + 1) = ((c.natAbs : Int), x) := by
      conv => lhs; unfold stB
      rw [e]
    rw [es]
    have F1 := FJ (stB B j).1
    rw [e] at F1
    have F2 := FJ ((c.natAbs : Int) - 1)
    rw [ea] at F2
    have C1 := CH x b0 b1 l hl
    rw [eh] at C1
    generalize (stB B j).1 = p at *
    generalize (stB B j).2 = q at *
    obtain ⟨ax, an, ac⟩ := a
    have n3 : ¬ x < ax := n3
    generalize B.u = BU at *
    apply bod_nx
    · unfold b_law_1; (repeat first | fail "p" | with_reducible exact F1 | with_reducible exact F2 | with_reducible exact C1 | fail)
    · show Fgt _ [_, _, .s (.int (c.natAbs : Int)), .s (.int x), _, _, _]
      (repeat first | fail "p" | fail)
  have ex : (∃ n, n < 6 ∧ firstJ B (stB B n).1 = none ∧ ∀ j, j < n → ∃ b, firstJ B (stB B j).1 = some b) ∨ ∀ j, j < 6 → ∃ b, firstJ B (stB B j).1 = some b := by
    have key : ∀ k, (∃ n, n < k ∧ firstJ B (stB B n).1 = none ∧ ∀ j, j < n → ∃ b, firstJ B (stB B j).1 = some b) ∨ ∀ j, j < k → ∃ b, firstJ B (stB B j).1 = some b := by
      intro k
      induction k with
      | zero => exact .inr fun j h => absurd h (Nat.not_lt_zero _)
      | succ k ih =>
        rcases ih with ⟨n, h1, h2⟩ | h
        · exact .inl ⟨n, by omega, h2⟩
        · cases e : firstJ B (stB B k).1 with
          | none => exact .inl ⟨k, by omega, e, h⟩
          | some b =>
            refine .inr fun j hj => ?_
            by_cases c : j = k
            · subst c; exact ⟨b, e⟩
            · exact h j (by omega)
    exact key 6
  have r6 : Xi (ctx T 200) (pe32 NS B.u (0, 0)) (iR1 (eC (.int 6))) ((List.range 6).map fun j : Nat => U.int (j : Int)) := by
    show Xi _ _ _ (rngU 0 6)
    generalize B.u = BU
    (repeat first | fail "p" | fail)
    · exact x_ci
    · decide
  rcases ex with ⟨n, n6, en, he⟩ | he
  · have L : Xs (ctx T 200) [] [.s NS, .s B.u, .s (.int 0), .s (.int 0), .n, .n, .n] (sFo (gN 4) (iR1 (eC (.int 6))) b_law_1) (.rt (.bl true) [.s NS, .s B.u, .s (.int (stB B n).1), .s (.int (stB B n).2), .s (.int (n : Int)), .s .non, .n]) := by
      refine s_forx (C := ctx T 200) (io := []) (xs := List.range 6) (f := fun j : Nat => U.int (j : Int)) (x0 := n) (fun j => pe32 NS B.u (stB B j)) n (List.getElem?_range n6) r6 (by rw [List.length_range]; omega) (by generalize B.u = BU; show Fgt _ [.s NS, .s BU, .s (.int 0), .s (.int 0), .n, .n, .n]; (repeat first | fail "p" | fail)) (fun j x hj q => ?_) ?_
      · rw [List.getElem?_range (by omega)] at q
        cases q
        obtain ⟨b, e⟩ := he j hj
        exact ⟨[.s NS, .s B.u, .s (.int (stB B j).1), .s (.int (stB B j).2), .s (.int (j : Int)), .n, .n], by generalize B.u = BU; (repeat first | fail "p" | fail), body j j b e⟩
      · refine ⟨[.s NS, .s B.u, .s (.int (stB B n).1), .s (.int (stB B n).2), .s (.int (n : Int)), .n, .n], by generalize B.u = BU; (repeat first | fail "p" | fail), .inr ⟨?_, .inl ⟨_, _, rfl⟩⟩⟩
        have F1 := FJ (stB B n).1
        rw [en] at F1
        generalize B.u = BU at *
        unfold b_law_1
        (repeat first | fail "p" | with_reducible exact F1 | with_reducible exact FN | fail)
    refine fu_of rfl (by simp only [List.map_cons, List.map_nil, List.length_cons, List.length_nil, List.cons_append, List.nil_append, Nat.reduceAdd, Nat.reduceSub, List.replicate_succ, List.replicate_zero]; exact rfl) ?_
    (repeat first | fail "p" | with_reducible exact BC | with_reducible exact L | fail)
  · have L : Xs (ctx T 200) [] [.s NS, .s B.u, .s (.int 0), .s (.int 0), .n, .n, .n] (sFo (gN 4) (iR1 (eC (.int 6))) b_law_1) (.nx (pe32 NS B.u (stB B 6))) := by
      refine s_fors (C := ctx T 200) (io := []) (g := gN 4) (b := b_law_1) (xs := List.range 6) (f := fun j : Nat => U.int (j : Int)) (fun j => pe32 NS B.u (stB B j)) r6 (by rw [List.length_range]; omega) (by generalize B.u = BU; show Fgt _ [.s NS, .s BU, .s (.int 0), .s (.int 0), .n, .n, .n]; (repeat first | fail "p" | fail)) (fun j x q => ?_)
      have hj : j < 6 := by have := (List.getElem?_eq_some_iff.mp q).1; simpa using this
      rw [List.getElem?_range hj] at q
      cases q
      obtain ⟨b, e⟩ := he j hj
      exact ⟨[.s NS, .s B.u, .s (.int (stB B j).1), .s (.int (stB B j).2), .s (.int (j : Int)), .n, .n], by generalize B.u = BU; (repeat first | fail "p" | fail), body j j b e⟩
    refine fu_of rfl (by simp only [List.map_cons, List.map_nil, List.length_cons, List.length_nil, List.cons_append, List.nil_append, Nat.reduceAdd, Nat.reduceSub, List.replicate_succ, List.replicate_zero]; exact rfl) ?_
    (repeat first | fail "p" | with_reducible exact BC | with_reducible exact L | with_reducible exact FN | fail)
theorem law_true (ns : List Int) (l63 : ns.length ≤ 63) (hb : ∀ z ∈ ns, Builtin.Int.intBits z ≤ 1048576) : ∃ h', runFn (ctx T 200) f_law [.ref 0] [.fz (ns.map D.int)] = .ok (.bl true) h' := law_of (law_u ns l63 hb)
end Z.k32
/-! The walk and the end, printed by gen.py. -/
namespace Z.k32
open PySem L2 Z PyProof.Rows
theorem nest_lk {env : Env} : ∀ {names : List (Str × NameKind)} {x : Str}, (names.lookup x = some .cell ∨ names.lookup x = some .free) →
    ((names.map fun (n, k) => if (k == NameKind.free && env.scope.kind == .function && env.kindOf n == some .cell) then (n, NameKind.cell) else (n, k)).lookup x = some .cell ∨
      (names.map fun (n, k) => if (k == NameKind.free && env.scope.kind == .function && env.kindOf n == some .cell) then (n, NameKind.cell) else (n, k)).lookup x = some .free)
  | [], x, h => by simp at h
  | (n, k) :: r, x, h => by
    have ih := @nest_lk env r x
    show List.lookup x ((if (k == NameKind.free && env.scope.kind == .function && env.kindOf n == some .cell) = true then (n, NameKind.cell) else (n, k)) :: _) = _ ∨ List.lookup x ((if (k == NameKind.free && env.scope.kind == .function && env.kindOf n == some .cell) = true then (n, NameKind.cell) else (n, k)) :: _) = _
    cases hx : x == n with
    | true =>
      simp only [List.lookup_cons, hx] at h
      by_cases hc : (k == NameKind.free && env.scope.kind == .function && env.kindOf n == some .cell) = true
      · rw [if_pos hc]; simp only [List.lookup_cons, hx]; exact .inl trivial
      · rw [if_neg hc]; simp only [List.lookup_cons, hx]; exact h
    | false =>
      simp only [List.lookup_cons, hx] at h
      by_cases hc : (k == NameKind.free && env.scope.kind == .function && env.kindOf n == some .cell) = true
      · rw [if_pos hc]; simp only [List.lookup_cons, hx]; exact ih h
      · rw [if_neg hc]; simp only [List.lookup_cons, hx]; exact ih h
theorem blkOk_nest {N : List Str} {sc scope : Scope} {env : Env} {own : List (Str × Nat)} (h : blkC N sc scope own = true) : BlkOk N (relabel sc env) scope own := by
  obtain ⟨a, b, c, d, e⟩ := blkOk_by h
  exact ⟨a, b, c, fun y hy q => nest_lk (d y hy q), e⟩
abbrev top (i : Nat) : Stmt := PySem.Challenge.pw_camplay_k32_whole_bounds_raised.main.body.getD i (.Pass ⟨0, 0, 0, 0⟩)
abbrev s__wall : Stmt := top 0
abbrev s_numbers_of : Stmt := top 9
abbrev s_named : Stmt := top 10
abbrev s_moved : Stmt := top 11
abbrev s_length_of : Stmt := top 12
abbrev s_look_at_side : Stmt := top 13
abbrev s_lengths : Stmt := top 14
abbrev s_ends : Stmt := top 15
abbrev s_ramp_jump : Stmt := top 17
abbrev s_first_jump : Stmt := top 19
abbrev s_ramp : Stmt := top 21
abbrev s_stand : Stmt := top 24
abbrev s_l_pool : Stmt := top 26
abbrev s_l_take : Stmt := top 27
abbrev s_l_word : Stmt := top 28
abbrev s_l_number : Stmt := top 29
abbrev s_l_pair : Stmt := top 30
abbrev s_l_naming : Stmt := top 31
abbrev s_l_form : Stmt := top 32
abbrev s_l_put : Stmt := top 33
abbrev s_l_book : Stmt := top 34
abbrev s_l_change : Stmt := top 35
abbrev s_law : Stmt := top 36
abbrev s_m_Search_init : Stmt := inClass (top 18) 0
abbrev s_m_Search_found : Stmt := inClass (top 18) 1
abbrev s_m_Search_looked : Stmt := inClass (top 18) 2
abbrev s_m_Search_in_turns : Stmt := inClass (top 18) 3
abbrev s_m_Search_in_row : Stmt := inClass (top 18) 4
abbrev s_m_Guide_init : Stmt := inClass (top 23) 0
abbrev s_m_Guide_look_at : Stmt := inClass (top 23) 1
abbrev s_m_Guide_leave : Stmt := inClass (top 23) 2
abbrev s_m_Guide_put : Stmt := inClass (top 23) 3
abbrev s_m_Guide_put_beside : Stmt := inClass (top 23) 4
abbrev s_m_Guide_put_in_row : Stmt := inClass (top 23) 5
abbrev s_m_Guide_words : Stmt := inClass (top 23) 6
structure Txt (K : PySem.W.Frag) (mg : Str → Option Value) (κ : Nat → Addr) : Prop where
  f_Search_Guide_forms : FldOk K κ [7, 1] "forms"
  f_Search_Guide_numbers : FldOk K κ [7, 1] "numbers"
  f_Search_name : FldOk K κ [7] "name"
  f_Search_most : FldOk K κ [7] "most"
  f_Search_long : FldOk K κ [7] "long"
  f_Search_moves : FldOk K κ [7] "moves"
  f_Search_leaves : FldOk K κ [7] "leaves"
  f_Search_known : FldOk K κ [7] "known"
  f_Guide_limbs : FldOk K κ [1] "limbs"
  f_Guide_lengths : FldOk K κ [1] "lengths"
  f_Guide_ends : FldOk K κ [1] "ends"
  b_abs : mg "abs" = none
  b_dict : mg "dict" = none
  b_divmod : mg "divmod" = none
  b_enumerate : mg "enumerate" = none
  b_len : mg "len" = none
  b_max : mg "max" = none
  b_min : mg "min" = none
  b_range : mg "range" = none
  b_set : mg "set" = none
  b_sorted : mg "sorted" = none
  b_sum : mg "sum" = none
  b_tuple : mg "tuple" = none
  c_LONGEST : ∃ t, mg "LONGEST" = some (.int 1000000000000000000000000000000000000000000000000000000000000 t)
  tru : True
structure Funs (K : PySem.W.Frag) (mg : Str → Option Value) (κ : Nat → Addr) : Prop where
  t_Search___init__ : MetM K κ 7 "__init__" "Search.__init__" s_m_Search_init ["self", "book", "limb", "most"]
  t_Search_found : MetM K κ 7 "found" "Search.found" s_m_Search_found ["self", "part", "height"]
  t_Search_looked : MetM K κ 7 "looked" "Search.looked" s_m_Search_looked ["self", "form", "height"]
  t_Search_in_turns : MetM K κ 7 "in_turns" "Search.in_turns" s_m_Search_in_turns ["self", "part", "times", "height"]
  t_Search_in_row : MetM K κ 7 "in_row" "Search.in_row" s_m_Search_in_row ["self", "names", "height"]
  t_Guide___init__ : MetM K κ 1 "__init__" "Guide.__init__" s_m_Guide_init ["self", "book"]
  t_Guide_look_at : MetM K κ 1 "look_at" "Guide.look_at" s_m_Guide_look_at ["self", "beat"]
  t_Guide_leave : MetM K κ 1 "leave" "Guide.leave" s_m_Guide_leave ["self", "number", "heights"]
  t_Guide_put : MetM K κ 1 "put" "Guide.put" s_m_Guide_put ["self", "number", "beat", "heights"]
  t_Guide_put_beside : MetM K κ 1 "put_beside" "Guide.put_beside" s_m_Guide_put_beside ["self", "number", "beat", "heights"]
  t_Guide_put_in_row : MetM K κ 1 "put_in_row" "Guide.put_in_row" s_m_Guide_put_in_row ["self", "numbers", "beat", "heights"]
  t_Guide_words : MetM K κ 1 "words" "Guide.words" s_m_Guide_words ["self", "number", "beat"]
  j_Search : MakM K mg κ 7 "Search" "Search.__init__" s_m_Search_init ["self", "book", "limb", "most"]
  j_Guide : MakM K mg κ 1 "Guide" "Guide.__init__" s_m_Guide_init ["self", "book"]
  m__wall : FunM K mg "_wall" s__wall ["k"] []
  m_numbers_of : FunM K mg "numbers_of" s_numbers_of ["rows"] []
  m_named : FunM K mg "named" s_named ["form", "numbers"] []
  m_moved : FunM K mg "moved" s_moved ["book"] []
  m_length_of : FunM K mg "length_of" s_length_of ["form", "below"] []
  m_look_at_side : FunM K mg "look_at_side" s_look_at_side ["book", "number", "limbs"] []
  m_lengths : FunM K mg "lengths" s_lengths ["book"] []
  m_ends : FunM K mg "ends" s_ends ["book"] []
  m_ramp_jump : FunM K mg "ramp_jump" s_ramp_jump ["start", "goal", "beats", "most"] []
  m_first_jump : FunM K mg "first_jump" s_first_jump ["book", "most"] []
  m_ramp : FunM K mg "ramp" s_ramp ["start", "goal", "beats", "j"] []
  m_stand : FunM K mg "stand" s_stand ["book", "beat"] []
  m__law_pool : FunM K mg "_law_pool" s_l_pool ["script", "k"] []
  m__law_take : FunM K mg "_law_take" s_l_take ["pool", "many"] []
  m__law_word : FunM K mg "_law_word" s_l_word ["place", "k"] []
  m__law_number : FunM K mg "_law_number" s_l_number ["pool", "most"] []
  m__law_pair : FunM K mg "_law_pair" s_l_pair ["moves", "at"] []
  m__law_naming : FunM K mg "_law_naming" s_l_naming ["pool", "way", "names", "moves", "longs", "most"] []
  m__law_form : FunM K mg "_law_form" s_l_form ["pool", "book", "moves", "longs", "most"] []
  m__law_put : FunM K mg "_law_put" s_l_put ["book", "moves", "longs", "name", "form"] []
  m__law_book : FunM K mg "_law_book" s_l_book ["script", "start", "most"] []
  m__law_change : FunM K mg "_law_change" s_l_change ["book", "beat", "name"] []
  tru : True
structure All (P : Program) (w : World) (K : PySem.W.Frag) (mg : Str → Option Value) (base : Heap) (κ : Nat → Addr) (n : Nat) : Prop where
  a__wall : FnF P w K mg base κ n "_wall" [] ((ctx T n).call 94)
  a_numbers_of : FnF P w K mg base κ n "numbers_of" [] ((ctx T n).call 61)
  a_named : FnF P w K mg base κ n "named" [] ((ctx T n).call 62)
  a_moved : FnF P w K mg base κ n "moved" [] ((ctx T n).call 63)
  a_length_of : FnF P w K mg base κ n "length_of" [] ((ctx T n).call 70)
  a_look_at_side : FnF P w K mg base κ n "look_at_side" [] ((ctx T n).call 71)
  a_lengths : FnF P w K mg base κ n "lengths" [] ((ctx T n).call 72)
  a_ends : FnF P w K mg base κ n "ends" [] ((ctx T n).call 76)
  a_ramp_jump : FnF P w K mg base κ n "ramp_jump" [] ((ctx T n).call 95)
  a_first_jump : FnF P w K mg base κ n "first_jump" [] ((ctx T n).call 96)
  a_ramp : FnF P w K mg base κ n "ramp" [] ((ctx T n).call 8)
  a_stand : FnF P w K mg base κ n "stand" [] ((ctx T n).call 87)
  a__law_pool : FnF P w K mg base κ n "_law_pool" [] ((ctx T n).call 201)
  a__law_take : FnF P w K mg base κ n "_law_take" [] ((ctx T n).call 180)
  a__law_word : FnF P w K mg base κ n "_law_word" [] ((ctx T n).call 202)
  a__law_number : FnF P w K mg base κ n "_law_number" [] ((ctx T n).call 203)
  a__law_pair : FnF P w K mg base κ n "_law_pair" [] ((ctx T n).call 204)
  a__law_naming : FnF P w K mg base κ n "_law_naming" [] ((ctx T n).call 205)
  a__law_form : FnF P w K mg base κ n "_law_form" [] ((ctx T n).call 206)
  a__law_put : FnF P w K mg base κ n "_law_put" [] ((ctx T n).call 207)
  a__law_book : FnF P w K mg base κ n "_law_book" [] ((ctx T n).call 208)
  a__law_change : FnF P w K mg base κ n "_law_change" [] ((ctx T n).call 216)
  m_Search_found : ∀ c ∈ ([7] : List Nat), MeF P w K mg base κ n c "found" ((ctx T n).meth c 20)
  m_Guide_look_at : ∀ c ∈ ([1] : List Nat), MeF P w K mg base κ n c "look_at" ((ctx T n).meth c 1)
  m_Guide_leave : ∀ c ∈ ([1] : List Nat), MeF P w K mg base κ n c "leave" ((ctx T n).meth c 2)
  m_Guide_put : ∀ c ∈ ([1] : List Nat), MeF P w K mg base κ n c "put" ((ctx T n).meth c 3)
  m_Search_looked : ∀ c ∈ ([7] : List Nat), MeF P w K mg base κ n c "looked" ((ctx T n).meth c 21)
  m_Search_in_turns : ∀ c ∈ ([7] : List Nat), MeF P w K mg base κ n c "in_turns" ((ctx T n).meth c 22)
  m_Search_in_row : ∀ c ∈ ([7] : List Nat), MeF P w K mg base κ n c "in_row" ((ctx T n).meth c 23)
  m_Guide_put_beside : ∀ c ∈ ([1] : List Nat), MeF P w K mg base κ n c "put_beside" ((ctx T n).meth c 5)
  m_Guide_put_in_row : ∀ c ∈ ([1] : List Nat), MeF P w K mg base κ n c "put_in_row" ((ctx T n).meth c 6)
  i_Search : MkF P w K mg base κ n 7 "Search" ((ctx T n).meth 7 0)
  k_Search : MkA P w K mg base κ T n 7 "Search"
  i_Guide : MkF P w K mg base κ n 1 "Guide" ((ctx T n).meth 1 0)
  k_Guide : MkA P w K mg base κ T n 1 "Guide"
  tru : True
section
variable {P : Program} {w : World} {K : PySem.W.Frag} {mg : Str → Option Value} {base : Heap} {κ : Nat → Addr} {n : Nat}
abbrev NN_m_Search_init : List Str := ["self", "book", "limb", "most", "number", "part", "name", "form", "some"]
theorem sc_m_Search_init : FnScope NN_m_Search_init ["self", "book", "limb", "most"] (defScope s_m_Search_init) := ⟨rfl, rfl, rfl, by decide +kernel, rfl, by decide +kernel, by decide +kernel⟩
theorem w_m_Search_init {fa : Addr} {fd : FuncData} (TX : Txt K mg κ) (A : All P w K mg base κ n) (F : FunZ K "__init__" "Search.__init__" s_m_Search_init [] fa fd) : FnOk P w K mg base CX0 (n + 1) fa fd ["self", "book", "limb", "most"] (spD K κ (List.length (["self", "book", "limb", "most"] : List Str)) (runFn (ctx T n) f_m_Search_init)) := by
  refine fnOk_of F sc_m_Search_init rfl rfl fun cdv Ar outer s H E hr => ?_
  exact
    (ss_cons (ss_fl TX.f_Search_Guide_forms (se_v 0) (se_lct rfl sc_m_Search_init.nd (si_a (se_ix (hu_of hr) (se_v 1) se_int)) (blkOk_by (N := NN_m_Search_init) (sc := defScope s_m_Search_init) (own := [(("name" : Str), 6), (("form" : Str), 7)]) (by decide +kernel)) (fun _ _ _ _ _ => (sgs_cons (i := 6) sc_m_Search_init.nd (sgs_cons (i := 7) sc_m_Search_init.nd sgs_nil))) (fun _ _ _ _ _ => sts_nil) (fun _ _ _ _ _ => (se_v 7))))
    (ss_cons (ss_fl TX.f_Search_Guide_numbers (se_v 0) se_diK)
    (ss_cons (ss_fo rfl (si_en TX.b_enumerate (se_ix (hu_of hr) (se_v 1) se_int)) (sg_t rfl (sgs_cons (i := 4) sc_m_Search_init.nd (sgs_cons (i := 5) sc_m_Search_init.nd sgs_nil))) (ss_one (ss_st (hu_of hr) (se_fld TX.f_Search_Guide_numbers (se_v 0)) (se_ix (hu_of hr) (se_v 5) se_int) (se_v 4))))
    (ss_cons (ss_fl TX.f_Search_name (se_v 0) (se_ix (hu_of hr) (se_ix (hu_of hr) (se_ix (hu_of hr) (se_v 1) se_int) (se_v 2)) se_int))
    (ss_cons (ss_fl TX.f_Search_most (se_v 0) (se_v 3))
    (ss_cons (ss_fl TX.f_Search_long (se_v 0) (se_call A.a_lengths hr (sa_cons (se_v 1) sa_nil)))
    (ss_cons (ss_fl TX.f_Search_moves (se_v 0) (se_lc rfl sc_m_Search_init.nd (si_a (se_call A.a_moved hr (sa_cons (se_v 1) sa_nil))) (blkOk_by (N := NN_m_Search_init) (sc := defScope s_m_Search_init) (own := [(("some" : Str), 8)]) (by decide +kernel)) (fun _ _ _ _ _ => pg_name (i := 8) sc_m_Search_init.nd rfl (by first | exact Or.inl rfl | exact Or.inr rfl)) (fun _ _ _ _ _ => sts_nil) (fun _ _ _ _ _ => (se_cmp (od_in (hu65 hr)) (se_v 2) (se_v 8) (by rfl)))))
    (ss_cons (ss_fl TX.f_Search_leaves (se_v 0) (se_lc rfl sc_m_Search_init.nd (si_a (se_call A.a_ends hr (sa_cons (se_v 1) sa_nil))) (blkOk_by (N := NN_m_Search_init) (sc := defScope s_m_Search_init) (own := [(("some" : Str), 8)]) (by decide +kernel)) (fun _ _ _ _ _ => pg_name (i := 8) sc_m_Search_init.nd rfl (by first | exact Or.inl rfl | exact Or.inr rfl)) (fun _ _ _ _ _ => sts_nil) (fun _ _ _ _ _ => (se_get1 (hu_of hr) (se_bt (cd_dct rfl) TX.b_dict boot_dict_ (sa_cons (se_v 8) sa_nil)) (se_v 2)))))
    (ss_one (ss_fl TX.f_Search_known (se_v 0) se_diT))))))))))
abbrev NN_m_Search_found : List Str := ["self", "part", "height"]
theorem sc_m_Search_found : FnScope NN_m_Search_found ["self", "part", "height"] (defScope s_m_Search_found) := ⟨rfl, rfl, rfl, by decide +kernel, rfl, by decide +kernel, by decide +kernel⟩
theorem w_m_Search_found {fa : Addr} {fd : FuncData} (TX : Txt K mg κ) (A : All P w K mg base κ n) (F : FunZ K "found" "Search.found" s_m_Search_found [] fa fd) : FnOk P w K mg base CX0 (n + 1) fa fd ["self", "part", "height"] (spD K κ (List.length (["self", "part", "height"] : List Str)) (runFn (ctx T n) f_m_Search_found)) := by
  refine fnOk_of F sc_m_Search_found rfl rfl fun cdv Ar outer s H E hr => ?_
  exact
    (ss_cons (ss_if (st_not (st_v (se_ix (hu_of hr) (se_fld TX.f_Search_moves (se_v 0)) (se_v 1)))) (ss_one (ss_rt se_non)) ss_nil)
    (ss_cons (ss_if (st_cmp (od_nin (hu65 hr)) (se_tup (sa_cons (se_v 1) (sa_cons (se_v 2) sa_nil))) (se_fld TX.f_Search_known (se_v 0)) (by rfl)) (ss_one (ss_st (hu_of hr) (se_fld TX.f_Search_known (se_v 0)) (se_tup (sa_cons (se_v 1) (sa_cons (se_v 2) sa_nil))) (se_meth A.m_Search_looked hr (se_v 0) (sa_cons (se_ix (hu_of hr) (se_fld TX.f_Search_Guide_forms (se_v 0)) (se_v 1)) (sa_cons (se_v 2) sa_nil))))) ss_nil)
    (ss_one (ss_rt (se_ix (hu_of hr) (se_fld TX.f_Search_known (se_v 0)) (se_tup (sa_cons (se_v 1) (sa_cons (se_v 2) sa_nil))))))))
abbrev NN_m_Search_looked : List Str := ["self", "form", "height", "name"]
theorem sc_m_Search_looked : FnScope NN_m_Search_looked ["self", "form", "height"] (defScope s_m_Search_looked) := ⟨rfl, rfl, rfl, by decide +kernel, rfl, by decide +kernel, by decide +kernel⟩
theorem w_m_Search_looked {fa : Addr} {fd : FuncData} (TX : Txt K mg κ) (A : All P w K mg base κ n) (F : FunZ K "looked" "Search.looked" s_m_Search_looked [] fa fd) : FnOk P w K mg base CX0 (n + 1) fa fd ["self", "form", "height"] (spD K κ (List.length (["self", "form", "height"] : List Str)) (runFn (ctx T n) f_m_Search_looked)) := by
  refine fnOk_of F sc_m_Search_looked rfl rfl fun cdv Ar outer s H E hr => ?_
  exact
    (ss_cons (ss_if (st_cmp (od_eq hr.units) (se_ix (hu_of hr) (se_v 1) se_int) se_str (nomark _)) (ss_one (ss_rt (se_call A.a_ramp_jump hr (sa_cons (se_v 2) (sa_cons (se_ix (hu_of hr) (se_v 1) se_int) (sa_cons (se_ix (hu_of hr) (se_v 1) se_int) (sa_cons (se_fld TX.f_Search_most (se_v 0)) sa_nil))))))) ss_nil)
    (ss_cons (ss_if (st_cmp (od_eq hr.units) (se_ix (hu_of hr) (se_v 1) se_int) se_str (nomark _)) (ss_one (ss_rt (se_meth A.m_Search_in_turns hr (se_v 0) (sa_cons (se_ix (hu_of hr) (se_fld TX.f_Search_Guide_numbers (se_v 0)) (se_ix (hu_of hr) (se_v 1) se_int)) (sa_cons (se_ix (hu_of hr) (se_v 1) se_int) (sa_cons (se_v 2) sa_nil)))))) ss_nil)
    (ss_cons (ss_if (st_cmp (od_eq hr.units) (se_ix (hu_of hr) (se_v 1) se_int) se_str (nomark _)) (ss_one (ss_fo rfl (si_a (se_ix (hu_of hr) (se_v 1) se_int)) (sg_n (i := 3) sc_m_Search_looked.nd) (ss_one (ss_if (st_v (se_ix (hu_of hr) (se_fld TX.f_Search_moves (se_v 0)) (se_ix (hu_of hr) (se_fld TX.f_Search_Guide_numbers (se_v 0)) (se_v 3)))) (ss_one (ss_rt (se_meth A.m_Search_found hr (se_v 0) (sa_cons (se_ix (hu_of hr) (se_fld TX.f_Search_Guide_numbers (se_v 0)) (se_v 3)) (sa_cons (se_v 2) sa_nil))))) ss_nil)))) ss_nil)
    (ss_one (ss_rt (se_meth A.m_Search_in_row hr (se_v 0) (sa_cons (se_ix (hu_of hr) (se_v 1) se_int) (sa_cons (se_v 2) sa_nil))))))))
abbrev NN_m_Search_in_turns : List Str := ["self", "part", "times", "height", "first", "later"]
theorem sc_m_Search_in_turns : FnScope NN_m_Search_in_turns ["self", "part", "times", "height"] (defScope s_m_Search_in_turns) := ⟨rfl, rfl, rfl, by decide +kernel, rfl, by decide +kernel, by decide +kernel⟩
theorem w_m_Search_in_turns {fa : Addr} {fd : FuncData} (TX : Txt K mg κ) (A : All P w K mg base κ n) (F : FunZ K "in_turns" "Search.in_turns" s_m_Search_in_turns [] fa fd) : FnOk P w K mg base CX0 (n + 1) fa fd ["self", "part", "times", "height"] (spD K κ (List.length (["self", "part", "times", "height"] : List Str)) (runFn (ctx T n) f_m_Search_in_turns)) := by
  refine fnOk_of F sc_m_Search_in_turns rfl rfl fun cdv Ar outer s H E hr => ?_
  exact
    (ss_cons (ss_as (i := 4) sc_m_Search_in_turns.nd (se_meth A.m_Search_found hr (se_v 0) (sa_cons (se_v 1) (sa_cons (se_v 3) sa_nil))))
    (ss_cons (ss_if (st_w (sw_or (st_cmp od_notN (se_v 4) se_non (nomark _)) (sw_or1 (st_cmp (od_eq hr.units) (se_v 2) se_int (nomark _))))) (ss_one (ss_rt (se_v 4))) ss_nil)
    (ss_cons (ss_as (i := 5) sc_m_Search_in_turns.nd (se_meth A.m_Search_found hr (se_v 0) (sa_cons (se_v 1) (sa_cons (se_ix (hu_of hr) (se_fld TX.f_Search_leaves (se_v 0)) (se_v 1)) sa_nil))))
    (ss_cons (ss_if (st_cmp od_isN (se_v 5) se_non (nomark _)) (ss_one (ss_rt se_non)) ss_nil)
    (ss_one (ss_rt (se_tup (sa_cons (se_op od_add (se_ix (hu_of hr) (se_fld TX.f_Search_long (se_v 0)) (se_v 1)) (se_ix (hu_of hr) (se_v 5) se_int)) (sa_cons (se_ix (hu_of hr) (se_v 5) se_int) sa_nil)))))))))
abbrev NN_m_Search_in_row : List Str := ["self", "names", "height", "gone", "name", "part", "first"]
theorem sc_m_Search_in_row : FnScope NN_m_Search_in_row ["self", "names", "height"] (defScope s_m_Search_in_row) := ⟨rfl, rfl, rfl, by decide +kernel, rfl, by decide +kernel, by decide +kernel⟩
theorem w_m_Search_in_row {fa : Addr} {fd : FuncData} (TX : Txt K mg κ) (A : All P w K mg base κ n) (F : FunZ K "in_row" "Search.in_row" s_m_Search_in_row [] fa fd) : FnOk P w K mg base CX0 (n + 1) fa fd ["self", "names", "height"] (spD K κ (List.length (["self", "names", "height"] : List Str)) (runFn (ctx T n) f_m_Search_in_row)) := by
  refine fnOk_of F sc_m_Search_in_row rfl rfl fun cdv Ar outer s H E hr => ?_
  exact
    (ss_cons (ss_as (i := 3) sc_m_Search_in_row.nd se_int)
    (ss_cons (ss_fo rfl (si_a (se_v 1)) (sg_n (i := 4) sc_m_Search_in_row.nd) (ss_cons (ss_as (i := 5) sc_m_Search_in_row.nd (se_ix (hu_of hr) (se_fld TX.f_Search_Guide_numbers (se_v 0)) (se_v 4)))
    (ss_cons (ss_as (i := 6) sc_m_Search_in_row.nd (se_meth A.m_Search_found hr (se_v 0) (sa_cons (se_v 5) (sa_cons (se_v 2) sa_nil))))
    (ss_cons (ss_if (st_cmp od_notN (se_v 6) se_non (nomark _)) (ss_one (ss_rt (se_tup (sa_cons (se_op od_add (se_v 3) (se_ix (hu_of hr) (se_v 6) se_int)) (sa_cons (se_ix (hu_of hr) (se_v 6) se_int) sa_nil))))) ss_nil)
    (ss_cons (ss_au (i := 3) sc_m_Search_in_row.nd iod_add (se_ix (hu_of hr) (se_fld TX.f_Search_long (se_v 0)) (se_v 5)))
    (ss_one (ss_if (st_v (se_ix (hu_of hr) (se_fld TX.f_Search_moves (se_v 0)) (se_v 5))) (ss_one (ss_as (i := 2) sc_m_Search_in_row.nd (se_ix (hu_of hr) (se_fld TX.f_Search_leaves (se_v 0)) (se_v 5)))) ss_nil)))))))
    (ss_one (ss_rt se_non))))
abbrev NN_m_Guide_init : List Str := ["self", "book", "number", "part", "limb", "name", "form"]
theorem sc_m_Guide_init : FnScope NN_m_Guide_init ["self", "book"] (defScope s_m_Guide_init) := ⟨rfl, rfl, rfl, by decide +kernel, rfl, by decide +kernel, by decide +kernel⟩
theorem w_m_Guide_init {fa : Addr} {fd : FuncData} (TX : Txt K mg κ) (A : All P w K mg base κ n) (F : FunZ K "__init__" "Guide.__init__" s_m_Guide_init [] fa fd) : FnOk P w K mg base CX0 (n + 1) fa fd ["self", "book"] (spD K κ (List.length (["self", "book"] : List Str)) (runFn (ctx T n) f_m_Guide_init)) := by
  refine fnOk_of F sc_m_Guide_init rfl rfl fun cdv Ar outer s H E hr => ?_
  exact
    (ss_cons (ss_fl TX.f_Search_Guide_forms (se_v 0) (se_lct rfl sc_m_Guide_init.nd (si_a (se_ix (hu_of hr) (se_v 1) se_int)) (blkOk_by (N := NN_m_Guide_init) (sc := defScope s_m_Guide_init) (own := [(("name" : Str), 5), (("form" : Str), 6)]) (by decide +kernel)) (fun _ _ _ _ _ => (sgs_cons (i := 5) sc_m_Guide_init.nd (sgs_cons (i := 6) sc_m_Guide_init.nd sgs_nil))) (fun _ _ _ _ _ => sts_nil) (fun _ _ _ _ _ => (se_v 6))))
    (ss_cons (ss_fl TX.f_Search_Guide_numbers (se_v 0) se_diK)
    (ss_cons (ss_fo rfl (si_en TX.b_enumerate (se_ix (hu_of hr) (se_v 1) se_int)) (sg_t rfl (sgs_cons (i := 2) sc_m_Guide_init.nd (sgs_cons (i := 3) sc_m_Guide_init.nd sgs_nil))) (ss_one (ss_st (hu_of hr) (se_fld TX.f_Search_Guide_numbers (se_v 0)) (se_ix (hu_of hr) (se_v 3) se_int) (se_v 2))))
    (ss_cons (ss_fl TX.f_Guide_limbs (se_v 0) se_diK)
    (ss_cons (ss_fo rfl (si_en TX.b_enumerate (se_ix (hu_of hr) (se_v 1) se_int)) (sg_t rfl (sgs_cons (i := 2) sc_m_Guide_init.nd (sgs_cons (i := 4) sc_m_Guide_init.nd sgs_nil))) (ss_one (ss_st (hu_of hr) (se_fld TX.f_Guide_limbs (se_v 0)) (se_ix (hu_of hr) (se_v 4) se_int) (se_v 2))))
    (ss_cons (ss_fl TX.f_Guide_lengths (se_v 0) (se_call A.a_lengths hr (sa_cons (se_v 1) sa_nil)))
    (ss_one (ss_fl TX.f_Guide_ends (se_v 0) (se_call A.a_ends hr (sa_cons (se_v 1) sa_nil))))))))))
abbrev NN_m_Guide_look_at : List Str := ["self", "beat"]
theorem sc_m_Guide_look_at : FnScope NN_m_Guide_look_at ["self", "beat"] (defScope s_m_Guide_look_at) := ⟨rfl, rfl, rfl, by decide +kernel, rfl, by decide +kernel, by decide +kernel⟩
theorem w_m_Guide_look_at {fa : Addr} {fd : FuncData} (TX : Txt K mg κ) (A : All P w K mg base κ n) (F : FunZ K "look_at" "Guide.look_at" s_m_Guide_look_at [] fa fd) : FnOk P w K mg base CX0 (n + 1) fa fd ["self", "beat"] (spD K κ (List.length (["self", "beat"] : List Str)) (runFn (ctx T n) f_m_Guide_look_at)) := by
  refine fnOk_of F sc_m_Guide_look_at rfl rfl fun cdv Ar outer s H E hr => ?_
  exact
    (ss_cons (ss_if (st_w (sw_or (st_cmp od_lt (se_v 1) se_int (nomark _)) (sw_or1 (st_cmp od_gt (se_v 1) (se_ix (hu_of hr) (se_fld TX.f_Guide_lengths (se_v 0)) (se_un od_neg se_int)) (nomark _))))) (ss_one ss_no) ss_nil)
    (ss_one (ss_rt (se_cmp (od_eq hr.units) (se_v 1) (se_ix (hu_of hr) (se_fld TX.f_Guide_lengths (se_v 0)) (se_un od_neg se_int)) (nomark _)))))
abbrev NN_m_Guide_leave : List Str := ["self", "number", "heights", "limb", "height"]
theorem sc_m_Guide_leave : FnScope NN_m_Guide_leave ["self", "number", "heights"] (defScope s_m_Guide_leave) := ⟨rfl, rfl, rfl, by decide +kernel, rfl, by decide +kernel, by decide +kernel⟩
theorem w_m_Guide_leave {fa : Addr} {fd : FuncData} (TX : Txt K mg κ) (A : All P w K mg base κ n) (F : FunZ K "leave" "Guide.leave" s_m_Guide_leave [] fa fd) : FnOk P w K mg base CX0 (n + 1) fa fd ["self", "number", "heights"] (spD K κ (List.length (["self", "number", "heights"] : List Str)) (runFn (ctx T n) f_m_Guide_leave)) := by
  refine fnOk_of F sc_m_Guide_leave rfl rfl fun cdv Ar outer s H E hr => ?_
  exact
    (ss_one (ss_fo rfl (si_a (se_ix (hu_of hr) (se_fld TX.f_Guide_ends (se_v 0)) (se_v 1))) (sg_t rfl (sgs_cons (i := 3) sc_m_Guide_leave.nd (sgs_cons (i := 4) sc_m_Guide_leave.nd sgs_nil))) (ss_one (ss_st (hu_of hr) (se_v 2) (se_v 3) (se_v 4)))))
abbrev NN_m_Guide_put : List Str := ["self", "number", "beat", "heights", "form", "limb", "name", "inner", "turn", "rest"]
theorem sc_m_Guide_put : FnScope NN_m_Guide_put ["self", "number", "beat", "heights"] (defScope s_m_Guide_put) := ⟨rfl, rfl, rfl, by decide +kernel, rfl, by decide +kernel, by decide +kernel⟩
theorem w_m_Guide_put {fa : Addr} {fd : FuncData} (TX : Txt K mg κ) (A : All P w K mg base κ n) (F : FunZ K "put" "Guide.put" s_m_Guide_put [] fa fd) : FnOk P w K mg base CX0 (n + 1) fa fd ["self", "number", "beat", "heights"] (spD K κ (List.length (["self", "number", "beat", "heights"] : List Str)) (runFn (ctx T n) f_m_Guide_put)) := by
  refine fnOk_of F sc_m_Guide_put rfl rfl fun cdv Ar outer s H E hr => ?_
  exact
    (ss_cons (ss_as (i := 4) sc_m_Guide_put.nd (se_ix (hu_of hr) (se_fld TX.f_Search_Guide_forms (se_v 0)) (se_v 1)))
    (ss_one (ss_if (st_cmp (od_eq hr.units) (se_ix (hu_of hr) (se_v 4) se_int) se_str (nomark _)) (ss_cons (ss_as (i := 5) sc_m_Guide_put.nd (se_ix (hu_of hr) (se_fld TX.f_Guide_limbs (se_v 0)) (se_ix (hu_of hr) (se_v 4) se_int)))
    (ss_one (ss_st (hu_of hr) (se_v 3) (se_v 5) (se_call A.a_ramp hr (sa_cons (se_ix (hu_of hr) (se_v 3) (se_v 5)) (sa_cons (se_ix (hu_of hr) (se_v 4) se_int) (sa_cons (se_ix (hu_of hr) (se_v 4) se_int) (sa_cons (se_v 2) sa_nil)))))))) (ss_one (ss_if (st_cmp (od_eq hr.units) (se_ix (hu_of hr) (se_v 4) se_int) se_str (nomark _)) (ss_one (ss_fo rfl (si_a (se_ix (hu_of hr) (se_v 4) se_int)) (sg_n (i := 6) sc_m_Guide_put.nd) (ss_one (ss_ex (se_meth A.m_Guide_put_beside hr (se_v 0) (sa_cons (se_ix (hu_of hr) (se_fld TX.f_Search_Guide_numbers (se_v 0)) (se_v 6)) (sa_cons (se_v 2) (sa_cons (se_v 3) sa_nil)))))))) (ss_one (ss_if (st_cmp (od_eq hr.units) (se_ix (hu_of hr) (se_v 4) se_int) se_str (nomark _)) (ss_one (ss_ex (se_meth A.m_Guide_put_in_row hr (se_v 0) (sa_cons (se_lc rfl sc_m_Guide_put.nd (si_a (se_ix (hu_of hr) (se_v 4) se_int)) (blkOk_by (N := NN_m_Guide_put) (sc := defScope s_m_Guide_put) (own := [(("name" : Str), 6)]) (by decide +kernel)) (fun _ _ _ _ _ => pg_name (i := 6) sc_m_Guide_put.nd rfl (by first | exact Or.inl rfl | exact Or.inr rfl)) (fun _ _ _ _ _ => sts_nil) (fun _ _ _ _ _ => (se_ix (hu_of hr) (se_fld TX.f_Search_Guide_numbers (se_v 0)) (se_v 6)))) (sa_cons (se_v 2) (sa_cons (se_v 3) sa_nil)))))) (ss_one (ss_if (st_cmp (od_eq hr.units) (se_ix (hu_of hr) (se_v 4) se_int) se_str (nomark _)) (ss_cons (ss_as (i := 7) sc_m_Guide_put.nd (se_ix (hu_of hr) (se_fld TX.f_Search_Guide_numbers (se_v 0)) (se_ix (hu_of hr) (se_v 4) se_int)))
    (ss_cons (ss_at (sg_t rfl (sgs_cons (i := 8) sc_m_Guide_put.nd (sgs_cons (i := 9) sc_m_Guide_put.nd sgs_nil))) (se_bf cd_dvm TX.b_divmod boot_divmod_ (sa_cons (se_v 2) (sa_cons (se_ix (hu_of hr) (se_fld TX.f_Guide_lengths (se_v 0)) (se_v 7)) sa_nil))))
    (ss_cons (ss_if (st_cmp od_gt (se_v 8) se_int (nomark _)) (ss_one (ss_ex (se_meth A.m_Guide_leave hr (se_v 0) (sa_cons (se_v 7) (sa_cons (se_v 3) sa_nil))))) ss_nil)
    (ss_one (ss_ex (se_meth A.m_Guide_put hr (se_v 0) (sa_cons (se_v 7) (sa_cons (se_v 9) (sa_cons (se_v 3) sa_nil))))))))) ss_nil)))))))))
abbrev NN_m_Guide_put_beside : List Str := ["self", "number", "beat", "heights"]
theorem sc_m_Guide_put_beside : FnScope NN_m_Guide_put_beside ["self", "number", "beat", "heights"] (defScope s_m_Guide_put_beside) := ⟨rfl, rfl, rfl, by decide +kernel, rfl, by decide +kernel, by decide +kernel⟩
theorem w_m_Guide_put_beside {fa : Addr} {fd : FuncData} (TX : Txt K mg κ) (A : All P w K mg base κ n) (F : FunZ K "put_beside" "Guide.put_beside" s_m_Guide_put_beside [] fa fd) : FnOk P w K mg base CX0 (n + 1) fa fd ["self", "number", "beat", "heights"] (spD K κ (List.length (["self", "number", "beat", "heights"] : List Str)) (runFn (ctx T n) f_m_Guide_put_beside)) := by
  refine fnOk_of F sc_m_Guide_put_beside rfl rfl fun cdv Ar outer s H E hr => ?_
  exact
    (ss_one (ss_if (st_cmp od_lt (se_v 2) (se_ix (hu_of hr) (se_fld TX.f_Guide_lengths (se_v 0)) (se_v 1)) (nomark _)) (ss_one (ss_ex (se_meth A.m_Guide_put hr (se_v 0) (sa_cons (se_v 1) (sa_cons (se_v 2) (sa_cons (se_v 3) sa_nil)))))) (ss_one (ss_ex (se_meth A.m_Guide_leave hr (se_v 0) (sa_cons (se_v 1) (sa_cons (se_v 3) sa_nil)))))))
abbrev NN_m_Guide_put_in_row : List Str := ["self", "numbers", "beat", "heights", "number"]
theorem sc_m_Guide_put_in_row : FnScope NN_m_Guide_put_in_row ["self", "numbers", "beat", "heights"] (defScope s_m_Guide_put_in_row) := ⟨rfl, rfl, rfl, by decide +kernel, rfl, by decide +kernel, by decide +kernel⟩
theorem w_m_Guide_put_in_row {fa : Addr} {fd : FuncData} (TX : Txt K mg κ) (A : All P w K mg base κ n) (F : FunZ K "put_in_row" "Guide.put_in_row" s_m_Guide_put_in_row [] fa fd) : FnOk P w K mg base CX0 (n + 1) fa fd ["self", "numbers", "beat", "heights"] (spD K κ (List.length (["self", "numbers", "beat", "heights"] : List Str)) (runFn (ctx T n) f_m_Guide_put_in_row)) := by
  refine fnOk_of F sc_m_Guide_put_in_row rfl rfl fun cdv Ar outer s H E hr => ?_
  exact
    (ss_one (ss_fo rfl (si_a (se_v 1)) (sg_n (i := 4) sc_m_Guide_put_in_row.nd) (ss_cons (ss_if (st_cmp od_lt (se_v 2) (se_ix (hu_of hr) (se_fld TX.f_Guide_lengths (se_v 0)) (se_v 4)) (nomark _)) (ss_cons (ss_ex (se_meth A.m_Guide_put hr (se_v 0) (sa_cons (se_v 4) (sa_cons (se_v 2) (sa_cons (se_v 3) sa_nil)))))
    (ss_one ss_rn)) ss_nil)
    (ss_cons (ss_as (i := 2) sc_m_Guide_put_in_row.nd (se_op od_sub (se_v 2) (se_ix (hu_of hr) (se_fld TX.f_Guide_lengths (se_v 0)) (se_v 4))))
    (ss_one (ss_ex (se_meth A.m_Guide_leave hr (se_v 0) (sa_cons (se_v 4) (sa_cons (se_v 3) sa_nil)))))))))
abbrev NN__wall : List Str := ["k"]
theorem sc__wall : FnScope NN__wall ["k"] (defScope s__wall) := ⟨rfl, rfl, rfl, by decide +kernel, rfl, by decide +kernel, by decide +kernel⟩
theorem w__wall {fa : Addr} {fd : FuncData} (TX : Txt K mg κ) (A : All P w K mg base κ n) (F : FunZ K "_wall" "_wall" s__wall [] fa fd) : FnOk P w K mg base CX0 (n + 1) fa fd ["k"] (spD K κ (List.length (["k"] : List Str)) (runFn (ctx T n) f__wall)) := by
  refine fnOk_of F sc__wall rfl rfl fun cdv Ar outer s H E hr => ?_
  exact
    (ss_one (ss_wh (st_v se_bl) (ss_one ss_ps)))
abbrev NN_numbers_of : List Str := ["rows", "numbers", "number", "row"]
theorem sc_numbers_of : FnScope NN_numbers_of ["rows"] (defScope s_numbers_of) := ⟨rfl, rfl, rfl, by decide +kernel, rfl, by decide +kernel, by decide +kernel⟩
theorem w_numbers_of {fa : Addr} {fd : FuncData} (TX : Txt K mg κ) (A : All P w K mg base κ n) (F : FunZ K "numbers_of" "numbers_of" s_numbers_of [] fa fd) : FnOk P w K mg base CX0 (n + 1) fa fd ["rows"] (spD K κ (List.length (["rows"] : List Str)) (runFn (ctx T n) f_numbers_of)) := by
  refine fnOk_of F sc_numbers_of rfl rfl fun cdv Ar outer s H E hr => ?_
  exact
    (ss_cons (ss_as (i := 1) sc_numbers_of.nd se_diK)
    (ss_cons (ss_fo rfl (si_en TX.b_enumerate (se_v 0)) (sg_t rfl (sgs_cons (i := 2) sc_numbers_of.nd (sgs_cons (i := 3) sc_numbers_of.nd sgs_nil))) (ss_one (ss_st (hu_of hr) (se_v 1) (se_ix (hu_of hr) (se_v 3) se_int) (se_v 2))))
    (ss_one (ss_rt (se_v 1)))))
abbrev NN_named : List Str := ["form", "numbers", "name"]
theorem sc_named : FnScope NN_named ["form", "numbers"] (defScope s_named) := ⟨rfl, rfl, rfl, by decide +kernel, rfl, by decide +kernel, by decide +kernel⟩
theorem w_named {fa : Addr} {fd : FuncData} (TX : Txt K mg κ) (A : All P w K mg base κ n) (F : FunZ K "named" "named" s_named [] fa fd) : FnOk P w K mg base CX0 (n + 1) fa fd ["form", "numbers"] (spD K κ (List.length (["form", "numbers"] : List Str)) (runFn (ctx T n) f_named)) := by
  refine fnOk_of F sc_named rfl rfl fun cdv Ar outer s H E hr => ?_
  exact
    (ss_cons (ss_if (st_w (sw_or (st_cmp (od_eq hr.units) (se_ix (hu_of hr) (se_v 0) se_int) se_str (nomark _)) (sw_or1 (st_cmp (od_eq hr.units) (se_ix (hu_of hr) (se_v 0) se_int) se_str (nomark _))))) (ss_one (ss_rt (se_lc rfl sc_named.nd (si_a (se_ix (hu_of hr) (se_v 0) se_int)) (blkOk_by (N := NN_named) (sc := defScope s_named) (own := [(("name" : Str), 2)]) (by decide +kernel)) (fun _ _ _ _ _ => pg_name (i := 2) sc_named.nd rfl (by first | exact Or.inl rfl | exact Or.inr rfl)) (fun _ _ _ _ _ => sts_nil) (fun _ _ _ _ _ => (se_ix (hu_of hr) (se_v 1) (se_v 2)))))) ss_nil)
    (ss_cons (ss_if (st_cmp (od_eq hr.units) (se_ix (hu_of hr) (se_v 0) se_int) se_str (nomark _)) (ss_one (ss_rt (se_lst (sa_cons (se_ix (hu_of hr) (se_v 1) (se_ix (hu_of hr) (se_v 0) se_int)) sa_nil)))) ss_nil)
    (ss_one (ss_rt (se_lst sa_nil)))))
abbrev NN_moved : List Str := ["book", "hands", "numbers", "told", "name", "form", "limbs", "number"]
theorem sc_moved : FnScope NN_moved ["book"] (defScope s_moved) := ⟨rfl, rfl, rfl, by decide +kernel, rfl, by decide +kernel, by decide +kernel⟩
theorem w_moved {fa : Addr} {fd : FuncData} (TX : Txt K mg κ) (A : All P w K mg base κ n) (F : FunZ K "moved" "moved" s_moved [] fa fd) : FnOk P w K mg base CX0 (n + 1) fa fd ["book"] (spD K κ (List.length (["book"] : List Str)) (runFn (ctx T n) f_moved)) := by
  refine fnOk_of F sc_moved rfl rfl fun cdv Ar outer s H E hr => ?_
  exact
    (ss_cons (ss_as (i := 1) sc_moved.nd (se_call A.a_numbers_of hr (sa_cons (se_ix (hu_of hr) (se_v 0) se_int) sa_nil)))
    (ss_cons (ss_as (i := 2) sc_moved.nd (se_call A.a_numbers_of hr (sa_cons (se_ix (hu_of hr) (se_v 0) se_int) sa_nil)))
    (ss_cons (ss_as (i := 3) sc_moved.nd (se_lst sa_nil))
    (ss_cons (ss_fo rfl (si_a (se_ix (hu_of hr) (se_v 0) se_int)) (sg_t rfl (sgs_cons (i := 4) sc_moved.nd (sgs_cons (i := 5) sc_moved.nd sgs_nil))) (ss_cons (ss_as (i := 6) sc_moved.nd (se_lst sa_nil))
    (ss_cons (ss_if (st_cmp (od_eq hr.units) (se_ix (hu_of hr) (se_v 5) se_int) se_str (nomark _)) (ss_one (ss_ex (se_bk PySem.F.plainAttrs_list PySem.F.slot_list_append PySem.F.type_list_append mt_append okL_ok md_append (se_v 6) (sa_cons (se_ix (hu_of hr) (se_v 1) (se_ix (hu_of hr) (se_v 5) se_int)) sa_nil)))) ss_nil)
    (ss_cons (ss_fo rfl (si_a (se_call A.a_named hr (sa_cons (se_v 5) (sa_cons (se_v 2) sa_nil)))) (sg_n (i := 7) sc_moved.nd) (ss_one (ss_ex (se_bk PySem.F.plainAttrs_list PySem.F.slot_list_extend PySem.F.type_list_extend mt_extend okL_ok md_extend (se_v 6) (sa_cons (se_ix (hu_of hr) (se_v 3) (se_v 7)) sa_nil)))))
    (ss_one (ss_ex (se_bk PySem.F.plainAttrs_list PySem.F.slot_list_append PySem.F.type_list_append mt_append okL_ok md_append (se_v 3) (sa_cons (se_srs rfl TX.b_sorted TX.b_set (se_v 6)) sa_nil))))))))
    (ss_one (ss_rt (se_v 3)))))))
abbrev NN_length_of : List Str := ["form", "below"]
theorem sc_length_of : FnScope NN_length_of ["form", "below"] (defScope s_length_of) := ⟨rfl, rfl, rfl, by decide +kernel, rfl, by decide +kernel, by decide +kernel⟩
theorem w_length_of {fa : Addr} {fd : FuncData} (TX : Txt K mg κ) (A : All P w K mg base κ n) (F : FunZ K "length_of" "length_of" s_length_of [] fa fd) : FnOk P w K mg base CX0 (n + 1) fa fd ["form", "below"] (spD K κ (List.length (["form", "below"] : List Str)) (runFn (ctx T n) f_length_of)) := by
  refine fnOk_of F sc_length_of rfl rfl fun cdv Ar outer s H E hr => ?_
  exact
    (ss_cons (ss_if (st_cmp (od_eq hr.units) (se_ix (hu_of hr) (se_v 0) se_int) se_str (nomark _)) (ss_one (ss_rt (se_bf (cd_sum rfl) TX.b_sum boot_sum_ (sa_cons (se_v 1) sa_nil)))) ss_nil)
    (ss_cons (ss_if (st_cmp (od_eq hr.units) (se_ix (hu_of hr) (se_v 0) se_int) se_str (nomark _)) (ss_one (ss_rt (se_bf (cd_max rfl) TX.b_max boot_max_ (sa_cons (se_v 1) sa_nil)))) ss_nil)
    (ss_cons (ss_if (st_cmp (od_eq hr.units) (se_ix (hu_of hr) (se_v 0) se_int) se_str (nomark _)) (ss_one (ss_rt (se_op od_mul (se_ix (hu_of hr) (se_v 0) se_int) (se_ix (hu_of hr) (se_v 1) se_int)))) ss_nil)
    (ss_one (ss_rt (se_ix (hu_of hr) (se_v 0) (se_un od_neg se_int)))))))
abbrev NN_look_at_side : List Str := ["book", "number", "limbs", "limb", "some"]
theorem sc_look_at_side : FnScope NN_look_at_side ["book", "number", "limbs"] (defScope s_look_at_side) := ⟨rfl, rfl, rfl, by decide +kernel, rfl, by decide +kernel, by decide +kernel⟩
theorem w_look_at_side {fa : Addr} {fd : FuncData} (TX : Txt K mg κ) (A : All P w K mg base κ n) (F : FunZ K "look_at_side" "look_at_side" s_look_at_side [] fa fd) : FnOk P w K mg base CX0 (n + 1) fa fd ["book", "number", "limbs"] (spD K κ (List.length (["book", "number", "limbs"] : List Str)) (runFn (ctx T n) f_look_at_side)) := by
  refine fnOk_of F sc_look_at_side rfl rfl fun cdv Ar outer s H E hr => ?_
  exact
    (ss_cons (ss_if (st_cmp (od_in (hu65 hr)) (se_lst sa_nil) (se_v 2) (by rfl)) (ss_one ss_no) ss_nil)
    (ss_one (ss_fo rfl (si_r1 TX.b_range (se_bf cd_len TX.b_len boot_len_ (sa_cons (se_ix (hu_of hr) (se_v 0) se_int) sa_nil))) (sg_n (i := 3) sc_look_at_side.nd) (ss_one (ss_if (st_cmp od_gt (se_bf cd_len TX.b_len boot_len_ (sa_cons (se_lc rfl sc_look_at_side.nd (si_a (se_v 2)) (blkOk_by (N := NN_look_at_side) (sc := defScope s_look_at_side) (own := [(("some" : Str), 4)]) (by decide +kernel)) (fun _ _ _ _ _ => pg_name (i := 4) sc_look_at_side.nd rfl (by first | exact Or.inl rfl | exact Or.inr rfl)) (fun _ _ _ _ _ => sts_one (st_cmp (od_in (hu65 hr)) (se_v 3) (se_v 4) (by rfl))) (fun _ _ _ _ _ => (se_v 4))) sa_nil)) se_int (nomark _)) (ss_one ss_no) ss_nil)))))
abbrev NN_lengths : List Str := ["book", "numbers", "limbs", "told", "number", "part", "below", "one"]
theorem sc_lengths : FnScope NN_lengths ["book"] (defScope s_lengths) := ⟨rfl, rfl, rfl, by decide +kernel, rfl, by decide +kernel, by decide +kernel⟩
theorem w_lengths {fa : Addr} {fd : FuncData} (TX : Txt K mg κ) (A : All P w K mg base κ n) (F : FunZ K "lengths" "lengths" s_lengths [] fa fd) : FnOk P w K mg base CX0 (n + 1) fa fd ["book"] (spD K κ (List.length (["book"] : List Str)) (runFn (ctx T n) f_lengths)) := by
  refine fnOk_of F sc_lengths rfl rfl fun cdv Ar outer s H E hr => ?_
  exact
    (ss_cons (ss_as (i := 1) sc_lengths.nd (se_call A.a_numbers_of hr (sa_cons (se_ix (hu_of hr) (se_v 0) se_int) sa_nil)))
    (ss_cons (ss_as (i := 2) sc_lengths.nd (se_call A.a_moved hr (sa_cons (se_v 0) sa_nil)))
    (ss_cons (ss_as (i := 3) sc_lengths.nd (se_lst sa_nil))
    (ss_cons (ss_fo rfl (si_en TX.b_enumerate (se_ix (hu_of hr) (se_v 0) se_int)) (sg_t rfl (sgs_cons (i := 4) sc_lengths.nd (sgs_cons (i := 5) sc_lengths.nd sgs_nil))) (ss_cons (ss_as (i := 6) sc_lengths.nd (se_call A.a_named hr (sa_cons (se_ix (hu_of hr) (se_v 5) se_int) (sa_cons (se_v 1) sa_nil))))
    (ss_cons (ss_if (st_cmp (od_eq hr.units) (se_ix (hu_of hr) (se_ix (hu_of hr) (se_v 5) se_int) se_int) se_str (nomark _)) (ss_one (ss_ex (se_call A.a_look_at_side hr (sa_cons (se_v 0) (sa_cons (se_v 4) (sa_cons (se_lc rfl sc_lengths.nd (si_a (se_v 6)) (blkOk_by (N := NN_lengths) (sc := defScope s_lengths) (own := [(("one" : Str), 7)]) (by decide +kernel)) (fun _ _ _ _ _ => pg_name (i := 7) sc_lengths.nd rfl (by first | exact Or.inl rfl | exact Or.inr rfl)) (fun _ _ _ _ _ => sts_nil) (fun _ _ _ _ _ => (se_ix (hu_of hr) (se_v 2) (se_v 7)))) sa_nil)))))) ss_nil)
    (ss_cons (ss_ex (se_bk PySem.F.plainAttrs_list PySem.F.slot_list_append PySem.F.type_list_append mt_append okL_ok md_append (se_v 3) (sa_cons (se_call A.a_length_of hr (sa_cons (se_ix (hu_of hr) (se_v 5) se_int) (sa_cons (se_lc rfl sc_lengths.nd (si_a (se_v 6)) (blkOk_by (N := NN_lengths) (sc := defScope s_lengths) (own := [(("one" : Str), 7)]) (by decide +kernel)) (fun _ _ _ _ _ => pg_name (i := 7) sc_lengths.nd rfl (by first | exact Or.inl rfl | exact Or.inr rfl)) (fun _ _ _ _ _ => sts_nil) (fun _ _ _ _ _ => (se_ix (hu_of hr) (se_v 3) (se_v 7)))) sa_nil))) sa_nil)))
    (ss_one (ss_if (st_cmp od_gt (se_ix (hu_of hr) (se_v 3) (se_un od_neg se_int)) (se_gi TX.c_LONGEST.choose_spec) (nomark _)) (ss_one ss_no) ss_nil))))))
    (ss_one (ss_rt (se_v 3)))))))
abbrev NN_ends : List Str := ["book", "hands", "numbers", "told", "name", "form", "left", "number", "limb", "height"]
theorem sc_ends : FnScope NN_ends ["book"] (defScope s_ends) := ⟨rfl, rfl, rfl, by decide +kernel, rfl, by decide +kernel, by decide +kernel⟩
theorem w_ends {fa : Addr} {fd : FuncData} (TX : Txt K mg κ) (A : All P w K mg base κ n) (F : FunZ K "ends" "ends" s_ends [] fa fd) : FnOk P w K mg base CX0 (n + 1) fa fd ["book"] (spD K κ (List.length (["book"] : List Str)) (runFn (ctx T n) f_ends)) := by
  refine fnOk_of F sc_ends rfl rfl fun cdv Ar outer s H E hr => ?_
  exact
    (ss_cons (ss_as (i := 1) sc_ends.nd (se_call A.a_numbers_of hr (sa_cons (se_ix (hu_of hr) (se_v 0) se_int) sa_nil)))
    (ss_cons (ss_as (i := 2) sc_ends.nd (se_call A.a_numbers_of hr (sa_cons (se_ix (hu_of hr) (se_v 0) se_int) sa_nil)))
    (ss_cons (ss_as (i := 3) sc_ends.nd (se_lst sa_nil))
    (ss_cons (ss_fo rfl (si_a (se_ix (hu_of hr) (se_v 0) se_int)) (sg_t rfl (sgs_cons (i := 4) sc_ends.nd (sgs_cons (i := 5) sc_ends.nd sgs_nil))) (ss_cons (ss_as (i := 6) sc_ends.nd se_diK)
    (ss_cons (ss_if (st_cmp (od_eq hr.units) (se_ix (hu_of hr) (se_v 5) se_int) se_str (nomark _)) (ss_one (ss_st (hu_of hr) (se_v 6) (se_ix (hu_of hr) (se_v 1) (se_ix (hu_of hr) (se_v 5) se_int)) (se_ix (hu_of hr) (se_v 5) se_int))) ss_nil)
    (ss_cons (ss_fo rfl (si_a (se_call A.a_named hr (sa_cons (se_v 5) (sa_cons (se_v 2) sa_nil)))) (sg_n (i := 7) sc_ends.nd) (ss_one (ss_fo rfl (si_a (se_ix (hu_of hr) (se_v 3) (se_v 7))) (sg_t rfl (sgs_cons (i := 8) sc_ends.nd (sgs_cons (i := 9) sc_ends.nd sgs_nil))) (ss_one (ss_st (hu_of hr) (se_v 6) (se_v 8) (se_v 9))))))
    (ss_one (ss_ex (se_bk PySem.F.plainAttrs_list PySem.F.slot_list_append PySem.F.type_list_append mt_append okL_ok md_append (se_v 3) (sa_cons (se_lc rfl sc_ends.nd (si_a (se_bf (cd_sr2 rfl) TX.b_sorted boot_sorted_ (sa_cons (se_v 6) sa_nil))) (blkOk_by (N := NN_ends) (sc := defScope s_ends) (own := [(("limb" : Str), 8)]) (by decide +kernel)) (fun _ _ _ _ _ => pg_name (i := 8) sc_ends.nd rfl (by first | exact Or.inl rfl | exact Or.inr rfl)) (fun _ _ _ _ _ => sts_nil) (fun _ _ _ _ _ => (se_tup (sa_cons (se_v 8) (sa_cons (se_ix (hu_of hr) (se_v 6) (se_v 8)) sa_nil))))) sa_nil))))))))
    (ss_one (ss_rt (se_v 3)))))))
abbrev NN_ramp_jump : List Str := ["start", "goal", "beats", "most", "change", "rest"]
theorem sc_ramp_jump : FnScope NN_ramp_jump ["start", "goal", "beats", "most"] (defScope s_ramp_jump) := ⟨rfl, rfl, rfl, by decide +kernel, rfl, by decide +kernel, by decide +kernel⟩
theorem w_ramp_jump {fa : Addr} {fd : FuncData} (TX : Txt K mg κ) (A : All P w K mg base κ n) (F : FunZ K "ramp_jump" "ramp_jump" s_ramp_jump [] fa fd) : FnOk P w K mg base CX0 (n + 1) fa fd ["start", "goal", "beats", "most"] (spD K κ (List.length (["start", "goal", "beats", "most"] : List Str)) (runFn (ctx T n) f_ramp_jump)) := by
  refine fnOk_of F sc_ramp_jump rfl rfl fun cdv Ar outer s H E hr => ?_
  exact
    (ss_cons (ss_at (sg_t rfl (sgs_cons (i := 4) sc_ramp_jump.nd (sgs_cons (i := 5) sc_ramp_jump.nd sgs_nil))) (se_bf cd_dvm TX.b_divmod boot_divmod_ (sa_cons (se_op od_sub (se_v 1) (se_v 0)) (sa_cons (se_v 2) sa_nil))))
    (ss_cons (ss_if (st_cmp od_gt (se_bf cd_abs TX.b_abs boot_abs_ (sa_cons (se_v 4) sa_nil)) (se_v 3) (nomark _)) (ss_one (ss_rt (se_tup (sa_cons se_int (sa_cons (se_v 4) sa_nil))))) ss_nil)
    (ss_cons (ss_if (st_w (sw_and (st_cmp od_gt (se_v 5) se_int (nomark _)) (sw_and1 (st_cmp od_gt (se_bf cd_abs TX.b_abs boot_abs_ (sa_cons (se_op od_add (se_v 4) se_int) sa_nil)) (se_v 3) (nomark _))))) (ss_one (ss_rt (se_tup (sa_cons (se_op od_div (se_op od_sub (se_v 2) se_int) (se_v 5)) (sa_cons (se_op od_add (se_v 4) se_int) sa_nil))))) ss_nil)
    (ss_one (ss_rt se_non)))))
abbrev NN_first_jump : List Str := ["book", "most", "best", "limb", "told", "found"]
theorem sc_first_jump : FnScope NN_first_jump ["book", "most"] (defScope s_first_jump) := ⟨rfl, rfl, rfl, by decide +kernel, rfl, by decide +kernel, by decide +kernel⟩
theorem w_first_jump {fa : Addr} {fd : FuncData} (TX : Txt K mg κ) (A : All P w K mg base κ n) (F : FunZ K "first_jump" "first_jump" s_first_jump [] fa fd) : FnOk P w K mg base CX0 (n + 1) fa fd ["book", "most"] (spD K κ (List.length (["book", "most"] : List Str)) (runFn (ctx T n) f_first_jump)) := by
  refine fnOk_of F sc_first_jump rfl rfl fun cdv Ar outer s H E hr => ?_
  exact
    (ss_cons (ss_as (i := 2) sc_first_jump.nd se_non)
    (ss_cons (ss_fo rfl (si_en TX.b_enumerate (se_ix (hu_of hr) (se_v 0) se_int)) (sg_t rfl (sgs_cons (i := 3) sc_first_jump.nd (sgs_cons (i := 4) sc_first_jump.nd sgs_nil))) (ss_cons (ss_as (i := 5) sc_first_jump.nd (se_meth A.m_Search_found hr (se_makeA A.k_Search hr (sa_cons (se_v 0) (sa_cons (se_v 3) (sa_cons (se_v 1) sa_nil)))) (sa_cons (se_op od_sub (se_bf cd_len TX.b_len boot_len_ (sa_cons (se_ix (hu_of hr) (se_v 0) se_int) sa_nil)) se_int) (sa_cons (se_ix (hu_of hr) (se_v 4) se_int) sa_nil))))
    (ss_one (ss_if (st_w (sw_and (st_cmp od_notN (se_v 5) se_non (nomark _)) (sw_and1 (st_w (sw_or (st_cmp od_isN (se_v 2) se_non (nomark _)) (sw_or1 (st_cmp od_lt (se_ix (hu_of hr) (se_v 5) se_int) (se_ix (hu_of hr) (se_v 2) se_int) (nomark _)))))))) (ss_one (ss_as (i := 2) sc_first_jump.nd (se_tup (sa_cons (se_ix (hu_of hr) (se_v 5) se_int) (sa_cons (se_ix (hu_of hr) (se_v 4) se_int) (sa_cons (se_ix (hu_of hr) (se_v 5) se_int) sa_nil)))))) ss_nil))))
    (ss_one (ss_rt (se_v 2)))))
abbrev NN_ramp : List Str := ["start", "goal", "beats", "j"]
theorem sc_ramp : FnScope NN_ramp ["start", "goal", "beats", "j"] (defScope s_ramp) := ⟨rfl, rfl, rfl, by decide +kernel, rfl, by decide +kernel, by decide +kernel⟩
theorem w_ramp {fa : Addr} {fd : FuncData} (TX : Txt K mg κ) (A : All P w K mg base κ n) (F : FunZ K "ramp" "ramp" s_ramp [] fa fd) : FnOk P w K mg base CX0 (n + 1) fa fd ["start", "goal", "beats", "j"] (spD K κ (List.length (["start", "goal", "beats", "j"] : List Str)) (runFn (ctx T n) f_ramp)) := by
  refine fnOk_of F sc_ramp rfl rfl fun cdv Ar outer s H E hr => ?_
  exact
    (ss_one (ss_rt (se_op od_add (se_v 0) (se_op od_div (se_op od_mul (se_op od_sub (se_v 1) (se_v 0)) (se_v 3)) (se_v 2)))))
abbrev NN_stand : List Str := ["book", "beat", "guide", "heights", "name", "height"]
theorem sc_stand : FnScope NN_stand ["book", "beat"] (defScope s_stand) := ⟨rfl, rfl, rfl, by decide +kernel, rfl, by decide +kernel, by decide +kernel⟩
theorem w_stand {fa : Addr} {fd : FuncData} (TX : Txt K mg κ) (A : All P w K mg base κ n) (F : FunZ K "stand" "stand" s_stand [] fa fd) : FnOk P w K mg base CX0 (n + 1) fa fd ["book", "beat"] (spD K κ (List.length (["book", "beat"] : List Str)) (runFn (ctx T n) f_stand)) := by
  refine fnOk_of F sc_stand rfl rfl fun cdv Ar outer s H E hr => ?_
  exact
    (ss_cons (ss_as (i := 2) sc_stand.nd (se_makeA A.k_Guide hr (sa_cons (se_v 0) sa_nil)))
    (ss_cons (ss_lct (j := 3) rfl (sw_true rfl rfl rfl (by decide +kernel)) sc_stand.nd (si_a (se_ix (hu_of hr) (se_v 0) se_int)) (blkOk_by (N := NN_stand) (sc := defScope s_stand) (own := [(("name" : Str), 4), (("height" : Str), 5)]) (by decide +kernel)) (fun _ _ _ _ _ => (sgs_cons (i := 4) sc_stand.nd (sgs_cons (i := 5) sc_stand.nd sgs_nil))) (fun _ _ _ _ _ => sts_nil) (fun _ _ _ _ _ => (se_v 5)))
    (ss_cons (ss_if (st_v (se_meth A.m_Guide_look_at hr (se_v 2) (sa_cons (se_v 1) sa_nil))) (ss_one (ss_ex (se_meth A.m_Guide_leave hr (se_v 2) (sa_cons (se_op od_sub (se_bf cd_len TX.b_len boot_len_ (sa_cons (se_ix (hu_of hr) (se_v 0) se_int) sa_nil)) se_int) (sa_cons (se_v 3) sa_nil))))) (ss_one (ss_ex (se_meth A.m_Guide_put hr (se_v 2) (sa_cons (se_op od_sub (se_bf cd_len TX.b_len boot_len_ (sa_cons (se_ix (hu_of hr) (se_v 0) se_int) sa_nil)) se_int) (sa_cons (se_v 1) (sa_cons (se_v 3) sa_nil)))))))
    (ss_one (ss_rt (se_v 3))))))
abbrev NN_l_pool : List Str := ["script", "k", "cell", "number", "found", "turn"]
theorem sc_l_pool : FnScope NN_l_pool ["script", "k"] (defScope s_l_pool) := ⟨rfl, rfl, rfl, by decide +kernel, rfl, by decide +kernel, by decide +kernel⟩
theorem w_l_pool {fa : Addr} {fd : FuncData} (TX : Txt K mg κ) (A : All P w K mg base κ n) (F : FunZ K "_law_pool" "_law_pool" s_l_pool [] fa fd) : FnOk P w K mg base CX0 (n + 1) fa fd ["script", "k"] (spD K κ (List.length (["script", "k"] : List Str)) (runFn (ctx T n) f_l_pool)) := by
  refine fnOk_of F sc_l_pool rfl rfl fun cdv Ar outer s H E hr => ?_
  exact
    (ss_cons (ss_as (i := 2) sc_l_pool.nd se_int)
    (ss_cons (ss_if (st_cmp od_lt (se_v 1) (se_bf cd_len TX.b_len boot_len_ (sa_cons (se_v 0) sa_nil)) (nomark _)) (ss_one (ss_as (i := 2) sc_l_pool.nd (se_ix (hu_of hr) (se_v 0) (se_v 1)))) ss_nil)
    (ss_cons (ss_if (st_cmp od_ge (se_v 2) (se_op od_pow se_int se_int) (nomark _)) (ss_one (ss_rt (se_lst (sa_cons (se_op od_mod (se_v 2) (se_op od_pow se_int se_int)) sa_nil)))) ss_nil)
    (ss_cons (ss_as (i := 3) sc_l_pool.nd (se_op od_add (se_op od_add (se_op od_mod (se_v 2) se_int) (se_op od_mul (se_op od_mul se_int (se_v 1)) (se_v 1))) se_int))
    (ss_cons (ss_as (i := 4) sc_l_pool.nd se_int)
    (ss_cons (ss_fo rfl (si_r1 TX.b_range se_int) (sg_n (i := 5) sc_l_pool.nd) (ss_cons (ss_as (i := 3) sc_l_pool.nd (se_op od_mod (se_op od_add (se_op od_mul (se_v 3) se_int) (se_op od_mul se_int (se_v 5))) se_int))
    (ss_cons (ss_as (i := 3) sc_l_pool.nd (se_op od_mod (se_op od_mul (se_v 3) (se_v 3)) se_int))
    (ss_one (ss_as (i := 4) sc_l_pool.nd (se_op od_add (se_op od_mul (se_v 4) se_int) (se_v 3)))))))
    (ss_one (ss_rt (se_lst (sa_cons (se_v 4) sa_nil))))))))))
abbrev NN_l_take : List Str := ["pool", "many", "found"]
theorem sc_l_take : FnScope NN_l_take ["pool", "many"] (defScope s_l_take) := ⟨rfl, rfl, rfl, by decide +kernel, rfl, by decide +kernel, by decide +kernel⟩
theorem w_l_take {fa : Addr} {fd : FuncData} (TX : Txt K mg κ) (A : All P w K mg base κ n) (F : FunZ K "_law_take" "_law_take" s_l_take [] fa fd) : FnOk P w K mg base CX0 (n + 1) fa fd ["pool", "many"] (spD K κ (List.length (["pool", "many"] : List Str)) (runFn (ctx T n) f_l_take)) := by
  refine fnOk_of F sc_l_take rfl rfl fun cdv Ar outer s H E hr => ?_
  exact
    (ss_cons (ss_as (i := 2) sc_l_take.nd (se_op od_mod (se_ix (hu_of hr) (se_v 0) se_int) (se_v 1)))
    (ss_cons (ss_st (hu_of hr) (se_v 0) se_int (se_op od_div (se_ix (hu_of hr) (se_v 0) se_int) (se_v 1)))
    (ss_one (ss_rt (se_v 2)))))
abbrev NN_l_word : List Str := ["place", "k"]
theorem sc_l_word : FnScope NN_l_word ["place", "k"] (defScope s_l_word) := ⟨rfl, rfl, rfl, by decide +kernel, rfl, by decide +kernel, by decide +kernel⟩
theorem w_l_word {fa : Addr} {fd : FuncData} (TX : Txt K mg κ) (A : All P w K mg base κ n) (F : FunZ K "_law_word" "_law_word" s_l_word [] fa fd) : FnOk P w K mg base CX0 (n + 1) fa fd ["place", "k"] (spD K κ (List.length (["place", "k"] : List Str)) (runFn (ctx T n) f_l_word)) := by
  refine fnOk_of F sc_l_word rfl rfl fun cdv Ar outer s H E hr => ?_
  exact
    (ss_one (ss_rt (se_op od_add (se_op od_add (se_op od_add (se_sl se_str so_n (so_s (se_v 0))) (se_ix (hu_of hr) se_str (se_op od_mod (se_v 1) se_int))) (se_sl se_str (so_s (se_v 0)) so_n)) (se_ix (hu_of hr) (se_lst (sa_cons se_str (sa_cons se_str (sa_cons se_str sa_nil)))) (se_op od_div (se_v 1) se_int)))))
abbrev NN_l_number : List Str := ["pool", "most", "way"]
theorem sc_l_number : FnScope NN_l_number ["pool", "most"] (defScope s_l_number) := ⟨rfl, rfl, rfl, by decide +kernel, rfl, by decide +kernel, by decide +kernel⟩
theorem w_l_number {fa : Addr} {fd : FuncData} (TX : Txt K mg κ) (A : All P w K mg base κ n) (F : FunZ K "_law_number" "_law_number" s_l_number [] fa fd) : FnOk P w K mg base CX0 (n + 1) fa fd ["pool", "most"] (spD K κ (List.length (["pool", "most"] : List Str)) (runFn (ctx T n) f_l_number)) := by
  refine fnOk_of F sc_l_number rfl rfl fun cdv Ar outer s H E hr => ?_
  exact
    (ss_cons (ss_as (i := 2) sc_l_number.nd (se_call A.a__law_take hr (sa_cons (se_v 0) (sa_cons se_int sa_nil))))
    (ss_cons (ss_if (st_cmp (od_eq hr.units) (se_v 2) se_int (nomark _)) (ss_one (ss_rt (se_call A.a__law_take hr (sa_cons (se_v 0) (sa_cons (se_bf (cd_min rfl) TX.b_min boot_min_ (sa_cons (se_v 1) (sa_cons se_int sa_nil))) sa_nil))))) ss_nil)
    (ss_cons (ss_if (st_cmp (od_eq hr.units) (se_v 2) se_int (nomark _)) (ss_one (ss_rt (se_call A.a__law_take hr (sa_cons (se_v 0) (sa_cons (se_bf (cd_min rfl) TX.b_min boot_min_ (sa_cons (se_v 1) (sa_cons se_int sa_nil))) sa_nil))))) ss_nil)
    (ss_one (ss_rt (se_call A.a__law_take hr (sa_cons (se_v 0) (sa_cons (se_v 1) sa_nil))))))))
abbrev NN_l_pair : List Str := ["moves", "at", "many", "k", "one", "other", "limb"]
theorem sc_l_pair : FnScope NN_l_pair ["moves", "at"] (defScope s_l_pair) := ⟨rfl, rfl, rfl, by decide +kernel, rfl, by decide +kernel, by decide +kernel⟩
theorem w_l_pair {fa : Addr} {fd : FuncData} (TX : Txt K mg κ) (A : All P w K mg base κ n) (F : FunZ K "_law_pair" "_law_pair" s_l_pair [] fa fd) : FnOk P w K mg base CX0 (n + 1) fa fd ["moves", "at"] (spD K κ (List.length (["moves", "at"] : List Str)) (runFn (ctx T n) f_l_pair)) := by
  refine fnOk_of F sc_l_pair rfl rfl fun cdv Ar outer s H E hr => ?_
  exact
    (ss_cons (ss_as (i := 2) sc_l_pair.nd (se_bf cd_len TX.b_len boot_len_ (sa_cons (se_v 0) sa_nil)))
    (ss_cons (ss_fo rfl (si_r1 TX.b_range (se_op od_mul (se_v 2) (se_v 2))) (sg_n (i := 3) sc_l_pair.nd) (ss_cons (ss_as (i := 4) sc_l_pair.nd (se_op od_mod (se_op od_div (se_op od_add (se_v 1) (se_v 3)) (se_v 2)) (se_v 2)))
    (ss_cons (ss_as (i := 5) sc_l_pair.nd (se_op od_mod (se_op od_add (se_v 1) (se_v 3)) (se_v 2)))
    (ss_one (ss_if (st_w (sw_and (st_cmp (od_ne hr.units) (se_ix (hu_of hr) (se_v 0) (se_v 4)) (se_lst sa_nil) (nomark _)) (sw_and (st_cmp (od_ne hr.units) (se_ix (hu_of hr) (se_v 0) (se_v 5)) (se_lst sa_nil) (nomark _)) (sw_and1 (st_cmp (od_eq hr.units) (se_lc rfl sc_l_pair.nd (si_a (se_ix (hu_of hr) (se_v 0) (se_v 4))) (blkOk_by (N := NN_l_pair) (sc := defScope s_l_pair) (own := [(("limb" : Str), 6)]) (by decide +kernel)) (fun _ _ _ _ _ => pg_name (i := 6) sc_l_pair.nd rfl (by first | exact Or.inl rfl | exact Or.inr rfl)) (fun _ _ _ _ _ => sts_one (st_cmp (od_in (hu65 hr)) (se_v 6) (se_ix (hu_of hr) (se_v 0) (se_v 5)) (by rfl))) (fun _ _ _ _ _ => (se_v 6))) (se_lst sa_nil) (nomark _)))))) (ss_one (ss_rt (se_tup (sa_cons (se_v 4) (sa_cons (se_v 5) sa_nil))))) ss_nil)))))
    (ss_one (ss_rt se_non))))
abbrev NN_l_naming : List Str := ["pool", "way", "names", "moves", "longs", "most", "pair", "at", "times", "k", "one"]
theorem sc_l_naming : FnScope NN_l_naming ["pool", "way", "names", "moves", "longs", "most"] (defScope s_l_naming) := ⟨rfl, rfl, rfl, by decide +kernel, rfl, by decide +kernel, by decide +kernel⟩
theorem w_l_naming {fa : Addr} {fd : FuncData} (TX : Txt K mg κ) (A : All P w K mg base κ n) (F : FunZ K "_law_naming" "_law_naming" s_l_naming [] fa fd) : FnOk P w K mg base CX0 (n + 1) fa fd ["pool", "way", "names", "moves", "longs", "most"] (spD K κ (List.length (["pool", "way", "names", "moves", "longs", "most"] : List Str)) (runFn (ctx T n) f_l_naming)) := by
  refine fnOk_of F sc_l_naming rfl rfl fun cdv Ar outer s H E hr => ?_
  exact
    (ss_cons (ss_if (st_cmp (od_eq hr.units) (se_v 1) se_int (nomark _)) (ss_one (ss_rt (se_tup (sa_cons se_str (sa_cons (se_bt cd_tup TX.b_tuple boot_tuple_ (sa_cons (se_lc rfl sc_l_naming.nd (si_r1 TX.b_range (se_op od_add se_int (se_call A.a__law_take hr (sa_cons (se_v 0) (sa_cons se_int sa_nil))))) (blkOk_by (N := NN_l_naming) (sc := defScope s_l_naming) (own := [(("k" : Str), 9)]) (by decide +kernel)) (fun _ _ _ _ _ => pg_name (i := 9) sc_l_naming.nd rfl (by first | exact Or.inl rfl | exact Or.inr rfl)) (fun _ _ _ _ _ => sts_nil) (fun _ _ _ _ _ => (se_ix (hu_of hr) (se_v 2) (se_call A.a__law_take hr (sa_cons (se_v 0) (sa_cons (se_bf cd_len TX.b_len boot_len_ (sa_cons (se_v 2) sa_nil)) sa_nil)))))) sa_nil)) sa_nil))))) ss_nil)
    (ss_cons (ss_if (st_cmp (od_eq hr.units) (se_v 1) se_int (nomark _)) (ss_cons (ss_as (i := 6) sc_l_naming.nd (se_call A.a__law_pair hr (sa_cons (se_v 3) (sa_cons (se_call A.a__law_take hr (sa_cons (se_v 0) (sa_cons (se_op od_mul (se_bf cd_len TX.b_len boot_len_ (sa_cons (se_v 2) sa_nil)) (se_bf cd_len TX.b_len boot_len_ (sa_cons (se_v 2) sa_nil))) sa_nil))) sa_nil))))
    (ss_cons (ss_if (st_cmp od_isN (se_v 6) se_non (nomark _)) (ss_one (ss_rt (se_tup (sa_cons se_str (sa_cons (se_op od_add se_int (se_call A.a__law_number hr (sa_cons (se_v 0) (sa_cons (se_v 5) sa_nil)))) sa_nil))))) ss_nil)
    (ss_one (ss_rt (se_tup (sa_cons se_str (sa_cons (se_bt cd_tup TX.b_tuple boot_tuple_ (sa_cons (se_lc rfl sc_l_naming.nd (si_a (se_v 6)) (blkOk_by (N := NN_l_naming) (sc := defScope s_l_naming) (own := [(("one" : Str), 10)]) (by decide +kernel)) (fun _ _ _ _ _ => pg_name (i := 10) sc_l_naming.nd rfl (by first | exact Or.inl rfl | exact Or.inr rfl)) (fun _ _ _ _ _ => sts_nil) (fun _ _ _ _ _ => (se_ix (hu_of hr) (se_v 2) (se_v 10)))) sa_nil)) sa_nil))))))) ss_nil)
    (ss_cons (ss_as (i := 7) sc_l_naming.nd (se_call A.a__law_take hr (sa_cons (se_v 0) (sa_cons (se_bf cd_len TX.b_len boot_len_ (sa_cons (se_v 2) sa_nil)) sa_nil))))
    (ss_cons (ss_as (i := 8) sc_l_naming.nd (se_op od_add se_int (se_call A.a__law_number hr (sa_cons (se_v 0) (sa_cons (se_v 5) sa_nil)))))
    (ss_cons (ss_if (st_cmp od_gt (se_op od_mul (se_v 8) (se_ix (hu_of hr) (se_v 4) (se_v 7))) (se_op od_pow se_int se_int) (nomark _)) (ss_one (ss_as (i := 8) sc_l_naming.nd (se_op od_add se_int (se_op od_mod (se_v 8) se_int)))) ss_nil)
    (ss_one (ss_rt (se_tup (sa_cons se_str (sa_cons (se_v 8) (sa_cons (se_ix (hu_of hr) (se_v 2) (se_v 7)) sa_nil)))))))))))
abbrev NN_l_form : List Str := ["pool", "book", "moves", "longs", "most", "way", "names", "limb", "goal", "some", "word", "part"]
theorem sc_l_form : FnScope NN_l_form ["pool", "book", "moves", "longs", "most"] (defScope s_l_form) := ⟨rfl, rfl, rfl, by decide +kernel, rfl, by decide +kernel, by decide +kernel⟩
theorem w_l_form {fa : Addr} {fd : FuncData} (TX : Txt K mg κ) (A : All P w K mg base κ n) (F : FunZ K "_law_form" "_law_form" s_l_form [] fa fd) : FnOk P w K mg base CX0 (n + 1) fa fd ["pool", "book", "moves", "longs", "most"] (spD K κ (List.length (["pool", "book", "moves", "longs", "most"] : List Str)) (runFn (ctx T n) f_l_form)) := by
  refine fnOk_of F sc_l_form rfl rfl fun cdv Ar outer s H E hr => ?_
  exact
    (ss_cons (ss_as (i := 5) sc_l_form.nd (se_call A.a__law_take hr (sa_cons (se_v 0) (sa_cons se_int sa_nil))))
    (ss_cons (ss_lc (j := 6) rfl (sw_true rfl rfl rfl (by decide +kernel)) sc_l_form.nd (si_a (se_ix (hu_of hr) (se_v 1) se_int)) (blkOk_by (N := NN_l_form) (sc := defScope s_l_form) (own := [(("part" : Str), 11)]) (by decide +kernel)) (fun _ _ _ _ _ => pg_name (i := 11) sc_l_form.nd rfl (by first | exact Or.inl rfl | exact Or.inr rfl)) (fun _ _ _ _ _ => sts_nil) (fun _ _ _ _ _ => (se_ix (hu_of hr) (se_v 11) se_int)))
    (ss_cons (ss_if (st_w (sw_and (st_cmp od_gt (se_v 5) se_int (nomark _)) (sw_and1 (st_cmp (od_ne hr.units) (se_v 6) (se_lst sa_nil) (nomark _))))) (ss_one (ss_rt (se_call A.a__law_naming hr (sa_cons (se_v 0) (sa_cons (se_v 5) (sa_cons (se_v 6) (sa_cons (se_v 2) (sa_cons (se_v 3) (sa_cons (se_v 4) sa_nil))))))))) ss_nil)
    (ss_cons (ss_if (st_cmp od_lt (se_v 5) se_int (nomark _)) (ss_cons (ss_as (i := 7) sc_l_form.nd (se_ix (hu_of hr) (se_ix (hu_of hr) (se_ix (hu_of hr) (se_v 1) se_int) (se_call A.a__law_take hr (sa_cons (se_v 0) (sa_cons (se_bf cd_len TX.b_len boot_len_ (sa_cons (se_ix (hu_of hr) (se_v 1) se_int) sa_nil)) sa_nil)))) se_int))
    (ss_cons (ss_as (i := 8) sc_l_form.nd (se_call A.a__law_number hr (sa_cons (se_v 0) (sa_cons (se_op od_add (se_v 4) se_int) sa_nil))))
    (ss_one (ss_rt (se_tup (sa_cons se_str (sa_cons (se_v 7) (sa_cons (se_v 8) (sa_cons (se_op od_add se_int (se_call A.a__law_number hr (sa_cons (se_v 0) (sa_cons (se_v 4) sa_nil)))) sa_nil))))))))) ss_nil)
    (ss_cons (ss_if (st_cmp (od_eq hr.units) (se_v 5) se_int (nomark _)) (ss_cons (ss_as (i := 9) sc_l_form.nd (se_op od_add (se_lst (sa_cons se_str (sa_cons se_str (sa_cons se_str sa_nil)))) (se_sl (se_v 6) so_n (so_s se_int))))
    (ss_cons (ss_as (i := 10) sc_l_form.nd (se_ix (hu_of hr) (se_v 9) (se_call A.a__law_take hr (sa_cons (se_v 0) (sa_cons (se_bf cd_len TX.b_len boot_len_ (sa_cons (se_v 9) sa_nil)) sa_nil)))))
    (ss_one (ss_rt (se_tup (sa_cons se_str (sa_cons (se_v 10) (sa_cons (se_op od_add se_int (se_call A.a__law_number hr (sa_cons (se_v 0) (sa_cons (se_v 4) sa_nil)))) sa_nil)))))))) ss_nil)
    (ss_one (ss_rt (se_tup (sa_cons se_str (sa_cons (se_op od_add se_int (se_call A.a__law_number hr (sa_cons (se_v 0) (sa_cons (se_v 4) sa_nil)))) sa_nil))))))))))
abbrev NN_l_put : List Str := ["book", "moves", "longs", "name", "form", "numbers", "limbs", "k", "long", "limb", "one"]
theorem sc_l_put : FnScope NN_l_put ["book", "moves", "longs", "name", "form"] (defScope s_l_put) := ⟨rfl, rfl, rfl, by decide +kernel, rfl, by decide +kernel, by decide +kernel⟩
theorem w_l_put {fa : Addr} {fd : FuncData} (TX : Txt K mg κ) (A : All P w K mg base κ n) (F : FunZ K "_law_put" "_law_put" s_l_put [] fa fd) : FnOk P w K mg base CX0 (n + 1) fa fd ["book", "moves", "longs", "name", "form"] (spD K κ (List.length (["book", "moves", "longs", "name", "form"] : List Str)) (runFn (ctx T n) f_l_put)) := by
  refine fnOk_of F sc_l_put rfl rfl fun cdv Ar outer s H E hr => ?_
  exact
    (ss_cons (ss_lc (j := 5) rfl (sw_true rfl rfl rfl (by decide +kernel)) sc_l_put.nd (si_r1 TX.b_range (se_bf cd_len TX.b_len boot_len_ (sa_cons (se_ix (hu_of hr) (se_v 0) se_int) sa_nil))) (blkOk_by (N := NN_l_put) (sc := defScope s_l_put) (own := [(("k" : Str), 7)]) (by decide +kernel)) (fun _ _ _ _ _ => pg_name (i := 7) sc_l_put.nd rfl (by first | exact Or.inl rfl | exact Or.inr rfl)) (fun _ _ _ _ _ => sts_one (st_w (sw_and (st_cmp (od_in (hu65 hr)) (se_ix (hu_of hr) (se_v 4) se_int) (se_tup (sa_cons se_str (sa_cons se_str sa_nil))) (by rfl)) (sw_and1 (st_cmp (od_in (hu65 hr)) (se_ix (hu_of hr) (se_ix (hu_of hr) (se_ix (hu_of hr) (se_v 0) se_int) (se_v 7)) se_int) (se_ix (hu_of hr) (se_v 4) se_int) (by rfl)))))) (fun _ _ _ _ _ => (se_v 7)))
    (ss_cons (ss_if (st_cmp (od_eq hr.units) (se_ix (hu_of hr) (se_v 4) se_int) se_str (nomark _)) (ss_one (ss_lc (j := 5) rfl (sw_true rfl rfl rfl (by decide +kernel)) sc_l_put.nd (si_r1 TX.b_range (se_bf cd_len TX.b_len boot_len_ (sa_cons (se_ix (hu_of hr) (se_v 0) se_int) sa_nil))) (blkOk_by (N := NN_l_put) (sc := defScope s_l_put) (own := [(("k" : Str), 7)]) (by decide +kernel)) (fun _ _ _ _ _ => pg_name (i := 7) sc_l_put.nd rfl (by first | exact Or.inl rfl | exact Or.inr rfl)) (fun _ _ _ _ _ => sts_one (st_cmp (od_eq hr.units) (se_ix (hu_of hr) (se_ix (hu_of hr) (se_ix (hu_of hr) (se_v 0) se_int) (se_v 7)) se_int) (se_ix (hu_of hr) (se_v 4) se_int) (nomark _))) (fun _ _ _ _ _ => (se_v 7)))) ss_nil)
    (ss_cons (ss_as (i := 6) sc_l_put.nd (se_lc rfl sc_l_put.nd (si_r1 TX.b_range (se_bf cd_len TX.b_len boot_len_ (sa_cons (se_ix (hu_of hr) (se_v 0) se_int) sa_nil))) (blkOk_by (N := NN_l_put) (sc := defScope s_l_put) (own := [(("k" : Str), 7)]) (by decide +kernel)) (fun _ _ _ _ _ => pg_name (i := 7) sc_l_put.nd rfl (by first | exact Or.inl rfl | exact Or.inr rfl)) (fun _ _ _ _ _ => sts_one (st_w (sw_and (st_cmp (od_eq hr.units) (se_ix (hu_of hr) (se_v 4) se_int) se_str (nomark _)) (sw_and1 (st_cmp (od_eq hr.units) (se_ix (hu_of hr) (se_ix (hu_of hr) (se_ix (hu_of hr) (se_v 0) se_int) (se_v 7)) se_int) (se_ix (hu_of hr) (se_v 4) se_int) (nomark _)))))) (fun _ _ _ _ _ => (se_v 7))))
    (ss_cons (ss_fo rfl (si_a (se_v 5)) (sg_n (i := 7) sc_l_put.nd) (ss_one (ss_as (i := 6) sc_l_put.nd (se_op od_add (se_v 6) (se_lc rfl sc_l_put.nd (si_a (se_ix (hu_of hr) (se_v 1) (se_v 7))) (blkOk_by (N := NN_l_put) (sc := defScope s_l_put) (own := [(("limb" : Str), 9)]) (by decide +kernel)) (fun _ _ _ _ _ => pg_name (i := 9) sc_l_put.nd rfl (by first | exact Or.inl rfl | exact Or.inr rfl)) (fun _ _ _ _ _ => sts_one (st_cmp (od_nin (hu65 hr)) (se_v 9) (se_v 6) (by rfl))) (fun _ _ _ _ _ => (se_v 9)))))))
    (ss_cons (ss_as (i := 8) sc_l_put.nd (se_ix (hu_of hr) (se_v 4) (se_un od_neg se_int)))
    (ss_cons (ss_if (st_cmp (od_eq hr.units) (se_ix (hu_of hr) (se_v 4) se_int) se_str (nomark _)) (ss_one (ss_as (i := 8) sc_l_put.nd (se_bf (cd_sum rfl) TX.b_sum boot_sum_ (sa_cons (se_lc rfl sc_l_put.nd (si_a (se_v 5)) (blkOk_by (N := NN_l_put) (sc := defScope s_l_put) (own := [(("k" : Str), 7)]) (by decide +kernel)) (fun _ _ _ _ _ => pg_name (i := 7) sc_l_put.nd rfl (by first | exact Or.inl rfl | exact Or.inr rfl)) (fun _ _ _ _ _ => sts_nil) (fun _ _ _ _ _ => (se_op od_mul (se_ix (hu_of hr) (se_v 2) (se_v 7)) (se_bf cd_len TX.b_len boot_len_ (sa_cons (se_lc rfl sc_l_put.nd (si_a (se_ix (hu_of hr) (se_v 4) se_int)) (blkOk_nest (N := NN_l_put) (own := [(("one" : Str), 10)]) (by decide +kernel)) (fun _ _ _ _ _ => pg_name (i := 10) sc_l_put.nd rfl (by first | exact Or.inl rfl | exact Or.inr rfl)) (fun _ _ _ _ _ => sts_one (st_cmp (od_eq hr.units) (se_v 10) (se_ix (hu_of hr) (se_ix (hu_of hr) (se_ix (hu_of hr) (se_v 0) se_int) (se_v 7)) se_int) (nomark _))) (fun _ _ _ _ _ => (se_v 10))) sa_nil))))) sa_nil)))) ss_nil)
    (ss_cons (ss_if (st_cmp (od_eq hr.units) (se_ix (hu_of hr) (se_v 4) se_int) se_str (nomark _)) (ss_one (ss_as (i := 8) sc_l_put.nd (se_bf (cd_max rfl) TX.b_max boot_max_ (sa_cons (se_lc rfl sc_l_put.nd (si_a (se_v 5)) (blkOk_by (N := NN_l_put) (sc := defScope s_l_put) (own := [(("k" : Str), 7)]) (by decide +kernel)) (fun _ _ _ _ _ => pg_name (i := 7) sc_l_put.nd rfl (by first | exact Or.inl rfl | exact Or.inr rfl)) (fun _ _ _ _ _ => sts_nil) (fun _ _ _ _ _ => (se_ix (hu_of hr) (se_v 2) (se_v 7)))) sa_nil)))) ss_nil)
    (ss_cons (ss_if (st_cmp (od_eq hr.units) (se_ix (hu_of hr) (se_v 4) se_int) se_str (nomark _)) (ss_one (ss_as (i := 8) sc_l_put.nd (se_op od_mul (se_ix (hu_of hr) (se_v 4) se_int) (se_ix (hu_of hr) (se_v 2) (se_ix (hu_of hr) (se_v 5) se_int))))) ss_nil)
    (ss_cons (ss_ex (se_bk PySem.F.plainAttrs_list PySem.F.slot_list_append PySem.F.type_list_append mt_append okL_ok md_append (se_ix (hu_of hr) (se_v 0) se_int) (sa_cons (se_tup (sa_cons (se_v 3) (sa_cons (se_v 4) sa_nil))) sa_nil)))
    (ss_cons (ss_ex (se_bk PySem.F.plainAttrs_list PySem.F.slot_list_append PySem.F.type_list_append mt_append okL_ok md_append (se_v 1) (sa_cons (se_v 6) sa_nil)))
    (ss_one (ss_ex (se_bk PySem.F.plainAttrs_list PySem.F.slot_list_append PySem.F.type_list_append mt_append okL_ok md_append (se_v 2) (sa_cons (se_v 8) sa_nil))))))))))))))
abbrev NN_l_book : List Str := ["script", "start", "most", "pool", "place", "called", "order", "many", "book", "moves", "longs", "k", "name", "last", "part"]
theorem sc_l_book : FnScope NN_l_book ["script", "start", "most"] (defScope s_l_book) := ⟨rfl, rfl, rfl, by decide +kernel, rfl, by decide +kernel, by decide +kernel⟩
theorem w_l_book {fa : Addr} {fd : FuncData} (TX : Txt K mg κ) (A : All P w K mg base κ n) (F : FunZ K "_law_book" "_law_book" s_l_book [] fa fd) : FnOk P w K mg base CX0 (n + 1) fa fd ["script", "start", "most"] (spD K κ (List.length (["script", "start", "most"] : List Str)) (runFn (ctx T n) f_l_book)) := by
  refine fnOk_of F sc_l_book rfl rfl fun cdv Ar outer s H E hr => ?_
  exact
    (ss_cons (ss_as (i := 3) sc_l_book.nd (se_call A.a__law_pool hr (sa_cons (se_v 0) (sa_cons (se_v 1) sa_nil))))
    (ss_cons (ss_as (i := 4) sc_l_book.nd (se_call A.a__law_take hr (sa_cons (se_v 3) (sa_cons se_int sa_nil))))
    (ss_cons (ss_as (i := 5) sc_l_book.nd (se_call A.a__law_take hr (sa_cons (se_v 3) (sa_cons se_int sa_nil))))
    (ss_cons (ss_as (i := 6) sc_l_book.nd (se_ix (hu_of hr) (se_lst (sa_cons (se_lst (sa_cons se_str (sa_cons se_str (sa_cons se_str sa_nil)))) (sa_cons (se_lst (sa_cons se_str (sa_cons se_str (sa_cons se_str sa_nil)))) (sa_cons (se_lst (sa_cons se_str (sa_cons se_str (sa_cons se_str sa_nil)))) sa_nil)))) (se_call A.a__law_take hr (sa_cons (se_v 3) (sa_cons se_int sa_nil)))))
    (ss_cons (ss_as (i := 6) sc_l_book.nd (se_op od_add (se_v 6) (se_lst (sa_cons se_str (sa_cons se_str (sa_cons se_str (sa_cons se_str (sa_cons se_str sa_nil))))))))
    (ss_cons (ss_as (i := 7) sc_l_book.nd (se_op od_add se_int (se_call A.a__law_take hr (sa_cons (se_v 3) (sa_cons se_int sa_nil)))))
    (ss_cons (ss_as (i := 8) sc_l_book.nd (se_tup (sa_cons (se_lc rfl sc_l_book.nd (si_r1 TX.b_range (se_op od_add se_int (se_call A.a__law_take hr (sa_cons (se_v 3) (sa_cons se_int sa_nil))))) (blkOk_by (N := NN_l_book) (sc := defScope s_l_book) (own := [(("k" : Str), 11)]) (by decide +kernel)) (fun _ _ _ _ _ => pg_name (i := 11) sc_l_book.nd rfl (by first | exact Or.inl rfl | exact Or.inr rfl)) (fun _ _ _ _ _ => sts_nil) (fun _ _ _ _ _ => (se_tup (sa_cons (se_ix (hu_of hr) (se_v 6) (se_v 11)) (sa_cons (se_call A.a__law_number hr (sa_cons (se_v 3) (sa_cons (se_op od_add (se_v 2) se_int) sa_nil))) sa_nil))))) (sa_cons (se_lst sa_nil) sa_nil))))
    (ss_cons (ss_as (i := 9) sc_l_book.nd (se_lst sa_nil))
    (ss_cons (ss_as (i := 10) sc_l_book.nd (se_lst sa_nil))
    (ss_cons (ss_fo rfl (si_r1 TX.b_range (se_v 7)) (sg_n (i := 11) sc_l_book.nd) (ss_cons (ss_as (i := 12) sc_l_book.nd (se_call A.a__law_word hr (sa_cons (se_v 4) (sa_cons (se_v 11) sa_nil))))
    (ss_cons (ss_if (st_w (sw_and (st_cmp (od_eq hr.units) (se_v 5) se_int (nomark _)) (sw_and1 (st_cmp (od_eq hr.units) (se_v 11) se_int (nomark _))))) (ss_one (ss_as (i := 12) sc_l_book.nd (se_ix (hu_of hr) (se_ix (hu_of hr) (se_ix (hu_of hr) (se_v 8) se_int) se_int) se_int))) ss_nil)
    (ss_one (ss_ex (se_call A.a__law_put hr (sa_cons (se_v 8) (sa_cons (se_v 9) (sa_cons (se_v 10) (sa_cons (se_v 12) (sa_cons (se_call A.a__law_form hr (sa_cons (se_call A.a__law_pool hr (sa_cons (se_v 0) (sa_cons (se_op od_add (se_op od_add (se_v 1) se_int) (se_v 11)) sa_nil))) (sa_cons (se_v 8) (sa_cons (se_v 9) (sa_cons (se_v 10) (sa_cons (se_v 2) sa_nil)))))) sa_nil)))))))))))
    (ss_cons (ss_lc (j := 13) rfl (sw_true rfl rfl rfl (by decide +kernel)) sc_l_book.nd (si_a (se_sl (se_ix (hu_of hr) (se_v 8) se_int) (so_s (se_un od_neg se_int)) so_n)) (blkOk_by (N := NN_l_book) (sc := defScope s_l_book) (own := [(("part" : Str), 14)]) (by decide +kernel)) (fun _ _ _ _ _ => pg_name (i := 14) sc_l_book.nd rfl (by first | exact Or.inl rfl | exact Or.inr rfl)) (fun _ _ _ _ _ => sts_nil) (fun _ _ _ _ _ => (se_ix (hu_of hr) (se_v 14) se_int)))
    (ss_cons (ss_ex (se_call A.a__law_put hr (sa_cons (se_v 8) (sa_cons (se_v 9) (sa_cons (se_v 10) (sa_cons (se_call A.a__law_word hr (sa_cons (se_v 4) (sa_cons (se_v 7) sa_nil))) (sa_cons (se_tup (sa_cons se_str (sa_cons (se_bt cd_tup TX.b_tuple boot_tuple_ (sa_cons (se_op od_add (se_v 13) (se_sl (se_v 13) so_n (so_s se_int))) sa_nil)) sa_nil))) sa_nil)))))))
    (ss_one (ss_rt (se_tup (sa_cons (se_v 8) (sa_cons (se_ix (hu_of hr) (se_v 10) (se_un od_neg se_int)) sa_nil)))))))))))))))))
abbrev NN_l_change : List Str := ["book", "beat", "name", "number", "limb"]
theorem sc_l_change : FnScope NN_l_change ["book", "beat", "name"] (defScope s_l_change) := ⟨rfl, rfl, rfl, by decide +kernel, rfl, by decide +kernel, by decide +kernel⟩
theorem w_l_change {fa : Addr} {fd : FuncData} (TX : Txt K mg κ) (A : All P w K mg base κ n) (F : FunZ K "_law_change" "_law_change" s_l_change [] fa fd) : FnOk P w K mg base CX0 (n + 1) fa fd ["book", "beat", "name"] (spD K κ (List.length (["book", "beat", "name"] : List Str)) (runFn (ctx T n) f_l_change)) := by
  refine fnOk_of F sc_l_change rfl rfl fun cdv Ar outer s H E hr => ?_
  exact
    (ss_cons (ss_as (i := 3) sc_l_change.nd (se_bk PySem.F.plainAttrs_list PySem.F.slot_list_index PySem.F.type_list_index mt_index okL_ok md_index (se_lc rfl sc_l_change.nd (si_a (se_ix (hu_of hr) (se_v 0) se_int)) (blkOk_by (N := NN_l_change) (sc := defScope s_l_change) (own := [(("limb" : Str), 4)]) (by decide +kernel)) (fun _ _ _ _ _ => pg_name (i := 4) sc_l_change.nd rfl (by first | exact Or.inl rfl | exact Or.inr rfl)) (fun _ _ _ _ _ => sts_nil) (fun _ _ _ _ _ => (se_ix (hu_of hr) (se_v 4) se_int))) (sa_cons (se_v 2) sa_nil)))
    (ss_one (ss_rt (se_op od_sub (se_ix (hu_of hr) (se_call A.a_stand hr (sa_cons (se_v 0) (sa_cons (se_op od_add (se_v 1) se_int) sa_nil))) (se_v 3)) (se_ix (hu_of hr) (se_call A.a_stand hr (sa_cons (se_v 0) (sa_cons (se_v 1) sa_nil))) (se_v 3))))))
abbrev NN_law : List Str := ["script", "book", "bound", "last", "k", "found", "again"]
theorem sc_law : FnScope NN_law ["script"] (defScope s_law) := ⟨rfl, rfl, rfl, by decide +kernel, rfl, by decide +kernel, by decide +kernel⟩
theorem w_law {fa : Addr} {fd : FuncData} (TX : Txt K mg κ) (A : All P w K mg base κ n) (F : FunZ K "law" "law" s_law [] fa fd) : FnOk P w K mg base CX0 (n + 1) fa fd ["script"] (spD K κ (List.length (["script"] : List Str)) (runFn (ctx T n) f_law)) := by
  refine fnOk_of F sc_law rfl rfl fun cdv Ar outer s H E hr => ?_
  exact
    (ss_cons (ss_as (i := 1) sc_law.nd (se_ix (hu_of hr) (se_call A.a__law_book hr (sa_cons (se_v 0) (sa_cons se_int (sa_cons (se_op od_pow se_int se_int) sa_nil)))) se_int))
    (ss_cons (ss_as (i := 2) sc_law.nd se_int)
    (ss_cons (ss_as (i := 3) sc_law.nd se_int)
    (ss_cons (ss_fo rfl (si_r1 TX.b_range se_int) (sg_n (i := 4) sc_law.nd) (ss_cons (ss_as (i := 5) sc_law.nd (se_call A.a_first_jump hr (sa_cons (se_v 1) (sa_cons (se_v 2) sa_nil))))
    (ss_cons (ss_if (st_cmp od_isN (se_v 5) se_non (nomark _)) (ss_one (ss_rt (se_cmp od_isN (se_call A.a_first_jump hr (sa_cons (se_v 1) (sa_cons (se_op od_pow se_int se_int) sa_nil))) se_non (nomark _)))) ss_nil)
    (ss_cons (ss_if (st_w (sw_or (st_cmp od_lt (se_ix (hu_of hr) (se_v 5) se_int) (se_v 3) (nomark _)) (sw_or (st_cmp od_le (se_bf cd_abs TX.b_abs boot_abs_ (sa_cons (se_ix (hu_of hr) (se_v 5) se_int) sa_nil)) (se_v 2) (nomark _)) (sw_or1 (st_cmp (od_ne hr.units) (se_call A.a__law_change hr (sa_cons (se_v 1) (sa_cons (se_ix (hu_of hr) (se_v 5) se_int) (sa_cons (se_ix (hu_of hr) (se_v 5) se_int) sa_nil)))) (se_ix (hu_of hr) (se_v 5) se_int) (nomark _)))))) (ss_one (ss_rt se_bl)) ss_nil)
    (ss_cons (ss_as (i := 6) sc_law.nd (se_call A.a_first_jump hr (sa_cons (se_v 1) (sa_cons (se_op od_sub (se_bf cd_abs TX.b_abs boot_abs_ (sa_cons (se_ix (hu_of hr) (se_v 5) se_int) sa_nil)) se_int) sa_nil))))
    (ss_cons (ss_if (st_w (sw_or (st_cmp od_isN (se_v 6) se_non (nomark _)) (sw_or1 (st_cmp od_gt (se_ix (hu_of hr) (se_v 6) se_int) (se_ix (hu_of hr) (se_v 5) se_int) (nomark _))))) (ss_one (ss_rt se_bl)) ss_nil)
    (ss_cons (ss_as (i := 2) sc_law.nd (se_bf cd_abs TX.b_abs boot_abs_ (sa_cons (se_ix (hu_of hr) (se_v 5) se_int) sa_nil)))
    (ss_one (ss_as (i := 3) sc_law.nd (se_ix (hu_of hr) (se_v 5) se_int))))))))))
    (ss_one (ss_rt (se_cmp od_isN (se_call A.a_first_jump hr (sa_cons (se_v 1) (sa_cons (se_op od_pow se_int se_int) sa_nil))) se_non (nomark _))))))))
theorem all_n (TX : Txt K mg κ) (Fs : Funs K mg κ) : ∀ n, All P w K mg base κ n
  | 0 => ⟨fnF_zero Fs.m__wall, fnF_zero Fs.m_numbers_of, fnF_zero Fs.m_named, fnF_zero Fs.m_moved, fnF_zero Fs.m_length_of, fnF_zero Fs.m_look_at_side, fnF_zero Fs.m_lengths, fnF_zero Fs.m_ends, fnF_zero Fs.m_ramp_jump, fnF_zero Fs.m_first_jump, fnF_zero Fs.m_ramp, fnF_zero Fs.m_stand, fnF_zero Fs.m__law_pool, fnF_zero Fs.m__law_take, fnF_zero Fs.m__law_word, fnF_zero Fs.m__law_number, fnF_zero Fs.m__law_pair, fnF_zero Fs.m__law_naming, fnF_zero Fs.m__law_form, fnF_zero Fs.m__law_put, fnF_zero Fs.m__law_book, fnF_zero Fs.m__law_change, (mem1 (meF_zero Fs.t_Search_found)), (mem1 (meF_zero Fs.t_Guide_look_at)), (mem1 (meF_zero Fs.t_Guide_leave)), (mem1 (meF_zero Fs.t_Guide_put)), (mem1 (meF_zero Fs.t_Search_looked)), (mem1 (meF_zero Fs.t_Search_in_turns)), (mem1 (meF_zero Fs.t_Search_in_row)), (mem1 (meF_zero Fs.t_Guide_put_beside)), (mem1 (meF_zero Fs.t_Guide_put_in_row)), mkF_zero Fs.j_Search, ⟨.inl rfl⟩, mkF_zero Fs.j_Guide, ⟨.inl rfl⟩, trivial⟩
  | n + 1 =>
    let A := all_n TX Fs n
    ⟨fnF_succ Fs.m__wall rfl rfl fun fa fd F => w__wall TX A F,
    fnF_succ Fs.m_numbers_of rfl rfl fun fa fd F => w_numbers_of TX A F,
    fnF_succ Fs.m_named rfl rfl fun fa fd F => w_named TX A F,
    fnF_succ Fs.m_moved rfl rfl fun fa fd F => w_moved TX A F,
    fnF_succ Fs.m_length_of rfl rfl fun fa fd F => w_length_of TX A F,
    fnF_succ Fs.m_look_at_side rfl rfl fun fa fd F => w_look_at_side TX A F,
    fnF_succ Fs.m_lengths rfl rfl fun fa fd F => w_lengths TX A F,
    fnF_succ Fs.m_ends rfl rfl fun fa fd F => w_ends TX A F,
    fnF_succ Fs.m_ramp_jump rfl rfl fun fa fd F => w_ramp_jump TX A F,
    fnF_succ Fs.m_first_jump rfl rfl fun fa fd F => w_first_jump TX A F,
    fnF_succ Fs.m_ramp rfl rfl fun fa fd F => w_ramp TX A F,
    fnF_succ Fs.m_stand rfl rfl fun fa fd F => w_stand TX A F,
    fnF_succ Fs.m__law_pool rfl rfl fun fa fd F => w_l_pool TX A F,
    fnF_succ Fs.m__law_take rfl rfl fun fa fd F => w_l_take TX A F,
    fnF_succ Fs.m__law_word rfl rfl fun fa fd F => w_l_word TX A F,
    fnF_succ Fs.m__law_number rfl rfl fun fa fd F => w_l_number TX A F,
    fnF_succ Fs.m__law_pair rfl rfl fun fa fd F => w_l_pair TX A F,
    fnF_succ Fs.m__law_naming rfl rfl fun fa fd F => w_l_naming TX A F,
    fnF_succ Fs.m__law_form rfl rfl fun fa fd F => w_l_form TX A F,
    fnF_succ Fs.m__law_put rfl rfl fun fa fd F => w_l_put TX A F,
    fnF_succ Fs.m__law_book rfl rfl fun fa fd F => w_l_book TX A F,
    fnF_succ Fs.m__law_change rfl rfl fun fa fd F => w_l_change TX A F,
    (mem1 (meF_succ Fs.t_Search_found rfl rfl fun fa fd F => w_m_Search_found TX A F)),
    (mem1 (meF_succ Fs.t_Guide_look_at rfl rfl fun fa fd F => w_m_Guide_look_at TX A F)),
    (mem1 (meF_succ Fs.t_Guide_leave rfl rfl fun fa fd F => w_m_Guide_leave TX A F)),
    (mem1 (meF_succ Fs.t_Guide_put rfl rfl fun fa fd F => w_m_Guide_put TX A F)),
    (mem1 (meF_succ Fs.t_Search_looked rfl rfl fun fa fd F => w_m_Search_looked TX A F)),
    (mem1 (meF_succ Fs.t_Search_in_turns rfl rfl fun fa fd F => w_m_Search_in_turns TX A F)),
    (mem1 (meF_succ Fs.t_Search_in_row rfl rfl fun fa fd F => w_m_Search_in_row TX A F)),
    (mem1 (meF_succ Fs.t_Guide_put_beside rfl rfl fun fa fd F => w_m_Guide_put_beside TX A F)),
    (mem1 (meF_succ Fs.t_Guide_put_in_row rfl rfl fun fa fd F => w_m_Guide_put_in_row TX A F)),
    mkF_succ Fs.j_Search rfl rfl fun fa fd F => w_m_Search_init TX A F,
    ⟨.inr ⟨n, rfl, A.i_Search⟩⟩,
    mkF_succ Fs.j_Guide rfl rfl fun fa fd F => w_m_Guide_init TX A F,
    ⟨.inr ⟨n, rfl, A.i_Guide⟩⟩,
    trivial⟩
end
abbrev kap (C_Search C_Guide : Addr) : Nat → Addr := fun c => match c with
  | 7 => C_Search
  | 1 => C_Guide
  | _ => 0
theorem all_mk {l : PySem.W.OpenLaw} {w : World} {K : PySem.W.Frag} {h : Heap} {mg : Str → Option Value} {fa f1 f2 f3 f4 f5 f6 f7 f8 f9 f10 f11 f12 f13 f14 f15 f16 f17 f18 f19 f20 f21 f22 f23 f24 f25 f26 f27 f28 f29 f30 f31 f32 f33 f34 f35 C_Search C_Guide : Addr} (X : K.In h) (G : h.Ns mainGlobals mg) (hfa : mg "law" = some (.ref fa))
    {od1 an1 od2 an2 od3 an3 od4 an4 od5 an5 od6 an6 od7 an7 od8 an8 od9 an9 od10 an10 od11 an11 od12 an12 od13 an13 od14 an14 od15 an15 od16 an16 od17 an17 od18 an18 od19 an19 od20 an20 od21 an21 od22 an22 od23 an23 od24 an24 od25 an25 od26 an26 od27 an27 od28 an28 od29 an29 od30 an30 od31 an31 od32 an32 od33 an33 od34 an34 od35 an35 : Option Addr} {sl1 sl2 sl3 sl4 sl5 sl6 sl7 sl8 sl9 sl10 sl11 sl12 sl13 sl14 sl15 sl16 sl17 sl18 sl19 sl20 sl21 sl22 sl23 sl24 sl25 sl26 sl27 sl28 sl29 sl30 sl31 sl32 sl33 sl34 sl35 : Array (Option Value)} {oc1 kV1 dc1 pm1 cd1 ct1 oc2 kV2 dc2 pm2 cd2 ct2 oc3 kV3 dc3 pm3 cd3 ct3 oc4 kV4 dc4 pm4 cd4 ct4 oc5 kV5 dc5 pm5 cd5 ct5 oc6 kV6 dc6 pm6 cd6 ct6 oc7 kV7 dc7 pm7 cd7 ct7 oc8 kV8 dc8 pm8 cd8 ct8 oc9 kV9 dc9 pm9 cd9 ct9 oc10 kV10 dc10 pm10 cd10 ct10 oc11 kV11 dc11 pm11 cd11 ct11 oc12 kV12 dc12 pm12 cd12 ct12 oc13 kV13 dc13 pm13 cd13 ct13 oc14 kV14 dc14 pm14 cd14 ct14 oc15 kV15 dc15 pm15 cd15 ct15 oc16 kV16 dc16 pm16 cd16 ct16 oc17 kV17 dc17 pm17 cd17 ct17 oc18 kV18 dc18 pm18 cd18 ct18 oc19 kV19 dc19 pm19 cd19 ct19 oc20 kV20 dc20 pm20 cd20 ct20 oc21 kV21 dc21 pm21 cd21 ct21 oc22 kV22 dc22 pm22 cd22 ct22 oc23 kV23 dc23 pm23 cd23 ct23 oc24 kV24 dc24 pm24 cd24 ct24 oc25 kV25 dc25 pm25 cd25 ct25 oc26 kV26 dc26 pm26 cd26 ct26 oc27 kV27 dc27 pm27 cd27 ct27 oc28 kV28 dc28 pm28 cd28 ct28 oc29 kV29 dc29 pm29 cd29 ct29 oc30 kV30 dc30 pm30 cd30 ct30 oc31 kV31 dc31 pm31 cd31 ct31 oc32 kV32 dc32 pm32 cd32 ct32 oc33 kV33 dc33 pm33 cd33 ct33 oc34 kV34 dc34 pm34 cd34 ct34 oc35 kV35 dc35 pm35 cd35 ct35 : Value}
    (a1 : PySem.W.nsIn K mainGlobals "_wall" = some (some (.ref f1))) (l1 : K.lookup f1 = some ⟨oc1, od1, .func (PySem.W.fnOf "_wall" "_wall" (defArgs s__wall) (defBody s__wall) (defScope s__wall) .none kV1 dc1 pm1 an1 cd1 ct1), sl1⟩) (c1 : PySem.W.codeIn K cd1 "_wall" = true) (k1 : PySem.W.keepIn K (.ref f1) = true)
    (a2 : PySem.W.nsIn K mainGlobals "numbers_of" = some (some (.ref f2))) (l2 : K.lookup f2 = some ⟨oc2, od2, .func (PySem.W.fnOf "numbers_of" "numbers_of" (defArgs s_numbers_of) (defBody s_numbers_of) (defScope s_numbers_of) .none kV2 dc2 pm2 an2 cd2 ct2), sl2⟩) (c2 : PySem.W.codeIn K cd2 "numbers_of" = true) (k2 : PySem.W.keepIn K (.ref f2) = true)
    (a3 : PySem.W.nsIn K mainGlobals "named" = some (some (.ref f3))) (l3 : K.lookup f3 = some ⟨oc3, od3, .func (PySem.W.fnOf "named" "named" (defArgs s_named) (defBody s_named) (defScope s_named) .none kV3 dc3 pm3 an3 cd3 ct3), sl3⟩) (c3 : PySem.W.codeIn K cd3 "named" = true) (k3 : PySem.W.keepIn K (.ref f3) = true)
    (a4 : PySem.W.nsIn K mainGlobals "moved" = some (some (.ref f4))) (l4 : K.lookup f4 = some ⟨oc4, od4, .func (PySem.W.fnOf "moved" "moved" (defArgs s_moved) (defBody s_moved) (defScope s_moved) .none kV4 dc4 pm4 an4 cd4 ct4), sl4⟩) (c4 : PySem.W.codeIn K cd4 "moved" = true) (k4 : PySem.W.keepIn K (.ref f4) = true)
    (a5 : PySem.W.nsIn K mainGlobals "length_of" = some (some (.ref f5))) (l5 : K.lookup f5 = some ⟨oc5, od5, .func (PySem.W.fnOf "length_of" "length_of" (defArgs s_length_of) (defBody s_length_of) (defScope s_length_of) .none kV5 dc5 pm5 an5 cd5 ct5), sl5⟩) (c5 : PySem.W.codeIn K cd5 "length_of" = true) (k5 : PySem.W.keepIn K (.ref f5) = true)
    (a6 : PySem.W.nsIn K mainGlobals "look_at_side" = some (some (.ref f6))) (l6 : K.lookup f6 = some ⟨oc6, od6, .func (PySem.W.fnOf "look_at_side" "look_at_side" (defArgs s_look_at_side) (defBody s_look_at_side) (defScope s_look_at_side) .none kV6 dc6 pm6 an6 cd6 ct6), sl6⟩) (c6 : PySem.W.codeIn K cd6 "look_at_side" = true) (k6 : PySem.W.keepIn K (.ref f6) = true)
    (a7 : PySem.W.nsIn K mainGlobals "lengths" = some (some (.ref f7))) (l7 : K.lookup f7 = some ⟨oc7, od7, .func (PySem.W.fnOf "lengths" "lengths" (defArgs s_lengths) (defBody s_lengths) (defScope s_lengths) .none kV7 dc7 pm7 an7 cd7 ct7), sl7⟩) (c7 : PySem.W.codeIn K cd7 "lengths" = true) (k7 : PySem.W.keepIn K (.ref f7) = true)
    (a8 : PySem.W.nsIn K mainGlobals "ends" = some (some (.ref f8))) (l8 : K.lookup f8 = some ⟨oc8, od8, .func (PySem.W.fnOf "ends" "ends" (defArgs s_ends) (defBody s_ends) (defScope s_ends) .none kV8 dc8 pm8 an8 cd8 ct8), sl8⟩) (c8 : PySem.W.codeIn K cd8 "ends" = true) (k8 : PySem.W.keepIn K (.ref f8) = true)
    (a9 : PySem.W.nsIn K mainGlobals "ramp_jump" = some (some (.ref f9))) (l9 : K.lookup f9 = some ⟨oc9, od9, .func (PySem.W.fnOf "ramp_jump" "ramp_jump" (defArgs s_ramp_jump) (defBody s_ramp_jump) (defScope s_ramp_jump) .none kV9 dc9 pm9 an9 cd9 ct9), sl9⟩) (c9 : PySem.W.codeIn K cd9 "ramp_jump" = true) (k9 : PySem.W.keepIn K (.ref f9) = true)
    (a10 : PySem.W.nsIn K mainGlobals "first_jump" = some (some (.ref f10))) (l10 : K.lookup f10 = some ⟨oc10, od10, .func (PySem.W.fnOf "first_jump" "first_jump" (defArgs s_first_jump) (defBody s_first_jump) (defScope s_first_jump) .none kV10 dc10 pm10 an10 cd10 ct10), sl10⟩) (c10 : PySem.W.codeIn K cd10 "first_jump" = true) (k10 : PySem.W.keepIn K (.ref f10) = true)
    (a11 : PySem.W.nsIn K mainGlobals "ramp" = some (some (.ref f11))) (l11 : K.lookup f11 = some ⟨oc11, od11, .func (PySem.W.fnOf "ramp" "ramp" (defArgs s_ramp) (defBody s_ramp) (defScope s_ramp) .none kV11 dc11 pm11 an11 cd11 ct11), sl11⟩) (c11 : PySem.W.codeIn K cd11 "ramp" = true) (k11 : PySem.W.keepIn K (.ref f11) = true)
    (a12 : PySem.W.nsIn K mainGlobals "stand" = some (some (.ref f12))) (l12 : K.lookup f12 = some ⟨oc12, od12, .func (PySem.W.fnOf "stand" "stand" (defArgs s_stand) (defBody s_stand) (defScope s_stand) .none kV12 dc12 pm12 an12 cd12 ct12), sl12⟩) (c12 : PySem.W.codeIn K cd12 "stand" = true) (k12 : PySem.W.keepIn K (.ref f12) = true)
    (a13 : PySem.W.nsIn K mainGlobals "_law_pool" = some (some (.ref f13))) (l13 : K.lookup f13 = some ⟨oc13, od13, .func (PySem.W.fnOf "_law_pool" "_law_pool" (defArgs s_l_pool) (defBody s_l_pool) (defScope s_l_pool) .none kV13 dc13 pm13 an13 cd13 ct13), sl13⟩) (c13 : PySem.W.codeIn K cd13 "_law_pool" = true) (k13 : PySem.W.keepIn K (.ref f13) = true)
    (a14 : PySem.W.nsIn K mainGlobals "_law_take" = some (some (.ref f14))) (l14 : K.lookup f14 = some ⟨oc14, od14, .func (PySem.W.fnOf "_law_take" "_law_take" (defArgs s_l_take) (defBody s_l_take) (defScope s_l_take) .none kV14 dc14 pm14 an14 cd14 ct14), sl14⟩) (c14 : PySem.W.codeIn K cd14 "_law_take" = true) (k14 : PySem.W.keepIn K (.ref f14) = true)
    (a15 : PySem.W.nsIn K mainGlobals "_law_word" = some (some (.ref f15))) (l15 : K.lookup f15 = some ⟨oc15, od15, .func (PySem.W.fnOf "_law_word" "_law_word" (defArgs s_l_word) (defBody s_l_word) (defScope s_l_word) .none kV15 dc15 pm15 an15 cd15 ct15), sl15⟩) (c15 : PySem.W.codeIn K cd15 "_law_word" = true) (k15 : PySem.W.keepIn K (.ref f15) = true)
    (a16 : PySem.W.nsIn K mainGlobals "_law_number" = some (some (.ref f16))) (l16 : K.lookup f16 = some ⟨oc16, od16, .func (PySem.W.fnOf "_law_number" "_law_number" (defArgs s_l_number) (defBody s_l_number) (defScope s_l_number) .none kV16 dc16 pm16 an16 cd16 ct16), sl16⟩) (c16 : PySem.W.codeIn K cd16 "_law_number" = true) (k16 : PySem.W.keepIn K (.ref f16) = true)
    (a17 : PySem.W.nsIn K mainGlobals "_law_pair" = some (some (.ref f17))) (l17 : K.lookup f17 = some ⟨oc17, od17, .func (PySem.W.fnOf "_law_pair" "_law_pair" (defArgs s_l_pair) (defBody s_l_pair) (defScope s_l_pair) .none kV17 dc17 pm17 an17 cd17 ct17), sl17⟩) (c17 : PySem.W.codeIn K cd17 "_law_pair" = true) (k17 : PySem.W.keepIn K (.ref f17) = true)
    (a18 : PySem.W.nsIn K mainGlobals "_law_naming" = some (some (.ref f18))) (l18 : K.lookup f18 = some ⟨oc18, od18, .func (PySem.W.fnOf "_law_naming" "_law_naming" (defArgs s_l_naming) (defBody s_l_naming) (defScope s_l_naming) .none kV18 dc18 pm18 an18 cd18 ct18), sl18⟩) (c18 : PySem.W.codeIn K cd18 "_law_naming" = true) (k18 : PySem.W.keepIn K (.ref f18) = true)
    (a19 : PySem.W.nsIn K mainGlobals "_law_form" = some (some (.ref f19))) (l19 : K.lookup f19 = some ⟨oc19, od19, .func (PySem.W.fnOf "_law_form" "_law_form" (defArgs s_l_form) (defBody s_l_form) (defScope s_l_form) .none kV19 dc19 pm19 an19 cd19 ct19), sl19⟩) (c19 : PySem.W.codeIn K cd19 "_law_form" = true) (k19 : PySem.W.keepIn K (.ref f19) = true)
    (a20 : PySem.W.nsIn K mainGlobals "_law_put" = some (some (.ref f20))) (l20 : K.lookup f20 = some ⟨oc20, od20, .func (PySem.W.fnOf "_law_put" "_law_put" (defArgs s_l_put) (defBody s_l_put) (defScope s_l_put) .none kV20 dc20 pm20 an20 cd20 ct20), sl20⟩) (c20 : PySem.W.codeIn K cd20 "_law_put" = true) (k20 : PySem.W.keepIn K (.ref f20) = true)
    (a21 : PySem.W.nsIn K mainGlobals "_law_book" = some (some (.ref f21))) (l21 : K.lookup f21 = some ⟨oc21, od21, .func (PySem.W.fnOf "_law_book" "_law_book" (defArgs s_l_book) (defBody s_l_book) (defScope s_l_book) .none kV21 dc21 pm21 an21 cd21 ct21), sl21⟩) (c21 : PySem.W.codeIn K cd21 "_law_book" = true) (k21 : PySem.W.keepIn K (.ref f21) = true)
    (a22 : PySem.W.nsIn K mainGlobals "_law_change" = some (some (.ref f22))) (l22 : K.lookup f22 = some ⟨oc22, od22, .func (PySem.W.fnOf "_law_change" "_law_change" (defArgs s_l_change) (defBody s_l_change) (defScope s_l_change) .none kV22 dc22 pm22 an22 cd22 ct22), sl22⟩) (c22 : PySem.W.codeIn K cd22 "_law_change" = true) (k22 : PySem.W.keepIn K (.ref f22) = true)
    (a23 : PySem.W.nsIn K mainGlobals "law" = some (some (.ref f23))) (l23 : K.lookup f23 = some ⟨oc23, od23, .func (PySem.W.fnOf "law" "law" (defArgs s_law) (defBody s_law) (defScope s_law) .none kV23 dc23 pm23 an23 cd23 ct23), sl23⟩) (c23 : PySem.W.codeIn K cd23 "law" = true) (k23 : PySem.W.keepIn K (.ref f23) = true)
    (aC_Search : PySem.W.nsIn K mainGlobals "Search" = some (some (.ref C_Search))) (pg_Search : PySem.W.plainGet K C_Search Str.empty = true) (hd_Search : PySem.W.hasDictIn K C_Search = true) (po_Search : PySem.W.plainOver K C_Search = true) (sa_Search : PySem.W.findIn K (.ref C_Search) "__setattr__" = some (some (.builtin "object.__setattr__")))
    (mk_Search : PySem.W.makesIn K C_Search = true) (kc_Search : PySem.W.keepIn K (.ref C_Search) = true)
    (n_Search_forms : PySem.W.findIn K (.ref C_Search) "forms" = some none)
    (n_Search_numbers : PySem.W.findIn K (.ref C_Search) "numbers" = some none)
    (n_Search_name : PySem.W.findIn K (.ref C_Search) "name" = some none)
    (n_Search_most : PySem.W.findIn K (.ref C_Search) "most" = some none)
    (n_Search_long : PySem.W.findIn K (.ref C_Search) "long" = some none)
    (n_Search_moves : PySem.W.findIn K (.ref C_Search) "moves" = some none)
    (n_Search_leaves : PySem.W.findIn K (.ref C_Search) "leaves" = some none)
    (n_Search_known : PySem.W.findIn K (.ref C_Search) "known" = some none)
    (aC_Guide : PySem.W.nsIn K mainGlobals "Guide" = some (some (.ref C_Guide))) (pg_Guide : PySem.W.plainGet K C_Guide Str.empty = true) (hd_Guide : PySem.W.hasDictIn K C_Guide = true) (po_Guide : PySem.W.plainOver K C_Guide = true) (sa_Guide : PySem.W.findIn K (.ref C_Guide) "__setattr__" = some (some (.builtin "object.__setattr__")))
    (mk_Guide : PySem.W.makesIn K C_Guide = true) (kc_Guide : PySem.W.keepIn K (.ref C_Guide) = true)
    (n_Guide_forms : PySem.W.findIn K (.ref C_Guide) "forms" = some none)
    (n_Guide_numbers : PySem.W.findIn K (.ref C_Guide) "numbers" = some none)
    (n_Guide_limbs : PySem.W.findIn K (.ref C_Guide) "limbs" = some none)
    (n_Guide_lengths : PySem.W.findIn K (.ref C_Guide) "lengths" = some none)
    (n_Guide_ends : PySem.W.findIn K (.ref C_Guide) "ends" = some none)
    (a_Search___init__ : PySem.W.findIn K (.ref C_Search) "__init__" = some (some (.ref f24)))
    (a_Search_found : PySem.W.findIn K (.ref C_Search) "found" = some (some (.ref f25)))
    (a_Search_looked : PySem.W.findIn K (.ref C_Search) "looked" = some (some (.ref f26)))
    (a_Search_in_turns : PySem.W.findIn K (.ref C_Search) "in_turns" = some (some (.ref f27)))
    (a_Search_in_row : PySem.W.findIn K (.ref C_Search) "in_row" = some (some (.ref f28)))
    (a_Guide___init__ : PySem.W.findIn K (.ref C_Guide) "__init__" = some (some (.ref f29)))
    (a_Guide_look_at : PySem.W.findIn K (.ref C_Guide) "look_at" = some (some (.ref f30)))
    (a_Guide_leave : PySem.W.findIn K (.ref C_Guide) "leave" = some (some (.ref f31)))
    (a_Guide_put : PySem.W.findIn K (.ref C_Guide) "put" = some (some (.ref f32)))
    (a_Guide_put_beside : PySem.W.findIn K (.ref C_Guide) "put_beside" = some (some (.ref f33)))
    (a_Guide_put_in_row : PySem.W.findIn K (.ref C_Guide) "put_in_row" = some (some (.ref f34)))
    (a_Guide_words : PySem.W.findIn K (.ref C_Guide) "words" = some (some (.ref f35)))
    (i24 : PySem.W.isFn K (.ref f24) = true) (l24 : K.lookup f24 = some ⟨oc24, od24, .func (PySem.W.fnOf "__init__" "Search.__init__" (defArgs s_m_Search_init) (defBody s_m_Search_init) (defScope s_m_Search_init) .none kV24 dc24 pm24 an24 cd24 ct24), sl24⟩) (c24 : PySem.W.codeIn K cd24 "Search.__init__" = true) (k24 : PySem.W.keepIn K (.ref f24) = true)
    (i25 : PySem.W.isFn K (.ref f25) = true) (l25 : K.lookup f25 = some ⟨oc25, od25, .func (PySem.W.fnOf "found" "Search.found" (defArgs s_m_Search_found) (defBody s_m_Search_found) (defScope s_m_Search_found) .none kV25 dc25 pm25 an25 cd25 ct25), sl25⟩) (c25 : PySem.W.codeIn K cd25 "Search.found" = true) (k25 : PySem.W.keepIn K (.ref f25) = true)
    (i26 : PySem.W.isFn K (.ref f26) = true) (l26 : K.lookup f26 = some ⟨oc26, od26, .func (PySem.W.fnOf "looked" "Search.looked" (defArgs s_m_Search_looked) (defBody s_m_Search_looked) (defScope s_m_Search_looked) .none kV26 dc26 pm26 an26 cd26 ct26), sl26⟩) (c26 : PySem.W.codeIn K cd26 "Search.looked" = true) (k26 : PySem.W.keepIn K (.ref f26) = true)
    (i27 : PySem.W.isFn K (.ref f27) = true) (l27 : K.lookup f27 = some ⟨oc27, od27, .func (PySem.W.fnOf "in_turns" "Search.in_turns" (defArgs s_m_Search_in_turns) (defBody s_m_Search_in_turns) (defScope s_m_Search_in_turns) .none kV27 dc27 pm27 an27 cd27 ct27), sl27⟩) (c27 : PySem.W.codeIn K cd27 "Search.in_turns" = true) (k27 : PySem.W.keepIn K (.ref f27) = true)
    (i28 : PySem.W.isFn K (.ref f28) = true) (l28 : K.lookup f28 = some ⟨oc28, od28, .func (PySem.W.fnOf "in_row" "Search.in_row" (defArgs s_m_Search_in_row) (defBody s_m_Search_in_row) (defScope s_m_Search_in_row) .none kV28 dc28 pm28 an28 cd28 ct28), sl28⟩) (c28 : PySem.W.codeIn K cd28 "Search.in_row" = true) (k28 : PySem.W.keepIn K (.ref f28) = true)
    (i29 : PySem.W.isFn K (.ref f29) = true) (l29 : K.lookup f29 = some ⟨oc29, od29, .func (PySem.W.fnOf "__init__" "Guide.__init__" (defArgs s_m_Guide_init) (defBody s_m_Guide_init) (defScope s_m_Guide_init) .none kV29 dc29 pm29 an29 cd29 ct29), sl29⟩) (c29 : PySem.W.codeIn K cd29 "Guide.__init__" = true) (k29 : PySem.W.keepIn K (.ref f29) = true)
    (i30 : PySem.W.isFn K (.ref f30) = true) (l30 : K.lookup f30 = some ⟨oc30, od30, .func (PySem.W.fnOf "look_at" "Guide.look_at" (defArgs s_m_Guide_look_at) (defBody s_m_Guide_look_at) (defScope s_m_Guide_look_at) .none kV30 dc30 pm30 an30 cd30 ct30), sl30⟩) (c30 : PySem.W.codeIn K cd30 "Guide.look_at" = true) (k30 : PySem.W.keepIn K (.ref f30) = true)
    (i31 : PySem.W.isFn K (.ref f31) = true) (l31 : K.lookup f31 = some ⟨oc31, od31, .func (PySem.W.fnOf "leave" "Guide.leave" (defArgs s_m_Guide_leave) (defBody s_m_Guide_leave) (defScope s_m_Guide_leave) .none kV31 dc31 pm31 an31 cd31 ct31), sl31⟩) (c31 : PySem.W.codeIn K cd31 "Guide.leave" = true) (k31 : PySem.W.keepIn K (.ref f31) = true)
    (i32 : PySem.W.isFn K (.ref f32) = true) (l32 : K.lookup f32 = some ⟨oc32, od32, .func (PySem.W.fnOf "put" "Guide.put" (defArgs s_m_Guide_put) (defBody s_m_Guide_put) (defScope s_m_Guide_put) .none kV32 dc32 pm32 an32 cd32 ct32), sl32⟩) (c32 : PySem.W.codeIn K cd32 "Guide.put" = true) (k32 : PySem.W.keepIn K (.ref f32) = true)
    (i33 : PySem.W.isFn K (.ref f33) = true) (l33 : K.lookup f33 = some ⟨oc33, od33, .func (PySem.W.fnOf "put_beside" "Guide.put_beside" (defArgs s_m_Guide_put_beside) (defBody s_m_Guide_put_beside) (defScope s_m_Guide_put_beside) .none kV33 dc33 pm33 an33 cd33 ct33), sl33⟩) (c33 : PySem.W.codeIn K cd33 "Guide.put_beside" = true) (k33 : PySem.W.keepIn K (.ref f33) = true)
    (i34 : PySem.W.isFn K (.ref f34) = true) (l34 : K.lookup f34 = some ⟨oc34, od34, .func (PySem.W.fnOf "put_in_row" "Guide.put_in_row" (defArgs s_m_Guide_put_in_row) (defBody s_m_Guide_put_in_row) (defScope s_m_Guide_put_in_row) .none kV34 dc34 pm34 an34 cd34 ct34), sl34⟩) (c34 : PySem.W.codeIn K cd34 "Guide.put_in_row" = true) (k34 : PySem.W.keepIn K (.ref f34) = true)
    (i35 : PySem.W.isFn K (.ref f35) = true) (l35 : K.lookup f35 = some ⟨oc35, od35, .func (PySem.W.fnOf "words" "Guide.words" (defArgs s_m_Guide_words) (defBody s_m_Guide_words) (defScope s_m_Guide_words) .none kV35 dc35 pm35 an35 cd35 ct35), sl35⟩) (c35 : PySem.W.codeIn K cd35 "Guide.words" = true) (k35 : PySem.W.keepIn K (.ref f35) = true)
    (z_abs : PySem.W.nsIn K mainGlobals "abs" = some none)
    (z_dict : PySem.W.nsIn K mainGlobals "dict" = some none)
    (z_divmod : PySem.W.nsIn K mainGlobals "divmod" = some none)
    (z_enumerate : PySem.W.nsIn K mainGlobals "enumerate" = some none)
    (z_len : PySem.W.nsIn K mainGlobals "len" = some none)
    (z_max : PySem.W.nsIn K mainGlobals "max" = some none)
    (z_min : PySem.W.nsIn K mainGlobals "min" = some none)
    (z_range : PySem.W.nsIn K mainGlobals "range" = some none)
    (z_set : PySem.W.nsIn K mainGlobals "set" = some none)
    (z_sorted : PySem.W.nsIn K mainGlobals "sorted" = some none)
    (z_sum : PySem.W.nsIn K mainGlobals "sum" = some none)
    (z_tuple : PySem.W.nsIn K mainGlobals "tuple" = some none)
    {tk_LONGEST : Tok} (g_LONGEST : PySem.W.nsIn K mainGlobals "LONGEST" = some (some (.int 1000000000000000000000000000000000000000000000000000000000000 tk_LONGEST))) :
    ∃ fd : FuncData, (∀ (s : Shared) (v : Value), BindsTo s fd ⟨[v], []⟩ [("script", v)]) ∧ ∀ base : Heap, K.In base → base.Ns mainGlobals mg → FnOk l.prog w K mg base CX0 201 fa fd ["script"] (spL K (runFn (ctx T 200) f_law)) := by
  have e := hfa.symm.trans (PySem.W.mg_of X G a23)
  cases e
  have TX : Txt K mg (kap C_Search C_Guide) := ⟨(memc ⟨⟨pg_Search, hd_Search, po_Search, sa_Search⟩, n_Search_forms⟩ (mem1 ⟨⟨pg_Guide, hd_Guide, po_Guide, sa_Guide⟩, n_Guide_forms⟩)), (memc ⟨⟨pg_Search, hd_Search, po_Search, sa_Search⟩, n_Search_numbers⟩ (mem1 ⟨⟨pg_Guide, hd_Guide, po_Guide, sa_Guide⟩, n_Guide_numbers⟩)), (mem1 ⟨⟨pg_Search, hd_Search, po_Search, sa_Search⟩, n_Search_name⟩), (mem1 ⟨⟨pg_Search, hd_Search, po_Search, sa_Search⟩, n_Search_most⟩), (mem1 ⟨⟨pg_Search, hd_Search, po_Search, sa_Search⟩, n_Search_long⟩), (mem1 ⟨⟨pg_Search, hd_Search, po_Search, sa_Search⟩, n_Search_moves⟩), (mem1 ⟨⟨pg_Search, hd_Search, po_Search, sa_Search⟩, n_Search_leaves⟩), (mem1 ⟨⟨pg_Search, hd_Search, po_Search, sa_Search⟩, n_Search_known⟩), (mem1 ⟨⟨pg_Guide, hd_Guide, po_Guide, sa_Guide⟩, n_Guide_limbs⟩), (mem1 ⟨⟨pg_Guide, hd_Guide, po_Guide, sa_Guide⟩, n_Guide_lengths⟩), (mem1 ⟨⟨pg_Guide, hd_Guide, po_Guide, sa_Guide⟩, n_Guide_ends⟩), PySem.W.mg_none_of X G z_abs, PySem.W.mg_none_of X G z_dict, PySem.W.mg_none_of X G z_divmod, PySem.W.mg_none_of X G z_enumerate, PySem.W.mg_none_of X G z_len, PySem.W.mg_none_of X G z_max, PySem.W.mg_none_of X G z_min, PySem.W.mg_none_of X G z_range, PySem.W.mg_none_of X G z_set, PySem.W.mg_none_of X G z_sorted, PySem.W.mg_none_of X G z_sum, PySem.W.mg_none_of X G z_tuple, ⟨_, PySem.W.mg_of X G g_LONGEST⟩, trivial⟩
  have Fs : Funs K mg (kap C_Search C_Guide) := ⟨⟨f24, _, (funZ_mk (st := s_m_Search_init) l24 c24 k24), ⟨pg_Search, hd_Search, po_Search, sa_Search⟩, ⟨a_Search___init__, i24, k24⟩, (FunD.bindsN (funZ_mk (st := s_m_Search_init) l24 c24 k24) (ps := ["self", "book", "limb", "most"]) fun _ _ _ _ _ _ us hl => match us, hl with | [_, _, _, _], _ => rfl)⟩,
    ⟨f25, _, (funZ_mk (st := s_m_Search_found) l25 c25 k25), ⟨pg_Search, hd_Search, po_Search, sa_Search⟩, ⟨a_Search_found, i25, k25⟩, (FunD.bindsN (funZ_mk (st := s_m_Search_found) l25 c25 k25) (ps := ["self", "part", "height"]) fun _ _ _ _ _ _ us hl => match us, hl with | [_, _, _], _ => rfl)⟩,
    ⟨f26, _, (funZ_mk (st := s_m_Search_looked) l26 c26 k26), ⟨pg_Search, hd_Search, po_Search, sa_Search⟩, ⟨a_Search_looked, i26, k26⟩, (FunD.bindsN (funZ_mk (st := s_m_Search_looked) l26 c26 k26) (ps := ["self", "form", "height"]) fun _ _ _ _ _ _ us hl => match us, hl with | [_, _, _], _ => rfl)⟩,
    ⟨f27, _, (funZ_mk (st := s_m_Search_in_turns) l27 c27 k27), ⟨pg_Search, hd_Search, po_Search, sa_Search⟩, ⟨a_Search_in_turns, i27, k27⟩, (FunD.bindsN (funZ_mk (st := s_m_Search_in_turns) l27 c27 k27) (ps := ["self", "part", "times", "height"]) fun _ _ _ _ _ _ us hl => match us, hl with | [_, _, _, _], _ => rfl)⟩,
    ⟨f28, _, (funZ_mk (st := s_m_Search_in_row) l28 c28 k28), ⟨pg_Search, hd_Search, po_Search, sa_Search⟩, ⟨a_Search_in_row, i28, k28⟩, (FunD.bindsN (funZ_mk (st := s_m_Search_in_row) l28 c28 k28) (ps := ["self", "names", "height"]) fun _ _ _ _ _ _ us hl => match us, hl with | [_, _, _], _ => rfl)⟩,
    ⟨f29, _, (funZ_mk (st := s_m_Guide_init) l29 c29 k29), ⟨pg_Guide, hd_Guide, po_Guide, sa_Guide⟩, ⟨a_Guide___init__, i29, k29⟩, (FunD.bindsN (funZ_mk (st := s_m_Guide_init) l29 c29 k29) (ps := ["self", "book"]) fun _ _ _ _ _ _ us hl => match us, hl with | [_, _], _ => rfl)⟩,
    ⟨f30, _, (funZ_mk (st := s_m_Guide_look_at) l30 c30 k30), ⟨pg_Guide, hd_Guide, po_Guide, sa_Guide⟩, ⟨a_Guide_look_at, i30, k30⟩, (FunD.bindsN (funZ_mk (st := s_m_Guide_look_at) l30 c30 k30) (ps := ["self", "beat"]) fun _ _ _ _ _ _ us hl => match us, hl with | [_, _], _ => rfl)⟩,
    ⟨f31, _, (funZ_mk (st := s_m_Guide_leave) l31 c31 k31), ⟨pg_Guide, hd_Guide, po_Guide, sa_Guide⟩, ⟨a_Guide_leave, i31, k31⟩, (FunD.bindsN (funZ_mk (st := s_m_Guide_leave) l31 c31 k31) (ps := ["self", "number", "heights"]) fun _ _ _ _ _ _ us hl => match us, hl with | [_, _, _], _ => rfl)⟩,
    ⟨f32, _, (funZ_mk (st := s_m_Guide_put) l32 c32 k32), ⟨pg_Guide, hd_Guide, po_Guide, sa_Guide⟩, ⟨a_Guide_put, i32, k32⟩, (FunD.bindsN (funZ_mk (st := s_m_Guide_put) l32 c32 k32) (ps := ["self", "number", "beat", "heights"]) fun _ _ _ _ _ _ us hl => match us, hl with | [_, _, _, _], _ => rfl)⟩,
    ⟨f33, _, (funZ_mk (st := s_m_Guide_put_beside) l33 c33 k33), ⟨pg_Guide, hd_Guide, po_Guide, sa_Guide⟩, ⟨a_Guide_put_beside, i33, k33⟩, (FunD.bindsN (funZ_mk (st := s_m_Guide_put_beside) l33 c33 k33) (ps := ["self", "number", "beat", "heights"]) fun _ _ _ _ _ _ us hl => match us, hl with | [_, _, _, _], _ => rfl)⟩,
    ⟨f34, _, (funZ_mk (st := s_m_Guide_put_in_row) l34 c34 k34), ⟨pg_Guide, hd_Guide, po_Guide, sa_Guide⟩, ⟨a_Guide_put_in_row, i34, k34⟩, (FunD.bindsN (funZ_mk (st := s_m_Guide_put_in_row) l34 c34 k34) (ps := ["self", "numbers", "beat", "heights"]) fun _ _ _ _ _ _ us hl => match us, hl with | [_, _, _, _], _ => rfl)⟩,
    ⟨f35, _, (funZ_mk (st := s_m_Guide_words) l35 c35 k35), ⟨pg_Guide, hd_Guide, po_Guide, sa_Guide⟩, ⟨a_Guide_words, i35, k35⟩, (FunD.bindsN (funZ_mk (st := s_m_Guide_words) l35 c35 k35) (ps := ["self", "number", "beat"]) fun _ _ _ _ _ _ us hl => match us, hl with | [_, _, _], _ => rfl)⟩,
    ⟨f24, _, (funZ_mk (st := s_m_Search_init) l24 c24 k24), PySem.W.mg_of X G aC_Search, ⟨mk_Search, a_Search___init__, i24, kc_Search⟩, (FunD.bindsN (funZ_mk (st := s_m_Search_init) l24 c24 k24) (ps := ["self", "book", "limb", "most"]) fun _ _ _ _ _ _ us hl => match us, hl with | [_, _, _, _], _ => rfl)⟩,
    ⟨f29, _, (funZ_mk (st := s_m_Guide_init) l29 c29 k29), PySem.W.mg_of X G aC_Guide, ⟨mk_Guide, a_Guide___init__, i29, kc_Guide⟩, (FunD.bindsN (funZ_mk (st := s_m_Guide_init) l29 c29 k29) (ps := ["self", "book"]) fun _ _ _ _ _ _ us hl => match us, hl with | [_, _], _ => rfl)⟩,
    (by
      have F := funZ_mk (st := s__wall) l1 c1 k1
      have b := FunD.bindsN F (ps := ["k"]) fun _ _ _ _ _ _ us hl => match us, hl with | [_], _ => rfl
      exact ⟨f1, _, [], F, PySem.W.mg_of X G a1, b, b, .nil⟩),
    (by
      have F := funZ_mk (st := s_numbers_of) l2 c2 k2
      have b := FunD.bindsN F (ps := ["rows"]) fun _ _ _ _ _ _ us hl => match us, hl with | [_], _ => rfl
      exact ⟨f2, _, [], F, PySem.W.mg_of X G a2, b, b, .nil⟩),
    (by
      have F := funZ_mk (st := s_named) l3 c3 k3
      have b := FunD.bindsN F (ps := ["form", "numbers"]) fun _ _ _ _ _ _ us hl => match us, hl with | [_, _], _ => rfl
      exact ⟨f3, _, [], F, PySem.W.mg_of X G a3, b, b, .nil⟩),
    (by
      have F := funZ_mk (st := s_moved) l4 c4 k4
      have b := FunD.bindsN F (ps := ["book"]) fun _ _ _ _ _ _ us hl => match us, hl with | [_], _ => rfl
      exact ⟨f4, _, [], F, PySem.W.mg_of X G a4, b, b, .nil⟩),
    (by
      have F := funZ_mk (st := s_length_of) l5 c5 k5
      have b := FunD.bindsN F (ps := ["form", "below"]) fun _ _ _ _ _ _ us hl => match us, hl with | [_, _], _ => rfl
      exact ⟨f5, _, [], F, PySem.W.mg_of X G a5, b, b, .nil⟩),
    (by
      have F := funZ_mk (st := s_look_at_side) l6 c6 k6
      have b := FunD.bindsN F (ps := ["book", "number", "limbs"]) fun _ _ _ _ _ _ us hl => match us, hl with | [_, _, _], _ => rfl
      exact ⟨f6, _, [], F, PySem.W.mg_of X G a6, b, b, .nil⟩),
    (by
      have F := funZ_mk (st := s_lengths) l7 c7 k7
      have b := FunD.bindsN F (ps := ["book"]) fun _ _ _ _ _ _ us hl => match us, hl with | [_], _ => rfl
      exact ⟨f7, _, [], F, PySem.W.mg_of X G a7, b, b, .nil⟩),
    (by
      have F := funZ_mk (st := s_ends) l8 c8 k8
      have b := FunD.bindsN F (ps := ["book"]) fun _ _ _ _ _ _ us hl => match us, hl with | [_], _ => rfl
      exact ⟨f8, _, [], F, PySem.W.mg_of X G a8, b, b, .nil⟩),
    (by
      have F := funZ_mk (st := s_ramp_jump) l9 c9 k9
      have b := FunD.bindsN F (ps := ["start", "goal", "beats", "most"]) fun _ _ _ _ _ _ us hl => match us, hl with | [_, _, _, _], _ => rfl
      exact ⟨f9, _, [], F, PySem.W.mg_of X G a9, b, b, .nil⟩),
    (by
      have F := funZ_mk (st := s_first_jump) l10 c10 k10
      have b := FunD.bindsN F (ps := ["book", "most"]) fun _ _ _ _ _ _ us hl => match us, hl with | [_, _], _ => rfl
      exact ⟨f10, _, [], F, PySem.W.mg_of X G a10, b, b, .nil⟩),
    (by
      have F := funZ_mk (st := s_ramp) l11 c11 k11
      have b := FunD.bindsN F (ps := ["start", "goal", "beats", "j"]) fun _ _ _ _ _ _ us hl => match us, hl with | [_, _, _, _], _ => rfl
      exact ⟨f11, _, [], F, PySem.W.mg_of X G a11, b, b, .nil⟩),
    (by
      have F := funZ_mk (st := s_stand) l12 c12 k12
      have b := FunD.bindsN F (ps := ["book", "beat"]) fun _ _ _ _ _ _ us hl => match us, hl with | [_, _], _ => rfl
      exact ⟨f12, _, [], F, PySem.W.mg_of X G a12, b, b, .nil⟩),
    (by
      have F := funZ_mk (st := s_l_pool) l13 c13 k13
      have b := FunD.bindsN F (ps := ["script", "k"]) fun _ _ _ _ _ _ us hl => match us, hl with | [_, _], _ => rfl
      exact ⟨f13, _, [], F, PySem.W.mg_of X G a13, b, b, .nil⟩),
    (by
      have F := funZ_mk (st := s_l_take) l14 c14 k14
      have b := FunD.bindsN F (ps := ["pool", "many"]) fun _ _ _ _ _ _ us hl => match us, hl with | [_, _], _ => rfl
      exact ⟨f14, _, [], F, PySem.W.mg_of X G a14, b, b, .nil⟩),
    (by
      have F := funZ_mk (st := s_l_word) l15 c15 k15
      have b := FunD.bindsN F (ps := ["place", "k"]) fun _ _ _ _ _ _ us hl => match us, hl with | [_, _], _ => rfl
      exact ⟨f15, _, [], F, PySem.W.mg_of X G a15, b, b, .nil⟩),
    (by
      have F := funZ_mk (st := s_l_number) l16 c16 k16
      have b := FunD.bindsN F (ps := ["pool", "most"]) fun _ _ _ _ _ _ us hl => match us, hl with | [_, _], _ => rfl
      exact ⟨f16, _, [], F, PySem.W.mg_of X G a16, b, b, .nil⟩),
    (by
      have F := funZ_mk (st := s_l_pair) l17 c17 k17
      have b := FunD.bindsN F (ps := ["moves", "at"]) fun _ _ _ _ _ _ us hl => match us, hl with | [_, _], _ => rfl
      exact ⟨f17, _, [], F, PySem.W.mg_of X G a17, b, b, .nil⟩),
    (by
      have F := funZ_mk (st := s_l_naming) l18 c18 k18
      have b := FunD.bindsN F (ps := ["pool", "way", "names", "moves", "longs", "most"]) fun _ _ _ _ _ _ us hl => match us, hl with | [_, _, _, _, _, _], _ => rfl
      exact ⟨f18, _, [], F, PySem.W.mg_of X G a18, b, b, .nil⟩),
    (by
      have F := funZ_mk (st := s_l_form) l19 c19 k19
      have b := FunD.bindsN F (ps := ["pool", "book", "moves", "longs", "most"]) fun _ _ _ _ _ _ us hl => match us, hl with | [_, _, _, _, _], _ => rfl
      exact ⟨f19, _, [], F, PySem.W.mg_of X G a19, b, b, .nil⟩),
    (by
      have F := funZ_mk (st := s_l_put) l20 c20 k20
      have b := FunD.bindsN F (ps := ["book", "moves", "longs", "name", "form"]) fun _ _ _ _ _ _ us hl => match us, hl with | [_, _, _, _, _], _ => rfl
      exact ⟨f20, _, [], F, PySem.W.mg_of X G a20, b, b, .nil⟩),
    (by
      have F := funZ_mk (st := s_l_book) l21 c21 k21
      have b := FunD.bindsN F (ps := ["script", "start", "most"]) fun _ _ _ _ _ _ us hl => match us, hl with | [_, _, _], _ => rfl
      exact ⟨f21, _, [], F, PySem.W.mg_of X G a21, b, b, .nil⟩),
    (by
      have F := funZ_mk (st := s_l_change) l22 c22 k22
      have b := FunD.bindsN F (ps := ["book", "beat", "name"]) fun _ _ _ _ _ _ us hl => match us, hl with | [_, _, _], _ => rfl
      exact ⟨f22, _, [], F, PySem.W.mg_of X G a22, b, b, .nil⟩),
    trivial⟩
  have F := funZ_mk (st := s_law) l23 c23 k23
  exact ⟨_, fun s v => .of_eq rfl, fun base _ _ => spL_of (κ := (kap C_Search C_Guide)) rfl (w_law TX (all_n TX Fs 200) F)⟩
end Z.k32
open PySem PySem.W PyProof.Rows
set_option maxRecDepth 100000 in
set_option maxHeartbeats 0 in
theorem PySem.Challenge.cw_camplay_k32_whole_bounds_raised_holds : PySem.Challenge.rw_camplay_k32_whole_bounds_raised.Holds := by
  w_on; o_law; k_head; (case hw => w_witness2)
  k_fill
  refine Z.law_end (l := PySem.Challenge.rw_camplay_k32_whole_bounds_raised) (k := 201) rfl rfl ⟨rfl, by decide, by decide⟩ (fun w h Y => PySem.W.kIn_of Y) ?F Z.k32.law_true
  case F =>
    intro w mg fa h KX G hmg
    refine' Z.k32.all_mk KX G hmg ?a1 ?l1 ?c1 ?k1 ?a2 ?l2 ?c2 ?k2 ?a3 ?l3 ?c3 ?k3 ?a4 ?l4 ?c4 ?k4 ?a5 ?l5 ?c5 ?k5 ?a6 ?l6 ?c6 ?k6 ?a7 ?l7 ?c7 ?k7 ?a8 ?l8 ?c8 ?k8 ?a9 ?l9 ?c9 ?k9 ?a10 ?l10 ?c10 ?k10 ?a11 ?l11 ?c11 ?k11 ?a12 ?l12 ?c12 ?k12 ?a13 ?l13 ?c13 ?k13 ?a14 ?l14 ?c14 ?k14 ?a15 ?l15 ?c15 ?k15 ?a16 ?l16 ?c16 ?k16 ?a17 ?l17 ?c17 ?k17 ?a18 ?l18 ?c18 ?k18 ?a19 ?l19 ?c19 ?k19 ?a20 ?l20 ?c20 ?k20 ?a21 ?l21 ?c21 ?k21 ?a22 ?l22 ?c22 ?k22 ?a23 ?l23 ?c23 ?k23 ?aC_Search ?pg_Search ?hd_Search ?po_Search ?sa_Search ?mk_Search ?kc_Search ?n_Search_forms ?n_Search_numbers ?n_Search_name ?n_Search_most ?n_Search_long ?n_Search_moves ?n_Search_leaves ?n_Search_known ?aC_Guide ?pg_Guide ?hd_Guide ?po_Guide ?sa_Guide ?mk_Guide ?kc_Guide ?n_Guide_forms ?n_Guide_numbers ?n_Guide_limbs ?n_Guide_lengths ?n_Guide_ends ?a_Search___init__ ?a_Search_found ?a_Search_looked ?a_Search_in_turns ?a_Search_in_row ?a_Guide___init__ ?a_Guide_look_at ?a_Guide_leave ?a_Guide_put ?a_Guide_put_beside ?a_Guide_put_in_row ?a_Guide_words ?i24 ?l24 ?c24 ?k24 ?i25 ?l25 ?c25 ?k25 ?i26 ?l26 ?c26 ?k26 ?i27 ?l27 ?c27 ?k27 ?i28 ?l28 ?c28 ?k28 ?i29 ?l29 ?c29 ?k29 ?i30 ?l30 ?c30 ?k30 ?i31 ?l31 ?c31 ?k31 ?i32 ?l32 ?c32 ?k32 ?i33 ?l33 ?c33 ?k33 ?i34 ?l34 ?c34 ?k34 ?i35 ?l35 ?c35 ?k35 ?z_abs ?z_dict ?z_divmod ?z_enumerate ?z_len ?z_max ?z_min ?z_range ?z_set ?z_sorted ?z_sum ?z_tuple ?g_LONGEST
    (case a1 => k_is)
    (case l1 => k_is)
    (case c1 => k_is)
    (case k1 => k_is)
    (case a2 => k_is)
    (case l2 => k_is)
    (case c2 => k_is)
    (case k2 => k_is)
    (case a3 => k_is)
    (case l3 => k_is)
    (case c3 => k_is)
    (case k3 => k_is)
    (case a4 => k_is)
    (case l4 => k_is)
    (case c4 => k_is)
    (case k4 => k_is)
    (case a5 => k_is)
    (case l5 => k_is)
    (case c5 => k_is)
    (case k5 => k_is)
    (case a6 => k_is)
    (case l6 => k_is)
    (case c6 => k_is)
    (case k6 => k_is)
    (case a7 => k_is)
    (case l7 => k_is)
    (case c7 => k_is)
    (case k7 => k_is)
    (case a8 => k_is)
    (case l8 => k_is)
    (case c8 => k_is)
    (case k8 => k_is)
    (case a9 => k_is)
    (case l9 => k_is)
    (case c9 => k_is)
    (case k9 => k_is)
    (case a10 => k_is)
    (case l10 => k_is)
    (case c10 => k_is)
    (case k10 => k_is)
    (case a11 => k_is)
    (case l11 => k_is)
    (case c11 => k_is)
    (case k11 => k_is)
    (case a12 => k_is)
    (case l12 => k_is)
    (case c12 => k_is)
    (case k12 => k_is)
    (case a13 => k_is)
    (case l13 => k_is)
    (case c13 => k_is)
    (case k13 => k_is)
    (case a14 => k_is)
    (case l14 => k_is)
    (case c14 => k_is)
    (case k14 => k_is)
    (case a15 => k_is)
    (case l15 => k_is)
    (case c15 => k_is)
    (case k15 => k_is)
    (case a16 => k_is)
    (case l16 => k_is)
    (case c16 => k_is)
    (case k16 => k_is)
    (case a17 => k_is)
    (case l17 => k_is)
    (case c17 => k_is)
    (case k17 => k_is)
    (case a18 => k_is)
    (case l18 => k_is)
    (case c18 => k_is)
    (case k18 => k_is)
    (case a19 => k_is)
    (case l19 => k_is)
    (case c19 => k_is)
    (case k19 => k_is)
    (case a20 => k_is)
    (case l20 => k_is)
    (case c20 => k_is)
    (case k20 => k_is)
    (case a21 => k_is)
    (case l21 => k_is)
    (case c21 => k_is)
    (case k21 => k_is)
    (case a22 => k_is)
    (case l22 => k_is)
    (case c22 => k_is)
    (case k22 => k_is)
    (case a23 => k_is)
    (case l23 => k_is)
    (case c23 => k_is)
    (case k23 => k_is)
    (case aC_Search => k_is)
    (case pg_Search => k_is)
    (case hd_Search => k_is)
    (case po_Search => k_is)
    (case sa_Search => k_is)
    (case mk_Search => k_is)
    (case kc_Search => k_is)
    (case n_Search_forms => k_is)
    (case n_Search_numbers => k_is)
    (case n_Search_name => k_is)
    (case n_Search_most => k_is)
    (case n_Search_long => k_is)
    (case n_Search_moves => k_is)
    (case n_Search_leaves => k_is)
    (case n_Search_known => k_is)
    (case aC_Guide => k_is)
    (case pg_Guide => k_is)
    (case hd_Guide => k_is)
    (case po_Guide => k_is)
    (case sa_Guide => k_is)
    (case mk_Guide => k_is)
    (case kc_Guide => k_is)
    (case n_Guide_forms => k_is)
    (case n_Guide_numbers => k_is)
    (case n_Guide_limbs => k_is)
    (case n_Guide_lengths => k_is)
    (case n_Guide_ends => k_is)
    (case a_Search___init__ => k_is)
    (case a_Search_found => k_is)
    (case a_Search_looked => k_is)
    (case a_Search_in_turns => k_is)
    (case a_Search_in_row => k_is)
    (case a_Guide___init__ => k_is)
    (case a_Guide_look_at => k_is)
    (case a_Guide_leave => k_is)
    (case a_Guide_put => k_is)
    (case a_Guide_put_beside => k_is)
    (case a_Guide_put_in_row => k_is)
    (case a_Guide_words => k_is)
    (case i24 => k_is)
    (case l24 => k_is)
    (case c24 => k_is)
    (case k24 => k_is)
    (case i25 => k_is)
    (case l25 => k_is)
    (case c25 => k_is)
    (case k25 => k_is)
    (case i26 => k_is)
    (case l26 => k_is)
    (case c26 => k_is)
    (case k26 => k_is)
    (case i27 => k_is)
    (case l27 => k_is)
    (case c27 => k_is)
    (case k27 => k_is)
    (case i28 => k_is)
    (case l28 => k_is)
    (case c28 => k_is)
    (case k28 => k_is)
    (case i29 => k_is)
    (case l29 => k_is)
    (case c29 => k_is)
    (case k29 => k_is)
    (case i30 => k_is)
    (case l30 => k_is)
    (case c30 => k_is)
    (case k30 => k_is)
    (case i31 => k_is)
    (case l31 => k_is)
    (case c31 => k_is)
    (case k31 => k_is)
    (case i32 => k_is)
    (case l32 => k_is)
    (case c32 => k_is)
    (case k32 => k_is)
    (case i33 => k_is)
    (case l33 => k_is)
    (case c33 => k_is)
    (case k33 => k_is)
    (case i34 => k_is)
    (case l34 => k_is)
    (case c34 => k_is)
    (case k34 => k_is)
    (case i35 => k_is)
    (case l35 => k_is)
    (case c35 => k_is)
    (case k35 => k_is)
    (case z_abs => k_is)
    (case z_dict => k_is)
    (case z_divmod => k_is)
    (case z_enumerate => k_is)
    (case z_len => k_is)
    (case z_max => k_is)
    (case z_min => k_is)
    (case z_range => k_is)
    (case z_set => k_is)
    (case z_sorted => k_is)
    (case z_sum => k_is)
    (case z_tuple => k_is)
    (case g_LONGEST => k_is)
