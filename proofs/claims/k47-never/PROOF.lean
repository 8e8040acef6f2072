import PyProof.Rows.All
import Wide.All
import OpenK.AllK
import Wide.FinOn
import PySem.Str
import HandS.ForMost
import KE.KDictKeyed
import KE.KeyNested
import KE.KDictWalk
import KE.GoesDict
import HandS.HeadHook2
import HandS.Defaults
import HandS.MakeKwOnly
import HandS.IsInst
import HandS.Rev
import HandS.Zip
import KE.GoesEnum
import KE.GoesMore
import HandS.NoneIn
import HandS.HeadHook3
import HandS.StrMore
import HandS.TupAny
import HandS.TupLe
import KE.KStateDown
import HandS.Head0
import HandS.Head1
import HandS.Head2
import HandS.HeadEnd
import HandS.HeadHook1
import PySem.Challenge.RW_ownglass_k47_whole_never_through_univers
set_option Elab.async false
set_option linter.all false
set_option maxRecDepth 100000
/-! OgPlain1: values, the machine on values, its symbolic twin, soundness of the twin. -/
namespace Og
open PySem

/-- a word, the empty list, a list by its first item and the rest -/
inductive Val where
  | w (x : Str) | nil | cons (h t : Val)
  deriving DecidableEq
namespace Val
def items : Val → List Val
  | .cons h t => h :: t.items
  | _ => []
def hd : Val → Val
  | .cons h _ => h
  | _ => .nil
def tl : Val → Val
  | .cons _ t => t
  | _ => .nil
def jn (a : Val) : Val → Val
  | .w _ => .cons a .nil
  | .nil => .cons a .nil
  | .cons h t => .cons a (.cons h t)
def isW : Val → Bool
  | .w _ => true
  | _ => false
def dep : Val → Nat
  | .w _ => 0
  | .nil => 1
  | .cons h t => max (h.dep + 1) t.dep
/-- a list goes on as a list, all through -/
def ok : Val → Bool
  | .w _ => true
  | .nil => true
  | .cons h t => h.ok && (!t.isW && t.ok)
def size : Val → Nat
  | .cons h t => h.size + t.size + 1
  | _ => 1
end Val
def ofB : Bool → Val
  | true => .w "yes"
  | false => .nil
structure Fn where
  name : Str
  ps : List Str
  body : Val
abbrev VEnv := List (Str × Val)
def lk : VEnv → Str → Option Val
  | [], _ => none
  | (y, v) :: r, x => if y = x then some v else lk r x
structure Call where
  f : Str
  args : List Val
  deriving DecidableEq
inductive Task where
  | ev (e : Val) (n : VEnv)
  | ite (a b : Val) (n : VEnv)
  | op (k : Str)
  | call (f : Str) (n : Nat)
  | fin (c : Call) (k : Nat)
structure MSt where
  steps : Nat
  found : List Val
  todo : List Task
def fnOf : List Fn → Str → Option Fn
  | [], _ => none
  | g :: r, x => if g.name = x then some g else fnOf r x
def plainW : List Str := ["same", "word", "head", "tail", "join"]
/-- what a special word does with what was found last -/
def opDo (k : Str) (F : List Val) : Option (List Val) :=
  if k = "head" then (match F with
    | v :: F => some (v.hd :: F)
    | _ => none)
  else if k = "tail" then (match F with
    | v :: F => some (v.tl :: F)
    | _ => none)
  else if k = "word" then (match F with
    | v :: F => some (ofB v.isW :: F)
    | _ => none)
  else if k = "same" then (match F with
    | b :: a :: F => if a.dep ≤ 16 ∧ b.dep ≤ 16 then some (ofB (decide (a = b)) :: F) else none
    | _ => none)
  else if k = "join" then (match F with
    | b :: a :: F => some (a.jn b :: F)
    | _ => none)
  else none
/-- an expression begins -/
def evDo (e : Val) (n : VEnv) (s : Nat) (F : List Val) (T : List Task) : Option MSt :=
  match e with
  | .w x => (match lk n x with
    | some v => some ⟨s + 1, v :: F, T⟩
    | none => none)
  | .cons (.w k) t =>
    if k = "quote" then (match t with
      | .cons v .nil => some ⟨s + 1, v :: F, T⟩
      | _ => none)
    else if k = "if" then (match t with
      | .cons a (.cons b (.cons c .nil)) => some ⟨s + 1, F, .ev a n :: .ite b c n :: T⟩
      | _ => none)
    else if 12 < t.items.length then none
    else if k ∈ plainW then some ⟨s + 1, F, t.items.map (Task.ev · n) ++ Task.op k :: T⟩
    else some ⟨s + 1, F, t.items.map (Task.ev · n) ++ Task.call k t.items.length :: T⟩
  | _ => none
/-- a call's body begins -/
def beginAt (keep : Bool) (P : List Fn) (c : Call) (s : Nat) (F : List Val) (T : List Task) : Option MSt :=
  match fnOf P c.f with
  | some g => if g.ps.length = c.args.length then some ⟨s, F, .ev g.body (g.ps.zip c.args) :: (if keep = true then .fin c (s + 1) :: T else T)⟩ else none
  | none => none
def mStep (keep : Bool) (P : List Fn) (S : MSt) : Option MSt :=
  match S.todo with
  | [] => none
  | .ev e n :: T => evDo e n S.steps S.found T
  | .ite a b n :: T => (match S.found with
    | v :: F => if v.dep ≤ 16 then some ⟨S.steps, F, .ev (if v = .nil then b else a) n :: T⟩ else none
    | [] => none)
  | .op k :: T => (match opDo k S.found with
    | some F => some ⟨S.steps, F, T⟩
    | none => none)
  | .call f k :: T => if k ≤ S.found.length then beginAt keep P ⟨f, (S.found.take k).reverse⟩ S.steps (S.found.drop k) T else none
  | .fin _ _ :: T => some ⟨S.steps, S.found, T⟩
def mIter (keep : Bool) (P : List Fn) : Nat → MSt → Option MSt
  | 0, S => some S
  | n + 1, S => (match mStep keep P S with
    | some S' => mIter keep P n S'
    | none => none)

/-! ### the symbolic twin -/
/-- atom: any value; watom: any word; latom: any value that is no word -/
inductive SV where
  | w (n : Nat) | nil | cons (h t : SV) | atom (i : Nat) | watom (i : Nat) | latom (i : Nat)
  deriving DecidableEq
namespace SV
def items : SV → Option (List SV)
  | .nil => some []
  | .cons h t => (match t.items with
    | some r => some (h :: r)
    | none => none)
  | _ => none
def hd : SV → Option SV
  | .cons h _ => some h
  | .atom _ => none
  | .latom _ => none
  | _ => some .nil
def tl : SV → Option SV
  | .cons _ t => some t
  | .atom _ => none
  | .latom _ => none
  | _ => some .nil
def jn (a : SV) : SV → Option SV
  | .w _ => some (.cons a .nil)
  | .watom _ => some (.cons a .nil)
  | .atom _ => none
  | b => some (.cons a b)
def isW : SV → Option Bool
  | .w _ => some true
  | .watom _ => some true
  | .atom _ => none
  | _ => some false
def isNil : SV → Option Bool
  | .nil => some true
  | .atom _ => none
  | .latom _ => none
  | _ => some false
def dep : SV → Nat
  | .w _ => 0
  | .nil => 1
  | .cons h t => max (h.dep + 1) t.dep
  | .watom _ => 0
  | .atom _ => 4
  | .latom _ => 100
/-- surely different (dis: the atoms 0 and 1 are) -/
def diff (dis : Bool) : SV → SV → Bool
  | .w n, .w m => !Nat.beq n m
  | .w _, .nil => true
  | .w _, .cons _ _ => true
  | .w _, .latom _ => true
  | .nil, .w _ => true
  | .nil, .cons _ _ => true
  | .nil, .watom _ => true
  | .cons _ _, .w _ => true
  | .cons _ _, .nil => true
  | .cons _ _, .watom _ => true
  | .cons a b, .cons c d => diff dis a c || diff dis b d
  | .watom _, .nil => true
  | .watom _, .cons _ _ => true
  | .watom _, .latom _ => true
  | .latom _, .w _ => true
  | .latom _, .watom _ => true
  | .atom i, .atom j => dis && ((Nat.beq i 0 && Nat.beq j 1) || (Nat.beq i 1 && Nat.beq j 0))
  | _, _ => false
def eqv : SV → SV → Bool
  | .w n, .w m => Nat.beq n m
  | .nil, .nil => true
  | .cons a b, .cons c d => eqv a c && eqv b d
  | .atom i, .atom j => Nat.beq i j
  | .watom i, .watom j => Nat.beq i j
  | .latom i, .latom j => Nat.beq i j
  | _, _ => false
def same (dis : Bool) (a b : SV) : Option Bool := bif eqv a b then some true else bif diff dis a b then some false else none
end SV
def sofB : Bool → SV
  | true => .w 7
  | false => .nil
structure SFn where
  name : Nat
  ps : List Nat
  body : SV
abbrev SEnv := List (Nat × SV)
def slk : SEnv → Nat → Option SV
  | [], _ => none
  | (y, v) :: r, x => bif Nat.beq y x then some v else slk r x
structure SCall where
  f : Nat
  args : List SV
inductive STask where
  | ev (e : SV) (n : SEnv)
  | ite (a b : SV) (n : SEnv)
  | op (k : Nat)
  | call (f : Nat) (n : Nat)
  | fin (c : SCall) (k : Nat)
structure SSt where
  steps : Nat
  found : List SV
  todo : List STask
def sfnOf : List SFn → Nat → Option SFn
  | [], _ => none
  | g :: r, x => bif Nat.beq g.name x then some g else sfnOf r x
/-- the words by number: 0 quote, 1 if, 2 same, 3 word, 4 head, 5 tail, 6 join, 7 yes -/
def sopDo (dis : Bool) (k : Nat) (F : List SV) : Option (List SV) :=
  bif Nat.beq k 4 then (match F with
    | v :: F => (match v.hd with
      | some u => some (u :: F)
      | none => none)
    | _ => none)
  else bif Nat.beq k 5 then (match F with
    | v :: F => (match v.tl with
      | some u => some (u :: F)
      | none => none)
    | _ => none)
  else bif Nat.beq k 3 then (match F with
    | v :: F => (match v.isW with
      | some u => some (sofB u :: F)
      | none => none)
    | _ => none)
  else bif Nat.beq k 2 then (match F with
    | b :: a :: F => bif Nat.ble a.dep 16 && Nat.ble b.dep 16 then (match SV.same dis a b with
      | some u => some (sofB u :: F)
      | none => none) else none
    | _ => none)
  else bif Nat.beq k 6 then (match F with
    | b :: a :: F => (match a.jn b with
      | some u => some (u :: F)
      | none => none)
    | _ => none)
  else none
def sevs (n : SEnv) (tk : STask) (T : List STask) : List SV → List STask
  | [] => tk :: T
  | e :: r => .ev e n :: sevs n tk T r
def slen : List SV → Nat
  | [] => 0
  | _ :: r => slen r + 1
def sevDo (e : SV) (n : SEnv) (s : Nat) (F : List SV) (T : List STask) : Option SSt :=
  match e with
  | .w x => (match slk n x with
    | some v => some ⟨s + 1, v :: F, T⟩
    | none => none)
  | .cons (.w k) t =>
    bif Nat.beq k 0 then (match t with
      | .cons v .nil => some ⟨s + 1, v :: F, T⟩
      | _ => none)
    else bif Nat.beq k 1 then (match t with
      | .cons a (.cons b (.cons c .nil)) => some ⟨s + 1, F, .ev a n :: .ite b c n :: T⟩
      | _ => none)
    else (match t.items with
      | some r => bif Nat.ble 13 (slen r) then none
        else bif Nat.ble k 6 then some ⟨s + 1, F, sevs n (.op k) T r⟩
        else some ⟨s + 1, F, sevs n (.call k (slen r)) T r⟩
      | none => none)
  | _ => none
def szip : List Nat → List SV → Option SEnv
  | [], [] => some []
  | x :: r, v :: q => (match szip r q with
    | some e => some ((x, v) :: e)
    | none => none)
  | _, _ => none
def sbegin (keep : Bool) (P : List SFn) (c : SCall) (s : Nat) (F : List SV) (T : List STask) : Option SSt :=
  match sfnOf P c.f with
  | some g => (match szip g.ps c.args with
    | some e => some ⟨s, F, .ev g.body e :: (bif keep then .fin c (s + 1) :: T else T)⟩
    | none => none)
  | none => none
/-- the last k found, the first of them first, and the rest -/
def stake : Nat → List SV → List SV → Option (List SV × List SV)
  | 0, acc, F => some (acc, F)
  | _ + 1, _, [] => none
  | k + 1, acc, v :: F => stake k (v :: acc) F
def sstep (keep dis : Bool) (P : List SFn) (S : SSt) : Option SSt :=
  match S.todo with
  | [] => none
  | .ev e n :: T => sevDo e n S.steps S.found T
  | .ite a b n :: T => (match S.found with
    | v :: F => (match v.isNil with
      | some c => bif Nat.ble v.dep 16 then some ⟨S.steps, F, .ev (bif c then b else a) n :: T⟩ else none
      | none => none)
    | [] => none)
  | .op k :: T => (match sopDo dis k S.found with
    | some F => some ⟨S.steps, F, T⟩
    | none => none)
  | .call f k :: T => (match stake k [] S.found with
    | some (args, F) => sbegin keep P ⟨f, args⟩ S.steps F T
    | none => none)
  | .fin _ _ :: T => some ⟨S.steps, S.found, T⟩
def siter (keep dis : Bool) (P : List SFn) : Nat → SSt → Option SSt
  | 0, S => some S
  | n + 1, S => (match sstep keep dis P S with
    | some S' => siter keep dis P n S'
    | none => none)
end Og
/-! OgPlain2: the symbolic twin is sound. -/
namespace Og
open PySem

def words : List Str := [Str.ofString "quote", Str.ofString "if", Str.ofString "same", Str.ofString "word", Str.ofString "head", Str.ofString "tail", Str.ofString "join", Str.ofString "yes", Str.ofString "main", Str.ofString "p", Str.ofString "xs", Str.ofString "apply", Str.ofString "f", Str.ofString "vs", Str.ofString "second", Str.ofString "l", Str.ofString "third", Str.ofString "fourth", Str.ofString "ev", Str.ofString "e", Str.ofString "ns", Str.ofString "look", Str.ofString "evlist", Str.ofString "w", Str.ofString "evs", Str.ofString "es", Str.ofString "evcall", Str.ofString "ys", Str.ofString "find", Str.ofString "x", Str.ofString "y", Str.ofString "one", Str.ofString "two", Str.ofString "down", Str.ofString "turn"]
def wd (n : Nat) : Str := match words[n]? with
  | some x => x
  | none => ⟨#[2000 + n]⟩
def firstCp (x : Str) : Nat := match x.cps[0]? with
  | some c => c
  | none => 0
theorem wd_low : ∀ n, n < 35 → firstCp (wd n) < 2000 := by decide +kernel
theorem wd_low_inj : ∀ n, n < 35 → ∀ m, m < 35 → wd n = wd m → n = m := by decide +kernel
theorem wd_high {n : Nat} (h : 35 ≤ n) : wd n = ⟨#[2000 + n]⟩ := by
  have e : words[n]? = none := List.getElem?_eq_none (by show 35 ≤ n; exact h)
  unfold wd
  rw [e]
theorem first_high {n : Nat} (h : 35 ≤ n) : firstCp (wd n) = 2000 + n := by
  rw [wd_high h]
  rfl
theorem wd_inj {n m : Nat} (h : wd n = wd m) : n = m := by
  by_cases a : n < 35
  · by_cases b : m < 35
    · exact wd_low_inj n a m b h
    · have h1 := wd_low n a
      rw [h, first_high (by omega)] at h1
      omega
  · by_cases b : m < 35
    · have h1 := wd_low m b
      rw [← h, first_high (by omega)] at h1
      omega
    · have h1 := first_high (n := n) (by omega)
      rw [h, first_high (by omega)] at h1
      omega

/-- what the atoms stand for -/
structure Itp where
  a : Nat → Val
  o : Nat → Str
  l : Nat → Val
  dis : Bool
  ha : ∀ i, (a i).dep ≤ 4
  hl : ∀ i, (l i).isW = false
  hd : dis = true → a 0 ≠ a 1
section
variable (Z : Itp)
def iv : SV → Val
  | .w n => .w (wd n)
  | .nil => .nil
  | .cons h t => .cons (iv h) (iv t)
  | .atom i => Z.a i
  | .watom i => .w (Z.o i)
  | .latom i => Z.l i
def ien (n : SEnv) : VEnv := n.map fun q => (wd q.1, iv Z q.2)
def ic (c : SCall) : Call := ⟨wd c.f, c.args.map (iv Z)⟩
def it (d : Nat) : STask → Task
  | .ev e n => .ev (iv Z e) (ien Z n)
  | .ite a b n => .ite (iv Z a) (iv Z b) (ien Z n)
  | .op k => .op (wd k)
  | .call f n => .call (wd f) n
  | .fin c k => .fin (ic Z c) (k + d)
def ifn (g : SFn) : Fn := ⟨wd g.name, g.ps.map wd, iv Z g.body⟩
def ifs (P : List SFn) : List Fn := P.map (ifn Z)
/-- a symbolic state upon what lies below -/
def lift (d : Nat) (F : List Val) (T : List Task) (S : SSt) : MSt := ⟨S.steps + d, S.found.map (iv Z) ++ F, S.todo.map (it Z d) ++ T⟩
variable {Z}
theorem iv_eqv : ∀ {a b : SV}, SV.eqv a b = true → iv Z a = iv Z b
  | .w n, b, h => by
    cases b <;> simp [SV.eqv] at h
    rw [h]
  | .nil, b, h => by cases b <;> simp [SV.eqv] at h; rfl
  | .cons x y, b, h => by
    cases b <;> simp [SV.eqv] at h
    simp only [iv]
    rw [iv_eqv h.1, iv_eqv h.2]
  | .atom i, b, h => by
    cases b <;> simp [SV.eqv] at h
    rw [h]
  | .watom i, b, h => by
    cases b <;> simp [SV.eqv] at h
    rw [h]
  | .latom i, b, h => by
    cases b <;> simp [SV.eqv] at h
    rw [h]
theorem beq_false_ne {a b : Nat} (h : Nat.beq a b = false) : a ≠ b := fun e => by
  subst e
  rw [Nat.beq_refl] at h
  cases h
theorem ne_word {i : Nat} {x : Str} : Z.l i ≠ .w x := fun h => by
  have e := Z.hl i
  rw [h] at e
  cases e
theorem iv_diff : ∀ {a b : SV}, SV.diff Z.dis a b = true → iv Z a ≠ iv Z b
  | .w n, b, h, e => by
    cases b <;> simp [SV.diff] at h <;> simp only [iv] at e
    · injection e with e
      exact beq_false_ne h (wd_inj e)
    · cases e
    · cases e
    · exact ne_word e.symm
  | .nil, b, h, e => by
    cases b <;> simp [SV.diff] at h <;> simp only [iv] at e <;> cases e
  | .cons x y, b, h, e => by
    cases b <;> simp [SV.diff] at h <;> simp only [iv] at e
    · cases e
    · cases e
    · injection e with e1 e2
      rcases h with h | h
      · exact iv_diff h e1
      · exact iv_diff h e2
    · cases e
  | .atom i, b, h, e => by
    cases b <;> simp [SV.diff] at h <;> simp only [iv] at e
    rcases h.2 with ⟨h1, h2⟩ | ⟨h1, h2⟩
    · rw [h1, h2] at e
      exact Z.hd h.1 e
    · rw [h1, h2] at e
      exact Z.hd h.1 e.symm
  | .watom i, b, h, e => by
    cases b <;> simp [SV.diff] at h <;> simp only [iv] at e
    · cases e
    · cases e
    · exact ne_word e.symm
  | .latom i, b, h, e => by
    cases b <;> simp [SV.diff] at h <;> simp only [iv] at e
    · exact ne_word e
    · exact ne_word e
theorem iv_same {a b : SV} {u : Bool} (h : SV.same Z.dis a b = some u) : decide (iv Z a = iv Z b) = u := by
  unfold SV.same at h
  cases e : SV.eqv a b with
  | true =>
    rw [e] at h
    have : u = true := (Option.some.inj h).symm
    rw [this]
    exact decide_eq_true (iv_eqv e)
  | false =>
    rw [e] at h
    cases e2 : SV.diff Z.dis a b with
    | true =>
      rw [e2] at h
      have : u = false := (Option.some.inj h).symm
      rw [this]
      exact decide_eq_false (iv_diff e2)
    | false =>
      rw [e2] at h
      cases h
theorem iv_hd {a u : SV} (h : a.hd = some u) : (iv Z a).hd = iv Z u := by
  cases a <;> simp [SV.hd] at h <;> subst h <;> rfl
theorem iv_tl {a u : SV} (h : a.tl = some u) : (iv Z a).tl = iv Z u := by
  cases a <;> simp [SV.tl] at h <;> subst h <;> rfl
theorem iv_isW {a : SV} {u : Bool} (h : a.isW = some u) : (iv Z a).isW = u := by
  cases a <;> simp [SV.isW] at h <;> subst h <;> first | rfl | exact Z.hl _
theorem iv_isNil {a : SV} {u : Bool} (h : a.isNil = some u) : decide (iv Z a = .nil) = u := by
  cases a <;> simp [SV.isNil] at h <;> subst h <;> simp [iv]
theorem iv_jn {a b u : SV} (h : a.jn b = some u) : (iv Z a).jn (iv Z b) = iv Z u := by
  cases b <;> simp [SV.jn] at h <;> subst h <;> first | rfl | skip
  rename_i i
  show (iv Z a).jn (Z.l i) = .cons (iv Z a) (Z.l i)
  have e := Z.hl i
  cases q : Z.l i with
  | w x =>
    rw [q] at e
    cases e
  | nil => rfl
  | cons _ _ => rfl
theorem iv_dep : ∀ {a : SV}, a.dep ≤ 16 → (iv Z a).dep ≤ a.dep
  | .w _, _ => Nat.le_refl _
  | .nil, _ => Nat.le_refl _
  | .cons x y, h => by
    simp only [SV.dep] at h
    have h1 := iv_dep (a := x) (by omega)
    have h2 := iv_dep (a := y) (by omega)
    simp only [SV.dep, iv, Val.dep]
    omega
  | .atom i, _ => Z.ha i
  | .watom _, _ => Nat.le_refl _
  | .latom _, h => by simp [SV.dep] at h
theorem iv_items : ∀ {a : SV} {r : List SV}, a.items = some r → (iv Z a).items = r.map (iv Z)
  | .nil, r, h => by
    simp [SV.items] at h
    subst h
    rfl
  | .cons x y, r, h => by
    unfold SV.items at h
    cases q : y.items with
    | none =>
      rw [q] at h
      cases h
    | some z =>
      rw [q] at h
      have e := Option.some.inj h
      subst e
      show iv Z x :: (iv Z y).items = _
      rw [iv_items q]
      rfl
  | .w _, _, h => by simp [SV.items] at h
  | .atom _, _, h => by simp [SV.items] at h
  | .watom _, _, h => by simp [SV.items] at h
  | .latom _, _, h => by simp [SV.items] at h
theorem wd_ne {a b : Nat} (h : Nat.beq a b = false) : wd a ≠ wd b := fun e => beq_false_ne h (wd_inj e)
theorem iv_lk : ∀ {n : SEnv} {x : Nat} {v : SV}, slk n x = some v → lk (ien Z n) (wd x) = some (iv Z v)
  | [], _, _, h => by cases h
  | (y, u) :: r, x, v, h => by
    unfold slk at h
    show (if wd y = wd x then some (iv Z u) else lk (ien Z r) (wd x)) = some (iv Z v)
    cases q : Nat.beq y x with
    | true =>
      rw [q] at h
      have e := Option.some.inj h
      rw [Nat.eq_of_beq_eq_true q, if_pos rfl, e]
    | false =>
      rw [q] at h
      rw [if_neg (wd_ne q)]
      exact iv_lk h
theorem iv_fnOf : ∀ {P : List SFn} {x : Nat} {g : SFn}, sfnOf P x = some g → fnOf (ifs Z P) (wd x) = some (ifn Z g)
  | [], _, _, h => by cases h
  | u :: r, x, g, h => by
    unfold sfnOf at h
    show (if wd u.name = wd x then some (ifn Z u) else fnOf (ifs Z r) (wd x)) = some (ifn Z g)
    cases q : Nat.beq u.name x with
    | true =>
      rw [q] at h
      have e := Option.some.inj h
      rw [Nat.eq_of_beq_eq_true q, if_pos rfl, e]
    | false =>
      rw [q] at h
      rw [if_neg (wd_ne q)]
      exact iv_fnOf h
theorem iv_zip : ∀ {ps : List Nat} {vs : List SV} {e : SEnv}, szip ps vs = some e → (ps.map wd).length = (vs.map (iv Z)).length ∧ (ps.map wd).zip (vs.map (iv Z)) = ien Z e
  | [], [], e, h => by
    have e := Option.some.inj h
    subst e
    exact ⟨rfl, rfl⟩
  | [], _ :: _, _, h => by cases h
  | _ :: _, [], _, h => by cases h
  | x :: r, v :: q, e, h => by
    unfold szip at h
    cases z : szip r q with
    | none =>
      rw [z] at h
      cases h
    | some y =>
      rw [z] at h
      have e := Option.some.inj h
      subst e
      obtain ⟨h1, h2⟩ := iv_zip z
      refine ⟨?_, ?_⟩
      · simp only [List.map_cons, List.length_cons]
        rw [h1]
      · simp only [List.map_cons, List.zip_cons_cons]
        rw [h2]
        rfl
theorem iv_take : ∀ {k : Nat} {acc F args G : List SV}, stake k acc F = some (args, G) → k ≤ F.length ∧ args = (F.take k).reverse ++ acc ∧ G = F.drop k
  | 0, acc, F, args, G, h => by
    have e := Option.some.inj h
    injection e with e1 e2
    subst e1 e2
    exact ⟨Nat.zero_le _, by simp, by simp⟩
  | _ + 1, _, [], _, _, h => by cases h
  | k + 1, acc, v :: F, args, G, h => by
    obtain ⟨h1, h2, h3⟩ := iv_take (k := k) (acc := v :: acc) h
    refine ⟨by simp only [List.length_cons]; omega, ?_, ?_⟩
    · rw [h2]
      simp
    · rw [h3]
      simp
theorem iv_opDo {k : Nat} {F G : List SV} {R : List Val} (h : sopDo Z.dis k F = some G) : opDo (wd k) (F.map (iv Z) ++ R) = some (G.map (iv Z) ++ R) := by
  have w4 : wd 4 = ("head" : Str) := by decide +kernel
  have w5 : wd 5 = ("tail" : Str) := by decide +kernel
  have w3 : wd 3 = ("word" : Str) := by decide +kernel
  have w2 : wd 2 = ("same" : Str) := by decide +kernel
  have w6 : wd 6 = ("join" : Str) := by decide +kernel
  unfold sopDo at h
  unfold opDo
  rw [← w4, ← w5, ← w3, ← w2, ← w6]
  cases c4 : Nat.beq k 4 with
  | true =>
    rw [c4] at h
    have e := Nat.eq_of_beq_eq_true c4
    subst e
    rw [if_pos rfl]
    cases F with
    | nil => cases h
    | cons v F =>
      simp only [cond_true] at h
      cases q : v.hd with
      | none =>
        rw [q] at h
        cases h
      | some u =>
        rw [q] at h
        have e := Option.some.inj h
        subst e
        show some ((iv Z v).hd :: (F.map (iv Z) ++ R)) = _
        rw [iv_hd q]
        rfl
  | false =>
    rw [c4] at h
    rw [if_neg (wd_ne c4)]
    simp only [cond_false] at h
    cases c5 : Nat.beq k 5 with
    | true =>
      rw [c5] at h
      have e := Nat.eq_of_beq_eq_true c5
      subst e
      rw [if_pos rfl]
      cases F with
      | nil => cases h
      | cons v F =>
        simp only [cond_true] at h
        cases q : v.tl with
        | none =>
          rw [q] at h
          cases h
        | some u =>
          rw [q] at h
          have e := Option.some.inj h
          subst e
          show some ((iv Z v).tl :: (F.map (iv Z) ++ R)) = _
          rw [iv_tl q]
          rfl
    | false =>
      rw [c5] at h
      rw [if_neg (wd_ne c5)]
      simp only [cond_false] at h
      cases c3 : Nat.beq k 3 with
      | true =>
        rw [c3] at h
        have e := Nat.eq_of_beq_eq_true c3
        subst e
        rw [if_pos rfl]
        cases F with
        | nil => cases h
        | cons v F =>
          simp only [cond_true] at h
          cases q : v.isW with
          | none =>
            rw [q] at h
            cases h
          | some u =>
            rw [q] at h
            have e := Option.some.inj h
            subst e
            show some (ofB (iv Z v).isW :: (F.map (iv Z) ++ R)) = _
            rw [iv_isW q]
            cases u
            · rfl
            · have w7 : wd 7 = ("yes" : Str) := by decide +kernel
              show some (Val.w ("yes" : Str) :: _) = some (Val.w (wd 7) :: _)
              rw [w7]
              rfl
      | false =>
        rw [c3] at h
        rw [if_neg (wd_ne c3)]
        simp only [cond_false] at h
        cases c2 : Nat.beq k 2 with
        | true =>
          rw [c2] at h
          have e := Nat.eq_of_beq_eq_true c2
          subst e
          rw [if_pos rfl]
          cases F with
          | nil => cases h
          | cons b F =>
            cases F with
            | nil => cases h
            | cons a F =>
              simp only [cond_true] at h
              cases d : (Nat.ble a.dep 16 && Nat.ble b.dep 16) with
              | false =>
                rw [d] at h
                cases h
              | true =>
                rw [d] at h
                obtain ⟨d1, d2⟩ := Bool.and_eq_true_iff.mp d
                have d1 := Nat.le_of_ble_eq_true d1
                have d2 := Nat.le_of_ble_eq_true d2
                simp only [cond_true] at h
                cases q : SV.same Z.dis a b with
                | none =>
                  rw [q] at h
                  cases h
                | some u =>
                  rw [q] at h
                  have e := Option.some.inj h
                  subst e
                  show (if (iv Z a).dep ≤ 16 ∧ (iv Z b).dep ≤ 16 then some (ofB (decide (iv Z a = iv Z b)) :: (F.map (iv Z) ++ R)) else none) = _
                  rw [if_pos ⟨Nat.le_trans (iv_dep d1) d1, Nat.le_trans (iv_dep d2) d2⟩, iv_same q]
                  cases u
                  · rfl
                  · have w7 : wd 7 = ("yes" : Str) := by decide +kernel
                    show some (Val.w ("yes" : Str) :: _) = some (Val.w (wd 7) :: _)
                    rw [w7]
                    rfl
        | false =>
          rw [c2] at h
          rw [if_neg (wd_ne c2)]
          simp only [cond_false] at h
          cases c6 : Nat.beq k 6 with
          | true =>
            rw [c6] at h
            have e := Nat.eq_of_beq_eq_true c6
            subst e
            rw [if_pos rfl]
            cases F with
            | nil => cases h
            | cons b F =>
              cases F with
              | nil => cases h
              | cons a F =>
                simp only [cond_true] at h
                cases q : a.jn b with
                | none =>
                  rw [q] at h
                  cases h
                | some u =>
                  rw [q] at h
                  have e := Option.some.inj h
                  subst e
                  show some ((iv Z a).jn (iv Z b) :: (F.map (iv Z) ++ R)) = _
                  rw [iv_jn q]
                  rfl
          | false =>
            rw [c6] at h
            cases h
theorem sevs_eq (n : SEnv) (tk : STask) (T : List STask) : ∀ r : List SV, sevs n tk T r = r.map (STask.ev · n) ++ tk :: T
  | [] => rfl
  | e :: r => by
    show STask.ev e n :: sevs n tk T r = _
    rw [sevs_eq n tk T r]
    rfl
theorem slen_eq : ∀ r : List SV, slen r = r.length
  | [] => rfl
  | _ :: r => by
    show slen r + 1 = _
    rw [slen_eq r]
    rfl
theorem plain_iff : ∀ k, k < 35 → 2 ≤ k → (wd k ∈ plainW ↔ k ≤ 6) := by decide +kernel
theorem plain_no {k : Nat} (h : 35 ≤ k) : ¬ wd k ∈ plainW := fun m => by
  have e : ∀ x ∈ plainW, firstCp x < 2000 := by decide +kernel
  have := e _ m
  rw [first_high h] at this
  omega
theorem iv_evDo {e : SV} {n : SEnv} {s d : Nat} {F : List SV} {T : List STask} {S : SSt} {R : List Val} {U : List Task} (h : sevDo e n s F T = some S) :
    evDo (iv Z e) (ien Z n) (s + d) (F.map (iv Z) ++ R) (T.map (it Z d) ++ U) = some (lift Z d R U S) := by
  have w0 : wd 0 = ("quote" : Str) := by decide +kernel
  have w1 : wd 1 = ("if" : Str) := by decide +kernel
  cases e with
  | w x =>
    simp only [sevDo] at h
    cases q : slk n x with
    | none =>
      rw [q] at h
      cases h
    | some v =>
      rw [q] at h
      have e := Option.some.inj h
      subst e
      simp only [iv, evDo]
      rw [iv_lk q]
      simp only [lift, List.map_cons, List.cons_append]
      rw [Nat.add_right_comm]
  | nil => cases h
  | atom i => cases h
  | watom i => cases h
  | latom i => cases h
  | cons k t =>
    cases k with
    | w k =>
      simp only [sevDo] at h
      simp only [iv, evDo]
      rw [← w0, ← w1]
      cases c0 : Nat.beq k 0 with
      | true =>
        rw [c0] at h
        have e := Nat.eq_of_beq_eq_true c0
        subst e
        rw [if_pos rfl]
        simp only [cond_true] at h
        split at h
        · have e := Option.some.inj h
          subst e
          simp only [iv, lift, List.map_cons, List.cons_append]
          rw [Nat.add_right_comm]
        · cases h
      | false =>
        rw [c0] at h
        rw [if_neg (wd_ne c0)]
        simp only [cond_false] at h
        cases c1 : Nat.beq k 1 with
        | true =>
          rw [c1] at h
          have e := Nat.eq_of_beq_eq_true c1
          subst e
          rw [if_pos rfl]
          simp only [cond_true] at h
          split at h
          · have e := Option.some.inj h
            subst e
            simp only [iv, lift, it, List.map_cons, List.cons_append]
            rw [Nat.add_right_comm]
          · cases h
        | false =>
          rw [c1] at h
          rw [if_neg (wd_ne c1)]
          simp only [cond_false] at h
          cases q : t.items with
          | none =>
            rw [q] at h
            cases h
          | some r =>
            rw [q] at h
            have ei := iv_items (Z := Z) q
            rw [ei]
            have b0 := beq_false_ne c0
            have b1 := beq_false_ne c1
            have shape : ∀ tk : STask, lift Z d R U ⟨s + 1, F, sevs n tk T r⟩ = ⟨s + d + 1, F.map (iv Z) ++ R, (r.map (iv Z)).map (Task.ev · (ien Z n)) ++ it Z d tk :: (T.map (it Z d) ++ U)⟩ := fun tk => by
              rw [sevs_eq]
              simp only [lift, List.map_append, List.map_cons, List.map_map, List.append_assoc, List.cons_append]
              rw [Nat.add_right_comm]
              rfl
            cases c13 : Nat.ble 13 (slen r) with
            | true =>
              simp only [c13, cond_true] at h
              cases h
            | false =>
            simp only [c13, cond_false] at h
            have l13 : ¬ 12 < (r.map (iv Z)).length := fun z => by
              have e : Nat.ble 13 (slen r) = true := Nat.ble_eq_true_of_le (by rw [slen_eq]; rw [List.length_map] at z; exact z)
              rw [e] at c13
              cases c13
            rw [if_neg l13]
            cases c6 : Nat.ble k 6 with
            | true =>
              simp only [c6, cond_true] at h
              have l6 := Nat.le_of_ble_eq_true c6
              have e := Option.some.inj h
              subst e
              rw [if_pos ((plain_iff k (by omega) (by omega)).mpr l6), shape]
              rfl
            | false =>
              simp only [c6, cond_false] at h
              have l6 : ¬ k ≤ 6 := fun z => by rw [Nat.ble_eq_true_of_le z] at c6; cases c6
              have np : ¬ wd k ∈ plainW := by
                by_cases z : k < 35
                · exact fun m => l6 ((plain_iff k z (by omega)).mp m)
                · exact plain_no (by omega)
              have e := Option.some.inj h
              subst e
              rw [if_neg np, shape, slen_eq]
              simp only [it, List.length_map]
    | nil => cases h
    | cons _ _ => cases h
    | atom _ => cases h
    | watom _ => cases h
    | latom _ => cases h
theorem iv_begin {keep : Bool} {P : List SFn} {c : SCall} {s d : Nat} {F : List SV} {T : List STask} {S : SSt} {R : List Val} {U : List Task} (h : sbegin keep P c s F T = some S) :
    beginAt keep (ifs Z P) (ic Z c) (s + d) (F.map (iv Z) ++ R) (T.map (it Z d) ++ U) = some (lift Z d R U S) := by
  unfold sbegin at h
  cases q : sfnOf P c.f with
  | none =>
    rw [q] at h
    cases h
  | some g =>
    rw [q] at h
    simp only at h
    cases z : szip g.ps c.args with
    | none =>
      rw [z] at h
      cases h
    | some e =>
      rw [z] at h
      have e1 := Option.some.inj h
      subst e1
      obtain ⟨h1, h2⟩ := iv_zip (Z := Z) z
      unfold beginAt
      have e2 : fnOf (ifs Z P) (ic Z c).f = some (ifn Z g) := iv_fnOf q
      rw [e2]
      show (if (g.ps.map wd).length = (c.args.map (iv Z)).length then some (⟨s + d, F.map (iv Z) ++ R, .ev (iv Z g.body) ((g.ps.map wd).zip (c.args.map (iv Z))) :: (if keep = true then .fin (ic Z c) (s + d + 1) :: (T.map (it Z d) ++ U) else (T.map (it Z d) ++ U))⟩ : MSt) else none) = _
      rw [if_pos h1, h2]
      cases keep
      · simp only [lift, it, cond_false, List.map_cons, List.cons_append, Bool.false_eq_true, if_false]
      · simp only [lift, it, cond_true, List.map_cons, List.cons_append, if_true]
        rw [Nat.add_right_comm]
theorem iv_step {keep : Bool} {P : List SFn} {S S' : SSt} {d : Nat} {R : List Val} {U : List Task} (h : sstep keep Z.dis P S = some S') : mStep keep (ifs Z P) (lift Z d R U S) = some (lift Z d R U S') := by
  obtain ⟨s, F, T⟩ := S
  cases T with
  | nil => cases h
  | cons t T =>
    cases t with
    | ev e n => exact iv_evDo h
    | ite a b n =>
      cases F with
      | nil => cases h
      | cons v F =>
        simp only [sstep] at h
        cases q : v.isNil with
        | none =>
          rw [q] at h
          cases h
        | some c =>
          rw [q] at h
          simp only at h
          cases z : Nat.ble v.dep 16 with
          | false =>
            rw [z] at h
            cases h
          | true =>
            rw [z] at h
            have dz := Nat.le_of_ble_eq_true z
            have e := Option.some.inj h
            subst e
            show (if (iv Z v).dep ≤ 16 then some (⟨s + d, F.map (iv Z) ++ R, .ev (if iv Z v = .nil then iv Z b else iv Z a) (ien Z n) :: (T.map (it Z d) ++ U)⟩ : MSt) else none) = _
            rw [if_pos (Nat.le_trans (iv_dep dz) dz)]
            have en := iv_isNil (Z := Z) q
            cases c
            · rw [if_neg (of_decide_eq_false en)]
              rfl
            · rw [if_pos (of_decide_eq_true en)]
              rfl
    | op k =>
      simp only [sstep] at h
      cases q : sopDo Z.dis k F with
      | none =>
        rw [q] at h
        cases h
      | some G =>
        rw [q] at h
        have e := Option.some.inj h
        subst e
        show (match opDo (wd k) (F.map (iv Z) ++ R) with
          | some F => some (⟨s + d, F, T.map (it Z d) ++ U⟩ : MSt)
          | none => none) = _
        rw [iv_opDo q]
        rfl
    | call f k =>
      simp only [sstep] at h
      cases q : stake k [] F with
      | none =>
        rw [q] at h
        cases h
      | some p =>
        obtain ⟨args, G⟩ := p
        rw [q] at h
        simp only at h
        obtain ⟨h1, h2, h3⟩ := iv_take q
        have b := iv_begin (Z := Z) (d := d) (R := R) (U := U) h
        show (if k ≤ (F.map (iv Z) ++ R).length then beginAt keep (ifs Z P) ⟨wd f, ((F.map (iv Z) ++ R).take k).reverse⟩ (s + d) ((F.map (iv Z) ++ R).drop k) (T.map (it Z d) ++ U) else none) = _
        have l : k ≤ (F.map (iv Z)).length := by rw [List.length_map]; exact h1
        rw [if_pos (by rw [List.length_append]; omega), List.take_append_of_le_length l, List.drop_append_of_le_length l]
        have e1 : ((F.map (iv Z)).take k).reverse = args.map (iv Z) := by
          rw [h2]
          simp [List.map_take]
        have e2 : (F.map (iv Z)).drop k = G.map (iv Z) := by
          rw [h3, List.map_drop]
        rw [e1, e2]
        exact b
    | fin c k =>
      have e := Option.some.inj h
      subst e
      rfl
theorem iv_iter {keep : Bool} {P : List SFn} {d : Nat} {R : List Val} {U : List Task} : ∀ {n : Nat} {S S' : SSt}, siter keep Z.dis P n S = some S' → mIter keep (ifs Z P) n (lift Z d R U S) = some (lift Z d R U S')
  | 0, S, S', h => by
    have e := Option.some.inj h
    subst e
    rfl
  | n + 1, S, S', h => by
    unfold siter at h
    cases q : sstep keep Z.dis P S with
    | none =>
      rw [q] at h
      cases h
    | some X =>
      rw [q] at h
      unfold mIter
      rw [iv_step q]
      exact iv_iter h
end
end Og
/-! OgPlain3: runs that go on for ever, pairs of calls, growing calls. -/
namespace Og
open PySem

def openAt (c : Call) : List Task → List Nat
  | [] => []
  | .fin c' k :: T => if c' = c then k :: openAt c T else openAt c T
  | .ev _ _ :: T => openAt c T
  | .ite _ _ _ :: T => openAt c T
  | .op _ :: T => openAt c T
  | .call _ _ :: T => openAt c T
/-- the call that is to begin -/
def beginsC (S : MSt) : Option Call := match S.todo with
  | .call f k :: _ => if k ≤ S.found.length then some ⟨f, (S.found.take k).reverse⟩ else none
  | _ => none
def pairOf (keep : Bool) (S : MSt) : Option (Nat × Nat) := match keep with
  | false => none
  | true => match beginsC S with
    | some c => (match openAt c S.todo with
      | m :: _ => some (m, S.steps + 1)
      | [] => none)
    | none => none
def isEv (S : MSt) : Bool := match S.todo with
  | .ev _ _ :: _ => true
  | _ => false
/-- the machine goes no further -/
def Stop (lim : Nat) (S : MSt) (pr : Option (Nat × Nat)) : Prop := S.todo = [] ∨ pr ≠ none ∨ (isEv S = true ∧ S.steps = lim)
/-- in n turns to its stop -/
def GoesN (keep : Bool) (P : List Fn) (lim : Nat) : Nat → MSt → Option (Nat × Nat) → MSt → Option (Nat × Nat) → Prop
  | 0, S, pr, S', pr' => Stop lim S pr ∧ S' = S ∧ pr' = pr
  | n + 1, S, pr, S', pr' => ¬ Stop lim S pr ∧ ∃ S1, mStep keep P S = some S1 ∧ GoesN keep P lim n S1 (pairOf keep S) S' pr'
def Forever (keep : Bool) (P : List Fn) (S : MSt) : Prop := ∀ n, ∃ S', mIter keep P n S = some S'
def SafeF (keep : Bool) (P : List Fn) (S : MSt) : Prop := ∀ n S', mIter keep P n S = some S' → pairOf keep S' = none
section
variable {keep : Bool} {P : List Fn}
theorem step_todo {S S' : MSt} (h : mStep keep P S = some S') : S.todo ≠ [] := fun e => by
  unfold mStep at h
  rw [e] at h
  cases h
theorem evDo_steps {e : Val} {n : VEnv} {s : Nat} {F : List Val} {T : List Task} {S : MSt} (h : evDo e n s F T = some S) : S.steps = s + 1 := by
  unfold evDo at h
  repeat' split at h
  all_goals first
    | (have e := Option.some.inj h; subst e; rfl)
    | cases h
theorem step_steps {S S' : MSt} (h : mStep keep P S = some S') : S'.steps = S.steps + (if isEv S = true then 1 else 0) := by
  obtain ⟨s, F, T⟩ := S
  cases T with
  | nil => cases h
  | cons t T =>
    cases t with
    | ev e n => exact evDo_steps h
    | ite a b n =>
      cases F with
      | nil => cases h
      | cons v F =>
        simp only [mStep] at h
        split at h
        · have e := Option.some.inj h
          subst e
          rfl
        · cases h
    | op k =>
      simp only [mStep] at h
      split at h
      · have e := Option.some.inj h
        subst e
        rfl
      · cases h
    | call f k =>
      simp only [mStep] at h
      split at h
      · unfold beginAt at h
        split at h
        · split at h
          · have e := Option.some.inj h
            subst e
            rfl
          · cases h
        · cases h
      · cases h
    | fin c k =>
      have e := Option.some.inj h
      subst e
      rfl
theorem iter_add : ∀ (n m : Nat) (S : MSt), mIter keep P (n + m) S = (match mIter keep P n S with
    | some S' => mIter keep P m S'
    | none => none)
  | 0, m, S => by rw [Nat.zero_add]; rfl
  | n + 1, m, S => by
    rw [Nat.add_right_comm]
    show (match mStep keep P S with
      | some S' => mIter keep P (n + m) S'
      | none => none) = (match (match mStep keep P S with
      | some S' => mIter keep P n S'
      | none => none) with
      | some S' => mIter keep P m S'
      | none => none)
    cases mStep keep P S with
    | none => rfl
    | some S' => exact iter_add n m S'
theorem Forever.mStep {S S' : MSt} (F : Forever keep P S) (h : mStep keep P S = some S') : Forever keep P S' := fun n => by
  obtain ⟨X, e⟩ := F (n + 1)
  unfold mIter at e
  rw [h] at e
  exact ⟨X, e⟩
theorem Forever.next {S : MSt} (F : Forever keep P S) : ∃ S', Og.mStep keep P S = some S' := by
  obtain ⟨X, e⟩ := F 1
  unfold mIter at e
  cases q : Og.mStep keep P S with
  | none =>
    rw [q] at e
    cases e
  | some S' => exact ⟨S', rfl⟩
theorem Forever.mIter {S S' : MSt} {n : Nat} (F : Forever keep P S) (h : mIter keep P n S = some S') : Forever keep P S' := fun m => by
  obtain ⟨X, e⟩ := F (n + m)
  rw [iter_add, h] at e
  exact ⟨X, e⟩
/-! ### a stop is come to -/
def wt : Task → Nat
  | .ev _ _ => 1
  | .ite _ _ _ => 2
  | .op _ => 1
  | .call _ _ => 3
  | .fin _ _ => 1
def wts : List Task → Nat
  | [] => 0
  | t :: T => wt t + wts T
theorem wts_step {S S' : MSt} (h : mStep keep P S = some S') (he : isEv S = false) : wts S'.todo < wts S.todo := by
  obtain ⟨s, F, T⟩ := S
  cases T with
  | nil => cases h
  | cons t T =>
    cases t with
    | ev e n => cases he
    | ite a b n =>
      cases F with
      | nil => cases h
      | cons v F =>
        simp only [mStep] at h
        split at h
        · have e := Option.some.inj h
          subst e
          simp only [wts, wt]
          omega
        · cases h
    | op k =>
      simp only [mStep] at h
      split at h
      · have e := Option.some.inj h
        subst e
        simp only [wts, wt]
        omega
      · cases h
    | call f k =>
      simp only [mStep] at h
      split at h
      · unfold beginAt at h
        split at h
        · split at h
          · have e := Option.some.inj h
            subst e
            cases keep
            · simp only [wts, wt, Bool.false_eq_true, if_false]
              omega
            · simp only [wts, wt, if_true]
              omega
          · cases h
        · cases h
      · cases h
    | fin c k =>
      have e := Option.some.inj h
      subst e
      simp only [wts, wt]
      omega
theorem goes_ex (lim : Nat) : ∀ (a b : Nat) (S : MSt), lim - S.steps = a → wts S.todo ≤ b → S.steps ≤ lim → Forever keep P S →
    ∃ n S' pr', GoesN keep P lim n S none S' pr' ∧ (∃ k, mIter keep P k S = some S') ∧ (pr' = none → isEv S' = true ∧ S'.steps = lim) ∧ (pr' = none ∨ ∃ k S1, mIter keep P k S = some S1 ∧ pairOf keep S1 = pr') := by
  intro a
  induction a using Nat.strongRecOn with
  | ind a iha =>
    intro b
    induction b with
    | zero =>
      intro S ha hb hl F
      obtain ⟨S', h⟩ := F.next
      have := step_todo h
      cases q : S.todo with
      | nil => exact absurd q this
      | cons t T =>
        rw [q] at hb
        cases t <;> simp only [wts, wt] at hb <;> omega
    | succ b ihb =>
      intro S ha hb hl F
      obtain ⟨S1, h⟩ := F.next
      by_cases st : isEv S = true ∧ S.steps = lim
      · exact ⟨0, S, none, ⟨.inr (.inr st), rfl, rfl⟩, ⟨0, rfl⟩, fun _ => st, .inl rfl⟩
      · have ns : ¬ Stop lim S none := fun z => by
          rcases z with z | z | z
          · exact step_todo h z
          · exact z rfl
          · exact st z
        cases hp : pairOf keep S with
        | some pr =>
          exact ⟨1, S1, some pr, ⟨ns, S1, h, by rw [hp]; exact ⟨.inr (.inl (by simp)), rfl, rfl⟩⟩, ⟨1, by unfold mIter; rw [h]; rfl⟩, fun z => (nomatch z), .inr ⟨0, S, rfl, hp⟩⟩
        | none =>
          have e1 := step_steps h
          have rr : ∃ n S' pr', GoesN keep P lim n S1 none S' pr' ∧ (∃ k, mIter keep P k S1 = some S') ∧ (pr' = none → isEv S' = true ∧ S'.steps = lim) ∧ (pr' = none ∨ ∃ k S2, mIter keep P k S1 = some S2 ∧ pairOf keep S2 = pr') := by
            cases he : isEv S with
            | true =>
              rw [he] at e1
              have hlt : S.steps < lim := Nat.lt_of_le_of_ne hl fun z => st ⟨he, z⟩
              simp only [if_true] at e1
              exact iha (lim - S1.steps) (by omega) (wts S1.todo) S1 rfl (Nat.le_refl _) (by omega) (F.mStep h)
            | false =>
              rw [he] at e1
              simp only [Bool.false_eq_true, if_false, Nat.add_zero] at e1
              have hw := wts_step h he
              exact ihb S1 (by rw [e1]; exact ha) (by omega) (by omega) (F.mStep h)
          obtain ⟨n, S', pr', g, ⟨k, hk⟩, hn, hq⟩ := rr
          refine ⟨n + 1, S', pr', ⟨ns, S1, h, by rw [hp]; exact g⟩, ⟨k + 1, ?_⟩, hn, ?_⟩
          · unfold mIter
            rw [h]
            exact hk
          · rcases hq with hq | ⟨j, S2, hj, hp2⟩
            · exact .inl hq
            · refine .inr ⟨j + 1, S2, ?_, hp2⟩
              unfold mIter
              rw [h]
              exact hj
theorem goes_tired {lim : Nat} {S : MSt} (F : Forever keep P S) (Sf : SafeF keep P S) (hl : S.steps ≤ lim) : ∃ n S', GoesN keep P lim n S none S' none ∧ isEv S' = true ∧ S'.steps = lim := by
  obtain ⟨n, S', pr', g, _, hn, hq⟩ := goes_ex lim _ _ S rfl (Nat.le_refl _) hl F
  rcases hq with hq | ⟨k, S1, hk, hp⟩
  · subst hq
    exact ⟨n, S', g, hn rfl⟩
  · rw [Sf k S1 hk] at hp
    subst hp
    exact ⟨n, S', g, hn rfl⟩
theorem safe_false {S : MSt} : SafeF false P S := fun _ _ _ => rfl
end
/-! ### the steps at which open calls began -/
def fins : List Task → List (Call × Nat)
  | [] => []
  | .fin c k :: T => (c, k) :: fins T
  | .ev _ _ :: T => fins T
  | .ite _ _ _ :: T => fins T
  | .op _ :: T => fins T
  | .call _ _ :: T => fins T
theorem fins_append : ∀ T U : List Task, fins (T ++ U) = fins T ++ fins U
  | [], _ => rfl
  | t :: T, U => by
    cases t <;> simp only [List.cons_append, fins, fins_append T U]
theorem fins_evs (n : VEnv) : ∀ l : List Val, fins (l.map (Task.ev · n)) = []
  | [] => rfl
  | _ :: l => fins_evs n l
theorem openAt_fins (c : Call) : ∀ T : List Task, openAt c T = ((fins T).filter fun q => decide (q.1 = c)).map (·.2)
  | [] => rfl
  | t :: T => by
    cases t with
    | fin c' k =>
      simp only [openAt, fins, List.filter_cons, openAt_fins c T]
      by_cases e : c' = c
      · simp [e]
      · simp [e]
    | _ => simp only [openAt, fins, openAt_fins c T]
/-- each open call began at a mStep of its own, not later than now -/
def FinsOk (m : Nat) (l : List (Call × Nat)) : Prop := (∀ q ∈ l, 1 ≤ q.2 ∧ q.2 ≤ m) ∧ l.Pairwise fun a b => b.2 < a.2
/-- a body that has just begun -/
def Fresh (S : MSt) : Prop := ∃ e n c T, S.todo = .ev e n :: .fin c (S.steps + 1) :: T ∧ FinsOk S.steps (fins T)
def J (S : MSt) : Prop := FinsOk S.steps (fins S.todo) ∨ Fresh S
theorem FinsOk.mono {m m' : Nat} {l : List (Call × Nat)} (h : FinsOk m l) (le : m ≤ m') : FinsOk m' l := ⟨fun q hq => ⟨(h.1 q hq).1, Nat.le_trans (h.1 q hq).2 le⟩, h.2⟩
theorem FinsOk.cons {m : Nat} {c : Call} {l : List (Call × Nat)} (h : FinsOk m l) : FinsOk (m + 1) ((c, m + 1) :: l) := by
  refine ⟨fun q hq => ?_, List.pairwise_cons.mpr ⟨fun q hq => Nat.lt_succ_of_le (h.1 q hq).2, h.2⟩⟩
  rcases List.mem_cons.mp hq with e | hq
  · subst e
    exact ⟨Nat.succ_le_succ (Nat.zero_le _), Nat.le_refl _⟩
  · exact ⟨(h.1 q hq).1, Nat.le_succ_of_le (h.1 q hq).2⟩
section
variable {P : List Fn}
theorem evDo_fins {e : Val} {n : VEnv} {s : Nat} {F : List Val} {T : List Task} {S : MSt} (h : evDo e n s F T = some S) : fins S.todo = fins T := by
  unfold evDo at h
  repeat' split at h
  all_goals first
    | (have e := Option.some.inj h; subst e; first | rfl | (simp only [fins_append, fins_evs, fins, List.nil_append]))
    | cases h
theorem J.mStep {S S' : MSt} (j : J S) (h : mStep true P S = some S') : J S' := by
  have es := step_steps h
  cases he : isEv S with
  | true =>
    rw [he] at es
    simp only [if_true] at es
    left
    rw [es]
    obtain ⟨s, F, T⟩ := S
    cases T with
    | nil => cases he
    | cons t T =>
      cases t with
      | ev e n =>
        have ef := evDo_fins h
        rw [ef]
        rcases j with j | ⟨e', n', c, T', q, jf⟩
        · exact j.mono (Nat.le_succ _)
        · injection q with _ q2
          rw [q2]
          exact jf.cons
      | _ => cases he
  | false =>
    rw [he] at es
    simp only [Bool.false_eq_true, if_false, Nat.add_zero] at es
    have j : FinsOk S.steps (fins S.todo) := by
      rcases j with j | ⟨e', n', c, T', q, _⟩
      · exact j
      · unfold isEv at he
        rw [q] at he
        cases he
    obtain ⟨s, F, T⟩ := S
    cases T with
    | nil => cases h
    | cons t T =>
      cases t with
      | ev e n => cases he
      | ite a b n =>
        cases F with
        | nil => cases h
        | cons v F =>
          simp only [Og.mStep] at h
          split at h
          · have e := Option.some.inj h
            subst e
            exact .inl j
          · cases h
      | op k =>
        simp only [Og.mStep] at h
        split at h
        · have e := Option.some.inj h
          subst e
          exact .inl j
        · cases h
      | call f k =>
        simp only [Og.mStep] at h
        split at h
        · unfold beginAt at h
          split at h
          · split at h
            · have e := Option.some.inj h
              subst e
              exact .inr ⟨_, _, _, T, rfl, j⟩
            · cases h
          · cases h
        · cases h
      | fin c k =>
        have e := Option.some.inj h
        subst e
        exact .inl ⟨fun q hq => j.1 q (List.mem_cons_of_mem _ hq), (List.pairwise_cons.mp j.2).2⟩
/-- what stands where a pair has been found -/
structure Found (S : MSt) (m k : Nat) : Prop where
  ex : ∃ e n c T l, S.todo = .ev e n :: .fin c k :: T ∧ openAt c T = m :: l ∧ FinsOk S.steps (fins T) ∧ k = S.steps + 1
theorem Found.lt {S : MSt} {m k : Nat} (f : Found S m k) : 1 ≤ m ∧ m < k := by
  obtain ⟨e, n, c, T, l, _, h2, h3, h4⟩ := f.ex
  rw [openAt_fins] at h2
  have hm : m ∈ ((fins T).filter fun q => decide (q.1 = c)).map (·.2) := by
    rw [h2]
    exact List.mem_cons_self
  obtain ⟨q, hq, e⟩ := List.mem_map.mp hm
  have := h3.1 q (List.mem_filter.mp hq).1
  omega
theorem pair_step {S S' : MSt} {m k : Nat} (j : J S) (h : mStep true P S = some S') (hp : pairOf true S = some (m, k)) : Found S' m k := by
  obtain ⟨s, F, T⟩ := S
  cases T with
  | nil => cases h
  | cons t T =>
    cases t with
    | call f n =>
      have j : FinsOk s (fins T) := by
        rcases j with j | ⟨e', n', c, T', q, _⟩
        · exact j
        · cases q
      simp only [pairOf, beginsC] at hp
      simp only [mStep] at h
      by_cases hn : n ≤ F.length
      · rw [if_pos hn] at hp h
        simp only at hp
        cases q : openAt ⟨f, (F.take n).reverse⟩ (Task.call f n :: T) with
        | nil =>
          rw [q] at hp
          cases hp
        | cons m' l =>
          rw [q] at hp
          have e := Option.some.inj hp
          injection e with e1 e2
          subst e1
          unfold beginAt at h
          split at h
          · split at h
            · have e := Option.some.inj h
              subst e
              exact ⟨_, _, _, T, l, by rw [← e2]; rfl, q, j, e2.symm⟩
            · cases h
          · cases h
      · rw [if_neg hn] at h
        cases h
    | _ => simp [pairOf, beginsC] at hp
theorem goes_steps {lim : Nat} : ∀ {n : Nat} {S S' : MSt} {pr pr' : Option (Nat × Nat)}, GoesN true P lim n S pr S' pr' → S.steps ≤ S'.steps
  | 0, S, S', pr, pr', h => by rw [h.2.1]; exact Nat.le_refl _
  | n + 1, S, S', pr, pr', h => by
    obtain ⟨_, S1, h1, g⟩ := h
    have := goes_steps g
    have := step_steps h1
    omega
theorem goes_found {lim : Nat} : ∀ {n : Nat} {S S' : MSt} {m k : Nat}, J S → GoesN true P lim n S none S' (some (m, k)) → Found S' m k
  | 0, S, S', m, k, j, h => by cases h.2.2
  | n + 1, S, S', m, k, j, h => by
    obtain ⟨_, S1, h1, g⟩ := h
    cases hp : pairOf true S with
    | none =>
      rw [hp] at g
      exact goes_found (j.mStep h1) g
    | some pr =>
      rw [hp] at g
      cases n with
      | zero =>
        obtain ⟨_, e1, e2⟩ := g
        subst e1
        rw [← e2] at hp
        exact pair_step j h1 hp
      | succ n => exact absurd (.inr (.inl (by simp))) g.1
/-- the same run with the least limit that lets it come there -/
theorem goes_least {lim : Nat} : ∀ {n : Nat} {S S' : MSt} {m k : Nat} {pr : Option (Nat × Nat)}, GoesN true P lim n S pr S' (some (m, k)) → GoesN true P S'.steps n S pr S' (some (m, k))
  | 0, S, S', m, k, pr, h => by
    obtain ⟨_, e1, e2⟩ := h
    exact ⟨.inr (.inl (by rw [← e2]; simp)), e1, e2⟩
  | n + 1, S, S', m, k, pr, h => by
    obtain ⟨ns, S1, h1, g⟩ := h
    refine ⟨fun z => ?_, S1, h1, goes_least g⟩
    rcases z with z | z | ⟨z1, z2⟩
    · exact ns (.inl z)
    · exact ns (.inr (.inl z))
    · have a := goes_steps g
      have b := step_steps h1
      rw [z1] at b
      simp only [if_true] at b
      omega
/-- a call that is open when it begins again is found, here or ahead -/
theorem goes_pair {lim : Nat} : ∀ {N : Nat} {S SN : MSt}, mIter true P N S = some SN → (∃ X, mStep true P SN = some X) → (pairOf true SN).isSome = true → SN.steps + 1 ≤ lim → ∃ n S' m k, GoesN true P lim n S none S' (some (m, k)) ∧ k ≤ lim
  | 0, S, SN, h, ⟨X, hX⟩, hp, hl => by
    have e := Option.some.inj h
    subst e
    obtain ⟨⟨m, k⟩, hp⟩ := Option.isSome_iff_exists.mp hp
    refine ⟨1, X, m, k, ⟨fun z => ?_, X, hX, by rw [hp]; exact ⟨.inr (.inl (by simp)), rfl, rfl⟩⟩, ?_⟩
    · rcases z with z | z | ⟨z1, z2⟩
      · exact step_todo hX z
      · exact z rfl
      · omega
    · have : k = S.steps + 1 := by
        unfold pairOf at hp
        split at hp
        · cases hp
        · split at hp
          · split at hp
            · have e := Option.some.inj hp
              injection e with _ e2
              exact e2.symm
            · cases hp
          · cases hp
      omega
  | N + 1, S, SN, h, hX, hp, hl => by
    unfold mIter at h
    cases q : mStep true P S with
    | none =>
      rw [q] at h
      cases h
    | some S1 =>
      rw [q] at h
      have mono : ∀ (N : Nat) (S S' : MSt), mIter true P N S = some S' → S.steps ≤ S'.steps := by
        intro N
        induction N with
        | zero =>
          intro S S' h
          have e := Option.some.inj h
          subst e
          exact Nat.le_refl _
        | succ N ih =>
          intro S S' h
          unfold mIter at h
          cases q : mStep true P S with
          | none =>
            rw [q] at h
            cases h
          | some S1 =>
            rw [q] at h
            have a := ih S1 S' h
            have b := step_steps q
            omega
      have m1 := mono _ _ _ h
      have es := step_steps q
      have ns : ¬ Stop lim S none := fun z => by
        rcases z with z | z | ⟨z1, z2⟩
        · exact step_todo q z
        · exact z rfl
        · rw [z1] at es
          simp only [if_true] at es
          omega
      cases pS : pairOf true S with
      | none =>
        obtain ⟨n, S', m, k, g, hk⟩ := goes_pair h hX hp hl
        exact ⟨n + 1, S', m, k, ⟨ns, S1, q, by rw [pS]; exact g⟩, hk⟩
      | some pr =>
        obtain ⟨m, k⟩ := pr
        refine ⟨1, S1, m, k, ⟨ns, S1, q, by rw [pS]; exact ⟨.inr (.inl (by simp)), rfl, rfl⟩⟩, ?_⟩
        have : k = S.steps + 1 := by
          unfold pairOf at pS
          split at pS
          · cases pS
          · split at pS
            · split at pS
              · have e := Option.some.inj pS
                injection e with _ e2
                exact e2.symm
              · cases pS
            · cases pS
        omega
/-! ### rounds -/
theorem forever_of {keep : Bool} {R : MSt → Prop} (h : ∀ S, R S → ∃ N S', mIter keep P (N + 1) S = some S' ∧ R S' ∧ ∀ j S1, j ≤ N → mIter keep P j S = some S1 → pairOf keep S1 = none) :
    ∀ (n : Nat) (S : MSt), R S → ∃ S', mIter keep P n S = some S' ∧ pairOf keep S' = none := by
  intro n
  induction n using Nat.strongRecOn with
  | ind n ih =>
    intro S r
    obtain ⟨N, S', e, r', sf⟩ := h S r
    by_cases le : n ≤ N
    · have e2 : mIter keep P (n + (N + 1 - n)) S = some S' := by
        rw [show n + (N + 1 - n) = N + 1 by omega]
        exact e
      rw [iter_add] at e2
      cases q : mIter keep P n S with
      | none =>
        rw [q] at e2
        cases e2
      | some X => exact ⟨X, rfl, sf n X le q⟩
    · obtain ⟨X, e2, p⟩ := ih (n - (N + 1)) (by omega) S' r'
      refine ⟨X, ?_, p⟩
      rw [show n = N + 1 + (n - (N + 1)) by omega, iter_add, e]
      exact e2
end
end Og
/-! OgPlain4: the programs, the closed checks and what they show. -/
namespace Og
open PySem
def listV : List Val → Val
  | [] => .nil
  | a :: r => .cons a (listV r)
def encF (g : Fn) : Val := listV [.w g.name, listV (g.ps.map .w), g.body]
def encP (P : List Fn) : Val := listV (P.map encF)
def encL : List SV → SV
  | [] => .nil
  | a :: r => .cons a (encL r)
def sencF (g : SFn) : SV := encL [.w g.name, encL (g.ps.map .w), g.body]
def senc (P : List SFn) : SV := encL (P.map sencF)
theorem iv_encL (Z : Itp) : ∀ l : List SV, iv Z (encL l) = listV (l.map (iv Z))
  | [] => rfl
  | a :: r => by
    show Val.cons (iv Z a) (iv Z (encL r)) = _
    rw [iv_encL Z r]
    rfl
theorem iv_encW (Z : Itp) : ∀ l : List Nat, iv Z (encL (l.map .w)) = listV ((l.map wd).map .w)
  | [] => rfl
  | a :: r => by
    show Val.cons (.w (wd a)) (iv Z (encL (r.map .w))) = _
    rw [iv_encW Z r]
    rfl
theorem iv_sencF (Z : Itp) (g : SFn) : iv Z (sencF g) = encF (ifn Z g) := by
  show Val.cons (.w (wd g.name)) (.cons (iv Z (encL (g.ps.map .w))) (.cons (iv Z g.body) .nil)) = _
  rw [iv_encW]
  rfl
theorem iv_senc (Z : Itp) : ∀ P : List SFn, iv Z (senc P) = encP (ifs Z P)
  | [] => rfl
  | g :: r => by
    show Val.cons (iv Z (sencF g)) (iv Z (senc r)) = .cons (encF (ifn Z g)) (encP (ifs Z r))
    rw [iv_sencF, iv_senc Z r]
def sUniv : List SFn := [⟨8, [9, 10], .cons (.w 11) (.cons (.cons (.w 4) (.cons (.w 9) (.nil))) (.cons (.w 10) (.cons (.w 9) (.nil))))⟩,
  ⟨11, [12, 13, 9], .cons (.w 18) (.cons (.cons (.w 16) (.cons (.w 12) (.nil))) (.cons (.cons (.w 14) (.cons (.w 12) (.nil))) (.cons (.w 13) (.cons (.w 9) (.nil)))))⟩,
  ⟨14, [15], .cons (.w 4) (.cons (.cons (.w 5) (.cons (.w 15) (.nil))) (.nil))⟩,
  ⟨16, [15], .cons (.w 4) (.cons (.cons (.w 5) (.cons (.cons (.w 5) (.cons (.w 15) (.nil))) (.nil))) (.nil))⟩,
  ⟨17, [15], .cons (.w 4) (.cons (.cons (.w 5) (.cons (.cons (.w 5) (.cons (.cons (.w 5) (.cons (.w 15) (.nil))) (.nil))) (.nil))) (.nil))⟩,
  ⟨18, [19, 20, 13, 9], .cons (.w 1) (.cons (.cons (.w 3) (.cons (.w 19) (.nil))) (.cons (.cons (.w 21) (.cons (.w 19) (.cons (.w 20) (.cons (.w 13) (.nil))))) (.cons (.cons (.w 22) (.cons (.cons (.w 4) (.cons (.w 19) (.nil))) (.cons (.w 19) (.cons (.w 20) (.cons (.w 13) (.cons (.w 9) (.nil))))))) (.nil))))⟩,
  ⟨21, [19, 20, 13], .cons (.w 1) (.cons (.cons (.w 2) (.cons (.w 19) (.cons (.cons (.w 4) (.cons (.w 20) (.nil))) (.nil)))) (.cons (.cons (.w 4) (.cons (.w 13) (.nil))) (.cons (.cons (.w 21) (.cons (.w 19) (.cons (.cons (.w 5) (.cons (.w 20) (.nil))) (.cons (.cons (.w 5) (.cons (.w 13) (.nil))) (.nil))))) (.nil))))⟩,
  ⟨22, [23, 19, 20, 13, 9], .cons (.w 1) (.cons (.cons (.w 2) (.cons (.w 23) (.cons (.cons (.w 0) (.cons (.w 0) (.nil))) (.nil)))) (.cons (.cons (.w 14) (.cons (.w 19) (.nil))) (.cons (.cons (.w 1) (.cons (.cons (.w 2) (.cons (.w 23) (.cons (.cons (.w 0) (.cons (.w 1) (.nil))) (.nil)))) (.cons (.cons (.w 1) (.cons (.cons (.w 18) (.cons (.cons (.w 14) (.cons (.w 19) (.nil))) (.cons (.w 20) (.cons (.w 13) (.cons (.w 9) (.nil)))))) (.cons (.cons (.w 18) (.cons (.cons (.w 16) (.cons (.w 19) (.nil))) (.cons (.w 20) (.cons (.w 13) (.cons (.w 9) (.nil)))))) (.cons (.cons (.w 18) (.cons (.cons (.w 17) (.cons (.w 19) (.nil))) (.cons (.w 20) (.cons (.w 13) (.cons (.w 9) (.nil)))))) (.nil))))) (.cons (.cons (.w 26) (.cons (.w 23) (.cons (.cons (.w 24) (.cons (.cons (.w 5) (.cons (.w 19) (.nil))) (.cons (.w 20) (.cons (.w 13) (.cons (.w 9) (.nil)))))) (.cons (.w 9) (.nil))))) (.nil))))) (.nil))))⟩,
  ⟨24, [25, 20, 13, 9], .cons (.w 1) (.cons (.w 25) (.cons (.cons (.w 6) (.cons (.cons (.w 18) (.cons (.cons (.w 4) (.cons (.w 25) (.nil))) (.cons (.w 20) (.cons (.w 13) (.cons (.w 9) (.nil)))))) (.cons (.cons (.w 24) (.cons (.cons (.w 5) (.cons (.w 25) (.nil))) (.cons (.w 20) (.cons (.w 13) (.cons (.w 9) (.nil)))))) (.nil)))) (.cons (.cons (.w 0) (.cons (.nil) (.nil))) (.nil))))⟩,
  ⟨26, [23, 27, 9], .cons (.w 1) (.cons (.cons (.w 2) (.cons (.w 23) (.cons (.cons (.w 0) (.cons (.w 2) (.nil))) (.nil)))) (.cons (.cons (.w 2) (.cons (.cons (.w 4) (.cons (.w 27) (.nil))) (.cons (.cons (.w 14) (.cons (.w 27) (.nil))) (.nil)))) (.cons (.cons (.w 1) (.cons (.cons (.w 2) (.cons (.w 23) (.cons (.cons (.w 0) (.cons (.w 3) (.nil))) (.nil)))) (.cons (.cons (.w 3) (.cons (.cons (.w 4) (.cons (.w 27) (.nil))) (.nil))) (.cons (.cons (.w 1) (.cons (.cons (.w 2) (.cons (.w 23) (.cons (.cons (.w 0) (.cons (.w 4) (.nil))) (.nil)))) (.cons (.cons (.w 4) (.cons (.cons (.w 4) (.cons (.w 27) (.nil))) (.nil))) (.cons (.cons (.w 1) (.cons (.cons (.w 2) (.cons (.w 23) (.cons (.cons (.w 0) (.cons (.w 5) (.nil))) (.nil)))) (.cons (.cons (.w 5) (.cons (.cons (.w 4) (.cons (.w 27) (.nil))) (.nil))) (.cons (.cons (.w 1) (.cons (.cons (.w 2) (.cons (.w 23) (.cons (.cons (.w 0) (.cons (.w 6) (.nil))) (.nil)))) (.cons (.cons (.w 6) (.cons (.cons (.w 4) (.cons (.w 27) (.nil))) (.cons (.cons (.w 14) (.cons (.w 27) (.nil))) (.nil)))) (.cons (.cons (.w 11) (.cons (.cons (.w 28) (.cons (.w 23) (.cons (.w 9) (.nil)))) (.cons (.w 27) (.cons (.w 9) (.nil))))) (.nil))))) (.nil))))) (.nil))))) (.nil))))) (.nil))))⟩,
  ⟨28, [23, 9], .cons (.w 1) (.cons (.cons (.w 2) (.cons (.w 23) (.cons (.cons (.w 4) (.cons (.cons (.w 4) (.cons (.w 9) (.nil))) (.nil))) (.nil)))) (.cons (.cons (.w 4) (.cons (.w 9) (.nil))) (.cons (.cons (.w 28) (.cons (.w 23) (.cons (.cons (.w 5) (.cons (.w 9) (.nil))) (.nil)))) (.nil))))⟩]
def sK0 (w : SV) : List SFn := [⟨8, [29], .cons (.w 6) (.cons (.cons (.w 0) (.cons (w) (.nil))) (.cons (.cons (.w 8) (.cons (.w 29) (.nil))) (.nil)))⟩]
def sK1 (w : SV) : List SFn := [⟨8, [29], .cons (.w 31) (.cons (.w 29) (.cons (.cons (.w 0) (.cons (w) (.nil))) (.nil)))⟩,
  ⟨31, [29, 30], .cons (.w 1) (.cons (.cons (.w 2) (.cons (.w 29) (.cons (.w 30) (.nil)))) (.cons (.cons (.w 32) (.cons (.w 30) (.cons (.w 29) (.nil)))) (.cons (.cons (.w 32) (.cons (.w 29) (.cons (.w 29) (.nil)))) (.nil))))⟩,
  ⟨32, [29, 30], .cons (.w 31) (.cons (.w 29) (.cons (.w 30) (.nil)))⟩]
def sK2 (w : SV) : List SFn := [⟨8, [29], .cons (.w 33) (.cons (.w 29) (.nil))⟩,
  ⟨33, [29], .cons (.w 1) (.cons (.w 29) (.cons (.cons (.w 33) (.cons (.cons (.w 5) (.cons (.w 29) (.nil))) (.nil))) (.cons (.cons (.w 8) (.cons (.cons (.w 0) (.cons (w) (.nil))) (.nil))) (.nil))))⟩]
def sK3 (w : SV) : List SFn := [⟨8, [29], .cons (.w 34) (.cons (.w 29) (.cons (.cons (.w 0) (.cons (w) (.nil))) (.nil)))⟩,
  ⟨34, [29, 30], .cons (.w 4) (.cons (.cons (.w 34) (.cons (.w 30) (.cons (.w 29) (.nil)))) (.nil))⟩]
def sK4 : List SFn := [⟨8, [29], .cons (.w 8) (.cons (.cons (.w 6) (.cons (.w 29) (.cons (.w 29) (.nil)))) (.nil))⟩]
/-! ### closed checks -/
def eqL : List SV → List SV → Bool
  | [], [] => true
  | a :: r, b :: q => SV.eqv a b && eqL r q
  | _, _ => false
theorem eqL_ok {Z : Itp} : ∀ {l r : List SV}, eqL l r = true → l.map (iv Z) = r.map (iv Z)
  | [], [], _ => rfl
  | [], _ :: _, h => by cases h
  | _ :: _, [], h => by cases h
  | a :: l, b :: r, h => by
    obtain ⟨h1, h2⟩ := Bool.and_eq_true_iff.mp (show (SV.eqv a b && eqL l r) = true from h)
    rw [List.map_cons, List.map_cons, iv_eqv h1, eqL_ok h2]
def opened (c : SCall) : List STask → Bool
  | [] => false
  | .fin c' _ :: T => (Nat.beq c'.f c.f && eqL c'.args c.args) || opened c T
  | _ :: T => opened c T
def again (S : SSt) : Bool := match S.todo with
  | .call f k :: T => (match stake k [] S.found with
    | some (args, _) => opened ⟨f, args⟩ T
    | none => false)
  | _ => false
/-- in N steps a call that is open begins again, not later than at the limit -/
def reach (dis : Bool) (P : List SFn) (N lim : Nat) (S : Option SSt) : Bool := match S with
  | some S => (match siter true dis P N S with
    | some S' => again S' && (Nat.ble (S'.steps + 1) lim && (sstep true dis P S').isSome)
    | none => false)
  | none => false
/-- in N steps to a call that comes again in k + 1 more -/
def lasso (dis : Bool) (P : List SFn) (N k : Nat) (S : Option SSt) : Bool := match S with
  | some S => (match siter false dis P N S with
    | some X => (match X.todo with
      | .call f n :: _ => (match stake n [] X.found with
        | some (args, _) => (match siter false dis P (k + 1) ⟨0, args.reverse, [.call f n]⟩ with
          | some Y => (match Y.todo with
            | .call f' n' :: _ => Nat.beq f' f && (Nat.beq n' n && (match stake n [] Y.found with
              | some (args', _) => eqL args' args
              | none => false))
            | _ => false)
          | none => false)
        | none => false)
      | _ => false)
    | none => false)
  | none => false
def anyDiff (dis : Bool) : List SV → List SV → Bool
  | a :: r, b :: q => SV.diff dis a b || anyDiff dis r q
  | [], [] => false
  | _, _ => true
def callDiff (dis : Bool) (a b : SCall) : Bool := !Nat.beq a.f b.f || anyDiff dis a.args b.args
def segOk (dis : Bool) (c : SCall) : List STask → Bool
  | [] => true
  | .fin c' _ :: T => callDiff dis c' c && segOk dis c T
  | _ :: T => segOk dis c T
def okHere (dis : Bool) (chk : SCall → Bool) (S : SSt) : Bool := match S.todo with
  | .call f k :: T => (match stake k [] S.found with
    | some (args, _) => segOk dis ⟨f, args⟩ T && chk ⟨f, args⟩
    | none => false)
  | [] => false
  | _ => true
def ssafe (dis : Bool) (P : List SFn) (chk : SCall → Bool) : Nat → SSt → Option SSt
  | 0, S => some S
  | n + 1, S => bif okHere dis chk S then (match sstep true dis P S with
    | some S' => ssafe dis P chk n S'
    | none => none) else none
section
variable {Z : Itp}
theorem opened_ok {c : SCall} {d : Nat} {U : List Task} : ∀ {T : List STask}, opened c T = true → openAt (ic Z c) (T.map (it Z d) ++ U) ≠ []
  | [], h => by cases h
  | t :: T, h => by
    cases t with
    | fin c' k =>
      simp only [opened] at h
      rw [List.map_cons, List.cons_append]
      show (if ic Z c' = ic Z c then (k + d) :: openAt (ic Z c) (T.map (it Z d) ++ U) else openAt (ic Z c) (T.map (it Z d) ++ U)) ≠ []
      by_cases e : ic Z c' = ic Z c
      · rw [if_pos e]
        simp
      · rw [if_neg e]
        rcases Bool.or_eq_true_iff.mp h with h | h
        · obtain ⟨h1, h2⟩ := Bool.and_eq_true_iff.mp h
          refine absurd ?_ e
          unfold ic
          rw [Nat.eq_of_beq_eq_true h1, eqL_ok h2]
        · exact opened_ok h
    | _ => exact opened_ok (T := T) h
theorem begins_lift {S : SSt} {f k d : Nat} {T : List STask} {args G : List SV} {F : List Val} {U : List Task} (h : S.todo = .call f k :: T) (q : stake k [] S.found = some (args, G)) :
    beginsC (lift Z d F U S) = some (ic Z ⟨f, args⟩) := by
  obtain ⟨s, found, todo⟩ := S
  subst h
  obtain ⟨h1, h2, h3⟩ := iv_take q
  show (if k ≤ (found.map (iv Z) ++ F).length then some (⟨wd f, ((found.map (iv Z) ++ F).take k).reverse⟩ : Call) else none) = _
  have l : k ≤ (found.map (iv Z)).length := by rw [List.length_map]; exact h1
  rw [if_pos (by rw [List.length_append]; omega), List.take_append_of_le_length l]
  have e1 : ((found.map (iv Z)).take k).reverse = args.map (iv Z) := by
    rw [h2]
    simp [List.map_take]
  rw [e1]
  rfl
theorem again_ok {S : SSt} {d : Nat} {F : List Val} {U : List Task} (h : again S = true) : (pairOf true (lift Z d F U S)).isSome = true := by
  unfold again at h
  split at h
  · rename_i f k T e
    split at h
    · rename_i args G q
      have b := begins_lift (Z := Z) (d := d) (F := F) (U := U) e q
      unfold pairOf
      simp only
      rw [b]
      simp only
      have e2 : (lift Z d F U S).todo = .call (wd f) k :: (T.map (it Z d) ++ U) := by
        unfold lift
        rw [e]
        rfl
      rw [e2]
      show (match openAt (ic Z ⟨f, args⟩) (T.map (it Z d) ++ U) with
        | m :: _ => some (m, (lift Z d F U S).steps + 1)
        | [] => none).isSome = true
      have ne := opened_ok (Z := Z) (d := d) (U := U) h
      split
      · rfl
      · rename_i e3
        exact absurd e3 ne
    · cases h
  · cases h
theorem reach_ok {P : List SFn} {N lim d : Nat} {S : SSt} {F : List Val} {U : List Task} (h : reach Z.dis P N lim (some S) = true) :
    ∃ SN, mIter true (ifs Z P) N (lift Z d F U S) = some SN ∧ (∃ X, mStep true (ifs Z P) SN = some X) ∧ (pairOf true SN).isSome = true ∧ SN.steps + 1 ≤ lim + d := by
  unfold reach at h
  simp only at h
  split at h
  · rename_i S' e
    obtain ⟨h1, h2⟩ := Bool.and_eq_true_iff.mp h
    obtain ⟨h2, h3⟩ := Bool.and_eq_true_iff.mp h2
    obtain ⟨X, hX⟩ := Option.isSome_iff_exists.mp h3
    refine ⟨_, iv_iter e, ⟨_, iv_step hX⟩, again_ok h1, ?_⟩
    have := Nat.le_of_ble_eq_true h2
    show S'.steps + d + 1 ≤ lim + d
    omega
  · cases h
theorem stake_nil {k : Nat} {F args G : List SV} (h : stake k [] F = some (args, G)) : F = args.reverse ++ G := by
  obtain ⟨h1, h2, h3⟩ := iv_take h
  rw [h2, h3, List.append_nil, List.reverse_reverse, List.take_append_drop]
theorem forever_pre {keep : Bool} {P : List Fn} {N : Nat} {S X : MSt} (h : mIter keep P N S = some X) (F : Forever keep P X) : Forever keep P S := fun n => by
  by_cases le : n ≤ N
  · have e2 : mIter keep P (n + (N - n)) S = some X := by
      rw [show n + (N - n) = N by omega]
      exact h
    rw [iter_add] at e2
    cases q : mIter keep P n S with
    | none =>
      rw [q] at e2
      cases e2
    | some Y => exact ⟨Y, rfl⟩
  · obtain ⟨Y, hY⟩ := F (n - N)
    refine ⟨Y, ?_⟩
    rw [show n = N + (n - N) by omega, iter_add, h]
    exact hY
theorem lasso_ok {P : List SFn} {N k d : Nat} {S : SSt} {F : List Val} {U : List Task} (h : lasso Z.dis P N k (some S) = true) : Forever false (ifs Z P) (lift Z d F U S) := by
  unfold lasso at h
  simp only at h
  split at h
  · rename_i X eX
    split at h
    · rename_i f n T eT
      split at h
      · rename_i args G eA
        split at h
        · rename_i Y eY
          split at h
          · rename_i f' n' T' eT'
            obtain ⟨h1, h2⟩ := Bool.and_eq_true_iff.mp h
            obtain ⟨h2, h3⟩ := Bool.and_eq_true_iff.mp h2
            split at h3
            · rename_i args' G' eA'
              refine forever_pre (iv_iter eX) ?_
              have R : ∀ (m : Nat) (S : MSt), (∃ d F U, S = ⟨d, (args.map (iv Z)).reverse ++ F, .call (wd f) n :: U⟩) → ∃ S', mIter false (ifs Z P) m S = some S' ∧ pairOf false S' = none := by
                refine forever_of (R := fun S => ∃ d F U, S = ⟨d, (args.map (iv Z)).reverse ++ F, .call (wd f) n :: U⟩) ?_
                rintro S ⟨d, F, U, rfl⟩
                have e := iv_iter (Z := Z) (d := d) (R := F) (U := U) eY
                have e0 : lift Z d F U ⟨0, args.reverse, [.call f n]⟩ = ⟨d, (args.map (iv Z)).reverse ++ F, .call (wd f) n :: U⟩ := by
                  unfold lift
                  simp only [Nat.zero_add, List.map_reverse, List.map_cons, List.map_nil, List.cons_append, List.nil_append, it]
                rw [e0] at e
                refine ⟨k, _, e, ⟨Y.steps + d, G'.map (iv Z) ++ F, T'.map (it Z d) ++ U, ?_⟩, fun _ _ _ _ => rfl⟩
                unfold lift
                rw [eT', stake_nil eA', ← Nat.eq_of_beq_eq_true h1, ← Nat.eq_of_beq_eq_true h2, ← eqL_ok h3]
                simp only [List.map_append, List.map_reverse, List.map_cons, List.cons_append, it, List.append_assoc]
              intro m
              obtain ⟨S', e, _⟩ := R m (lift Z d F U X) ⟨X.steps + d, G.map (iv Z) ++ F, T.map (it Z d) ++ U, by
                unfold lift
                rw [eT, stake_nil eA]
                simp only [List.map_append, List.map_reverse, List.map_cons, List.cons_append, it, List.append_assoc]⟩
              exact ⟨S', e⟩
            · cases h3
          · cases h
        · cases h
      · cases h
    · cases h
  · cases h
/-! ### calls that grow -/
theorem anyDiff_ok : ∀ {l r : List SV}, anyDiff Z.dis l r = true → l.map (iv Z) ≠ r.map (iv Z)
  | a :: l, b :: r, h, e => by
    rw [List.map_cons, List.map_cons] at e
    injection e with e1 e2
    rcases Bool.or_eq_true_iff.mp h with h | h
    · exact iv_diff h e1
    · exact anyDiff_ok h e2
  | [], [], h, _ => by cases h
  | [], _ :: _, _, e => by cases e
  | _ :: _, [], _, e => by cases e
theorem callDiff_ok {a b : SCall} (h : callDiff Z.dis a b = true) : ic Z a ≠ ic Z b := fun e => by
  unfold ic at e
  injection e with e1 e2
  rcases Bool.or_eq_true_iff.mp h with h | h
  · exact wd_ne (by simpa using h) e1
  · exact anyDiff_ok h e2
theorem segOk_ok {c : SCall} {d : Nat} {U : List Task} (hU : openAt (ic Z c) U = []) : ∀ {T : List STask}, segOk Z.dis c T = true → openAt (ic Z c) (T.map (it Z d) ++ U) = []
  | [], _ => hU
  | t :: T, h => by
    cases t with
    | fin c' k =>
      obtain ⟨h1, h2⟩ := Bool.and_eq_true_iff.mp (show (callDiff Z.dis c' c && segOk Z.dis c T) = true from h)
      show (if ic Z c' = ic Z c then (k + d) :: openAt (ic Z c) (T.map (it Z d) ++ U) else openAt (ic Z c) (T.map (it Z d) ++ U)) = []
      rw [if_neg (callDiff_ok h1)]
      exact segOk_ok hU h2
    | _ => exact segOk_ok hU (T := T) h
theorem okHere_ok {chk : SCall → Bool} {S : SSt} {d : Nat} {F : List Val} {U : List Task} (hU : ∀ c, chk c = true → openAt (ic Z c) U = []) (h : okHere Z.dis chk S = true) : pairOf true (lift Z d F U S) = none := by
  obtain ⟨s, found, todo⟩ := S
  cases todo with
  | nil => cases h
  | cons t T =>
    cases t with
    | call f k =>
      unfold okHere at h
      simp only at h
      split at h
      · rename_i args G q
        obtain ⟨h1, h2⟩ := Bool.and_eq_true_iff.mp h
        have b := begins_lift (Z := Z) (d := d) (F := F) (U := U) (S := ⟨s, found, .call f k :: T⟩) rfl q
        unfold pairOf
        simp only
        rw [b]
        simp only
        have e : openAt (ic Z ⟨f, args⟩) (lift Z d F U ⟨s, found, .call f k :: T⟩).todo = [] := segOk_ok (hU _ h2) h1
        rw [e]
      · cases h
    | _ => rfl
theorem ssafe_ok {P : List SFn} {chk : SCall → Bool} {d : Nat} {F : List Val} {U : List Task} (hU : ∀ c, chk c = true → openAt (ic Z c) U = []) : ∀ {n : Nat} {S S' : SSt}, ssafe Z.dis P chk n S = some S' →
    mIter true (ifs Z P) n (lift Z d F U S) = some (lift Z d F U S') ∧ ∀ j S1, j < n → mIter true (ifs Z P) j (lift Z d F U S) = some S1 → pairOf true S1 = none
  | 0, S, S', h => by
    have e := Option.some.inj h
    subst e
    exact ⟨rfl, fun j _ hj => absurd hj (Nat.not_lt_zero j)⟩
  | n + 1, S, S', h => by
    unfold ssafe at h
    cases o : okHere Z.dis chk S with
    | false =>
      rw [o] at h
      cases h
    | true =>
      rw [o] at h
      simp only [cond_true] at h
      cases q : sstep true Z.dis P S with
      | none =>
        rw [q] at h
        cases h
      | some X =>
        rw [q] at h
        obtain ⟨h1, h2⟩ := ssafe_ok hU h
        have e := iv_step (Z := Z) (d := d) (R := F) (U := U) q
        refine ⟨?_, fun j S1 hj hi => ?_⟩
        · unfold mIter
          rw [e]
          exact h1
        · cases j with
          | zero =>
            have z := Option.some.inj hi
            rw [← z]
            exact okHere_ok hU o
          | succ j =>
            unfold mIter at hi
            rw [e] at hi
            exact h2 j S1 (by omega) hi
end
/-- what grows in a call: none: it does not matter; some none: nothing; some v: v -/
structure Comp where
  s : SCall → Option (Option (Option SV))
  c : Call → Option (Option Val)
  ok : ∀ (Z : Itp) (x : SCall) (o : Option (Option SV)), s x = some o → c (ic Z x) = o.map (Option.map (iv Z))
def rank : Option Val → Nat
  | none => 0
  | some v => v.size
theorem size_pos : ∀ v : Val, 1 ≤ v.size
  | .w _ => Nat.le_refl _
  | .nil => Nat.le_refl _
  | .cons _ _ => Nat.succ_le_succ (Nat.zero_le _)
section
variable (C : Comp)
/-- a call in a round: what grows in it is the round's value, or it does not matter -/
def chkR (x : SCall) : Bool := match C.s x with
  | some none => true
  | some (some (some y)) => SV.eqv y (.latom 0)
  | _ => false
/-- a call that stays open behind the round -/
def finR : List STask → Bool
  | [] => true
  | .fin c _ :: T => (match C.s c with
    | some (some (some y)) => SV.eqv y (.latom 0)
    | _ => false) && finR T
  | _ :: T => finR T
/-- surely smaller -/
def below (z : SV) : SV → Bool
  | .cons a b => (SV.eqv z a || SV.eqv z b) || (match z with
    | .nil => true
    | .watom _ => true
    | _ => false)
  | _ => false
/-- a call that stays open ahead of the rounds -/
def finP (y : SV) : List STask → Bool
  | [] => true
  | .fin c _ :: T => (match C.s c with
    | some (some none) => true
    | some (some (some z)) => below z y
    | _ => false) && finP y T
  | _ :: T => finP y T
/-- a round: from the call f with what A says of x, to the call f with what A says of (x . x) -/
def roundOk (P : List SFn) (f k N : Nat) (A : SV → List SV) : Bool := match ssafe false P (chkR C) (N + 1) ⟨0, (A (.latom 0)).reverse, [.call f k]⟩ with
  | some S => (match S.todo with
    | .call f' k' :: T => Nat.beq f' f && (Nat.beq k' k && (eqL S.found (A (.cons (.latom 0) (.latom 0))).reverse && finR C T))
    | _ => false)
  | none => false
def prefixOk (P : List SFn) (f k N : Nat) (A : SV → List SV) (y : SV) (S : Option SSt) : Bool := match S with
  | some S => (match ssafe false P (fun _ => true) N S with
    | some S => (match S.todo with
      | .call f' k' :: T => Nat.beq f' f && (Nat.beq k' k && (eqL S.found (A y).reverse && finP C y T))
      | _ => false)
    | none => false)
  | none => false
variable {C}
/-- below the rounds -/
def Low (n : Nat) (U : List Task) : Prop := ∀ q ∈ fins U, ∃ v, C.c q.1 = some v ∧ rank v < n
theorem low_open {n : Nat} {U : List Task} (h : Low (C := C) n U) {c : Call} (hc : C.c c = none ∨ ∃ v, C.c c = some v ∧ n ≤ rank v) : openAt c U = [] := by
  rw [openAt_fins]
  have e : (fins U).filter (fun q => decide (q.1 = c)) = [] := by
    rw [List.filter_eq_nil_iff]
    intro q hq z
    have z := of_decide_eq_true z
    obtain ⟨v, h1, h2⟩ := h q hq
    rw [z] at h1
    rcases hc with hc | ⟨u, hc, h3⟩
    · rw [hc] at h1
      cases h1
    · rw [hc] at h1
      have e := Option.some.inj h1
      subst e
      omega
  rw [e]
  rfl
theorem finR_ok {Z : Itp} {d : Nat} : ∀ {T : List STask}, finR C T = true → ∀ q ∈ fins (T.map (it Z d)), C.c q.1 = some (some (Z.l 0))
  | [], _, q, hq => by cases hq
  | t :: T, h, q, hq => by
    cases t with
    | fin c k =>
      obtain ⟨h1, h2⟩ := Bool.and_eq_true_iff.mp h
      rcases List.mem_cons.mp (show q ∈ (ic Z c, k + d) :: fins (T.map (it Z d)) from hq) with e | hq
      · subst e
        split at h1
        · rename_i y e
          have z := C.ok Z c _ e
          rw [z]
          show some (some (iv Z y)) = _
          rw [iv_eqv h1]
          rfl
        · cases h1
      · exact finR_ok h2 q hq
    | _ => exact finR_ok (T := T) h q hq
theorem below_ok {Z : Itp} {z y : SV} (h : below z y = true) : (iv Z z).size < (iv Z y).size := by
  cases y with
  | cons a b =>
    show (iv Z z).size < (iv Z a).size + (iv Z b).size + 1
    simp only [below, Bool.or_eq_true] at h
    rcases h with (h | h) | h
    · rw [iv_eqv h]
      omega
    · rw [iv_eqv h]
      omega
    · have p := size_pos (iv Z a)
      cases z <;> simp at h
      · show 1 < _
        omega
      · show 1 < _
        omega
  | _ => cases h
theorem finP_ok {Z : Itp} {d : Nat} {y : SV} : ∀ {T : List STask}, finP C y T = true → ∀ q ∈ fins (T.map (it Z d)), ∃ v, C.c q.1 = some v ∧ rank v < (iv Z y).size
  | [], _, q, hq => by cases hq
  | t :: T, h, q, hq => by
    cases t with
    | fin c k =>
      obtain ⟨h1, h2⟩ := Bool.and_eq_true_iff.mp h
      rcases List.mem_cons.mp (show q ∈ (ic Z c, k + d) :: fins (T.map (it Z d)) from hq) with e | hq
      · subst e
        split at h1
        · rename_i e
          exact ⟨_, C.ok Z c _ e, size_pos _⟩
        · rename_i z e
          exact ⟨_, C.ok Z c _ e, below_ok h1⟩
        · cases h1
      · exact finP_ok h2 q hq
    | _ => exact finP_ok (T := T) h q hq
/-- the interpretation by one value that is no word, and words -/
def zL (x : Val) (h : x.isW = false) (o : Str) : Itp := ⟨fun _ => .nil, fun _ => o, fun _ => x, false, fun _ => by decide, fun _ => h, fun z => by cases z⟩
theorem rounds {P : List SFn} {Q : List Fn} {f k N : Nat} {A : SV → List SV} {B : Val → List Val} (hQ : ∀ Z, ifs Z P = Q) (hA : ∀ Z y, (A y).map (iv Z) = B (iv Z y)) (h : roundOk C P f k N A = true) :
    ∀ (n : Nat) (S : MSt), (∃ x d U, x.isW = false ∧ S = ⟨d, (B x).reverse, .call (wd f) k :: U⟩ ∧ Low (C := C) x.size U) → ∃ S', mIter true Q n S = some S' ∧ pairOf true S' = none := by
  refine forever_of (R := fun S => ∃ x d U, x.isW = false ∧ S = ⟨d, (B x).reverse, .call (wd f) k :: U⟩ ∧ Low (C := C) x.size U) ?_
  rintro S ⟨x, d, U, hx, rfl, low⟩
  have Z0 : Itp := zL x hx (wd 0)
  let Z : Itp := zL x hx (wd 0)
  unfold roundOk at h
  split at h
  · rename_i S' e
    split at h
    · rename_i f' k' T eT
      obtain ⟨h1, h2⟩ := Bool.and_eq_true_iff.mp h
      obtain ⟨h2, h3⟩ := Bool.and_eq_true_iff.mp h2
      obtain ⟨h3, h4⟩ := Bool.and_eq_true_iff.mp h3
      have hU : ∀ c, chkR C c = true → openAt (ic Z c) U = [] := fun c hc => by
        refine low_open low ?_
        unfold chkR at hc
        split at hc
        · rename_i e
          exact .inl (C.ok Z c _ e)
        · rename_i y e
          refine .inr ⟨_, C.ok Z c _ e, ?_⟩
          show x.size ≤ (iv Z y).size
          rw [iv_eqv hc]
          exact Nat.le_refl _
        · cases hc
      obtain ⟨s1, s2⟩ := ssafe_ok (Z := Z) (d := d) (F := []) (U := U) hU e
      have e0 : lift Z d [] U ⟨0, (A (.latom 0)).reverse, [.call f k]⟩ = ⟨d, (B x).reverse, .call (wd f) k :: U⟩ := by
        unfold lift
        simp only [Nat.zero_add, List.map_reverse, List.append_nil, List.map_cons, List.map_nil, List.cons_append, List.nil_append, it]
        rw [hA Z (.latom 0)]
        rfl
      rw [e0, hQ] at s1 s2
      refine ⟨N, _, s1, ⟨.cons x x, S'.steps + d, T.map (it Z d) ++ U, rfl, ?_, ?_⟩, fun j S1 hj hi => s2 j S1 (by omega) hi⟩
      · unfold lift
        rw [eT, eqL_ok (Z := Z) h3]
        simp only [List.map_reverse, List.append_nil, List.map_cons, List.cons_append, it]
        rw [hA Z (.cons (.latom 0) (.latom 0)), Nat.eq_of_beq_eq_true h1, Nat.eq_of_beq_eq_true h2]
        rfl
      · intro q hq
        rw [fins_append] at hq
        have lt : x.size < (Val.cons x x).size := by
          show x.size < x.size + x.size + 1
          omega
        rcases List.mem_append.mp hq with hq | hq
        · exact ⟨_, finR_ok h4 q hq, lt⟩
        · obtain ⟨v, a, b⟩ := low q hq
          exact ⟨v, a, Nat.lt_trans b lt⟩
    · cases h
  · cases h
theorem grows {P : List SFn} {Q : List Fn} {f k N M : Nat} {A : SV → List SV} {B : Val → List Val} {Z : Itp} {y : SV} {S : SSt} (hQ : ∀ Z, ifs Z P = Q) (hA : ∀ Z y, (A y).map (iv Z) = B (iv Z y)) (hz : Z.dis = false) (hy : (iv Z y).isW = false) (h : roundOk C P f k N A = true)
    (hp : prefixOk C P f k M A y (some S) = true) : Forever true Q (lift Z 0 [] [] S) ∧ SafeF true Q (lift Z 0 [] [] S) := by
  unfold prefixOk at hp
  simp only at hp
  split at hp
  · rename_i S' e
    split at hp
    · rename_i f' k' T eT
      obtain ⟨h1, h2⟩ := Bool.and_eq_true_iff.mp hp
      obtain ⟨h2, h3⟩ := Bool.and_eq_true_iff.mp h2
      obtain ⟨h3, h4⟩ := Bool.and_eq_true_iff.mp h3
      rw [← hz] at e
      obtain ⟨s1, s2⟩ := ssafe_ok (Z := Z) (d := 0) (F := []) (U := []) (chk := fun _ => true) (fun _ _ => rfl) e
      rw [hQ] at s1 s2
      have r := rounds (C := C) hQ hA h
      have eS : lift Z 0 [] [] S' = ⟨S'.steps + 0, (B (iv Z y)).reverse, .call (wd f) k :: T.map (it Z 0)⟩ := by
        unfold lift
        rw [eT, eqL_ok (Z := Z) h3]
        simp only [List.map_reverse, List.append_nil, List.map_cons, it]
        rw [hA Z y, Nat.eq_of_beq_eq_true h1, Nat.eq_of_beq_eq_true h2]
      have low : Low (C := C) (iv Z y).size (T.map (it Z 0)) := fun q hq => by
        obtain ⟨v, a, b⟩ := finP_ok h4 q hq
        exact ⟨v, a, b⟩
      have r2 := fun n => r n (lift Z 0 [] [] S') ⟨iv Z y, _, _, hy, eS, low⟩
      have both : ∀ n, ∃ X, mIter true Q n (lift Z 0 [] [] S) = some X ∧ pairOf true X = none := fun n => by
        by_cases le : n < M
        · have e2 : mIter true Q (n + (M - n)) (lift Z 0 [] [] S) = some (lift Z 0 [] [] S') := by
            rw [show n + (M - n) = M by omega]
            exact s1
          rw [iter_add] at e2
          cases q : mIter true Q n (lift Z 0 [] [] S) with
          | none =>
            rw [q] at e2
            cases e2
          | some X => exact ⟨X, rfl, s2 n X le q⟩
        · obtain ⟨X, hX, p⟩ := r2 (n - M)
          refine ⟨X, ?_, p⟩
          rw [show n = M + (n - M) by omega, iter_add, s1]
          exact hX
      refine ⟨fun n => ?_, fun n X hX => ?_⟩
      · obtain ⟨X, hX, _⟩ := both n
        exact ⟨X, hX⟩
      · obtain ⟨X', hX', p⟩ := both n
        rw [hX] at hX'
        have z := Option.some.inj hX'
        rw [z]
        exact p
    · cases hp
  · cases hp
end
end Og
/-! OgPlain5: what the runs of the law's programs come to. -/
namespace Og
open PySem
def lw (x : Str) : Val := .w x
def K0 (w : Val) : List Fn := [⟨"main", ["x"], listV [lw "join", listV [lw "quote", w], listV [lw "main", lw "x"]]⟩]
def K1 (w : Val) : List Fn := [⟨"main", ["x"], listV [lw "one", lw "x", listV [lw "quote", w]]⟩,
  ⟨"one", ["x", "y"], listV [lw "if", listV [lw "same", lw "x", lw "y"], listV [lw "two", lw "y", lw "x"], listV [lw "two", lw "x", lw "x"]]⟩,
  ⟨"two", ["x", "y"], listV [lw "one", lw "x", lw "y"]⟩]
def K2 (w : Val) : List Fn := [⟨"main", ["x"], listV [lw "down", lw "x"]⟩,
  ⟨"down", ["x"], listV [lw "if", lw "x", listV [lw "down", listV [lw "tail", lw "x"]], listV [lw "main", listV [lw "quote", w]]]⟩]
def K3 (w : Val) : List Fn := [⟨"main", ["x"], listV [lw "turn", lw "x", listV [lw "quote", w]]⟩,
  ⟨"turn", ["x", "y"], listV [lw "head", listV [lw "turn", lw "y", lw "x"]]⟩]
def K4 : List Fn := [⟨"main", ["x"], listV [lw "main", listV [lw "join", lw "x", lw "x"]]⟩]
/-- words alone -/
def zN : Itp := ⟨fun _ => .nil, fun _ => Str.empty, fun _ => .nil, false, fun _ => by decide, fun _ => rfl, fun z => by cases z⟩
def UNI : List Fn := ifs zN sUniv
theorem uni_of (Z : Itp) : ifs Z sUniv = UNI := rfl
theorem k0_of (Z : Itp) (w : SV) : ifs Z (sK0 w) = K0 (iv Z w) := rfl
theorem k1_of (Z : Itp) (w : SV) : ifs Z (sK1 w) = K1 (iv Z w) := rfl
theorem k2_of (Z : Itp) (w : SV) : ifs Z (sK2 w) = K2 (iv Z w) := rfl
theorem k3_of (Z : Itp) (w : SV) : ifs Z (sK3 w) = K3 (iv Z w) := rfl
theorem k4_of (Z : Itp) : ifs Z sK4 = K4 := rfl
def mStart (keep : Bool) (P : List Fn) (args : List Val) : Option MSt := beginAt keep P ⟨"main", args⟩ 0 [] []
def sst (keep : Bool) (P : List SFn) (args : List SV) : Option SSt := sbegin keep P ⟨8, args⟩ 0 [] []
theorem start_of {keep : Bool} {Z : Itp} {P : List SFn} {args : List SV} {S : SSt} (h : sst keep P args = some S) : mStart keep (ifs Z P) (args.map (iv Z)) = some (lift Z 0 [] [] S) := iv_begin (Z := Z) (d := 0) (R := []) (U := []) h
/-- the call that is open begins again, not later than at the limit -/
def Again (P : List Fn) (args : List Val) (lim : Nat) : Prop := ∃ S N SN, mStart true P args = some S ∧ mIter true P N S = some SN ∧ (∃ X, mStep true P SN = some X) ∧ (pairOf true SN).isSome = true ∧ SN.steps + 1 ≤ lim
def Endless (keep : Bool) (P : List Fn) (args : List Val) : Prop := ∃ S, mStart keep P args = some S ∧ Forever keep P S
def Grows (P : List Fn) (args : List Val) : Prop := ∃ S, mStart true P args = some S ∧ Forever true P S ∧ SafeF true P S
theorem again_of {Z : Itp} {P : List SFn} {Q : List Fn} {args : List SV} {vs : List Val} {N lim : Nat} (h : reach Z.dis P N lim (sst true P args) = true) (hQ : ifs Z P = Q) (hv : args.map (iv Z) = vs) : Again Q vs lim := by
  subst hQ hv
  cases e : sst true P args with
  | none =>
    rw [e] at h
    cases h
  | some S =>
    rw [e] at h
    obtain ⟨SN, h1, h2, h3, h4⟩ := reach_ok (Z := Z) (d := 0) (F := []) (U := []) h
    exact ⟨_, N, SN, start_of e, h1, h2, h3, h4⟩
theorem endless_of {Z : Itp} {P : List SFn} {Q : List Fn} {args : List SV} {vs : List Val} {N k : Nat} (h : lasso Z.dis P N k (sst false P args) = true) (hQ : ifs Z P = Q) (hv : args.map (iv Z) = vs) : Endless false Q vs := by
  subst hQ hv
  cases e : sst false P args with
  | none =>
    rw [e] at h
    cases h
  | some S =>
    rw [e] at h
    exact ⟨_, start_of e, lasso_ok (Z := Z) h⟩
theorem grows_of {C : Comp} {Z : Itp} {P : List SFn} {Q : List Fn} {args : List SV} {vs : List Val} {f k N M : Nat} {A : SV → List SV} {B : Val → List Val} {y : SV} (hQ : ∀ Z, ifs Z P = Q) (hA : ∀ Z y, (A y).map (iv Z) = B (iv Z y)) (hz : Z.dis = false) (hy : (iv Z y).isW = false)
    (h : roundOk C P f k N A = true) (hp : prefixOk C P f k M A y (sst true P args) = true) (hv : args.map (iv Z) = vs) : Grows Q vs := by
  subst hv
  cases e : sst true P args with
  | none =>
    rw [e] at hp
    cases hp
  | some S =>
    rw [e] at hp
    have s := start_of (Z := Z) e
    rw [hQ] at s
    exact ⟨_, s, grows hQ hA hz hy h hp⟩
/-- what the law asks of a program and an input -/
structure Res (P : List Fn) (g : Bool) (v : Val) : Prop where
  run : Endless false P [v]
  no : g = false → Again P [v] 200 ∧ Again UNI [encP P, .cons v .nil] 8000
  yes : g = true → Grows P [v] ∧ Grows UNI [encP P, .cons v .nil]
def Sm (v : Val) : Prop := v.dep ≤ 4 ∧ ((∃ o, v = .w o) ∨ ∃ l, v = listV l ∧ l.length ≤ 3)
/-- two values by two atoms -/
def z2 (v w : Val) (hv : v.dep ≤ 4) (hw : w.dep ≤ 4) (d : Bool) (hd : d = true → v ≠ w) : Itp :=
  ⟨fun i => bif Nat.beq i 0 then v else w, fun _ => Str.empty, fun _ => .nil, d, fun i => by
    cases i
    · exact hv
    · exact hw, fun _ => rfl, hd⟩
theorem c0l : lasso false (sK0 (.atom 1)) 4 4 (sst false (sK0 (.atom 1)) [.atom 0]) = true := by decide +kernel
theorem c0r : reach false (sK0 (.atom 1)) 4 200 (sst true (sK0 (.atom 1)) [.atom 0]) = true := by decide +kernel
theorem c0u : reach false sUniv 269 8000 (sst true sUniv [senc (sK0 (.atom 1)), .cons (.atom 0) .nil]) = true := by decide +kernel
theorem c1el : lasso false (sK1 (.atom 0)) 3 13 (sst false (sK1 (.atom 0)) [.atom 0]) = true := by decide +kernel
theorem c1er : reach false (sK1 (.atom 0)) 17 200 (sst true (sK1 (.atom 0)) [.atom 0]) = true := by decide +kernel
theorem c1eu : reach false sUniv 908 8000 (sst true sUniv [senc (sK1 (.atom 0)), .cons (.atom 0) .nil]) = true := by decide +kernel
theorem c1dl : lasso true (sK1 (.atom 1)) 13 13 (sst false (sK1 (.atom 1)) [.atom 0]) = true := by decide +kernel
theorem c1dr : reach true (sK1 (.atom 1)) 27 200 (sst true (sK1 (.atom 1)) [.atom 0]) = true := by decide +kernel
theorem c1du : reach true sUniv 1368 8000 (sst true sUniv [senc (sK1 (.atom 1)), .cons (.atom 0) .nil]) = true := by decide +kernel
theorem c3l : lasso false (sK3 (.atom 1)) 3 9 (sst false (sK3 (.atom 1)) [.atom 0]) = true := by decide +kernel
theorem c3r : reach false (sK3 (.atom 1)) 13 200 (sst true (sK3 (.atom 1)) [.atom 0]) = true := by decide +kernel
theorem c3u : reach false sUniv 755 8000 (sst true sUniv [senc (sK3 (.atom 1)), .cons (.atom 0) .nil]) = true := by decide +kernel
theorem res0 {v w : Val} (hv : Sm v) (hw : Sm w) : Res (K0 w) false v :=
  let Z := z2 v w hv.1 hw.1 false fun z => by cases z
  ⟨endless_of (Z := Z) (P := sK0 (.atom 1)) (args := [.atom 0]) (by exact c0l) rfl rfl, fun _ => ⟨again_of (Z := Z) (P := sK0 (.atom 1)) (args := [.atom 0]) (by exact c0r) rfl rfl,
    again_of (Z := Z) (P := sUniv) (args := [senc (sK0 (.atom 1)), .cons (.atom 0) .nil]) (by exact c0u) rfl (by rw [List.map_cons, iv_senc]; rfl)⟩, fun z => by cases z⟩
theorem res1 {v w : Val} (hv : Sm v) (hw : Sm w) : Res (K1 w) false v := by
  by_cases e : v = w
  · subst e
    let Z := z2 v v hv.1 hv.1 false fun z => by cases z
    exact ⟨endless_of (Z := Z) (P := sK1 (.atom 0)) (args := [.atom 0]) (by exact c1el) rfl rfl, fun _ => ⟨again_of (Z := Z) (P := sK1 (.atom 0)) (args := [.atom 0]) (by exact c1er) rfl rfl,
    again_of (Z := Z) (P := sUniv) (args := [senc (sK1 (.atom 0)), .cons (.atom 0) .nil]) (by exact c1eu) rfl (by rw [List.map_cons, iv_senc]; rfl)⟩, fun z => by cases z⟩
  · let Z := z2 v w hv.1 hw.1 true fun _ => e
    exact ⟨endless_of (Z := Z) (P := sK1 (.atom 1)) (args := [.atom 0]) (by exact c1dl) rfl rfl, fun _ => ⟨again_of (Z := Z) (P := sK1 (.atom 1)) (args := [.atom 0]) (by exact c1dr) rfl rfl,
    again_of (Z := Z) (P := sUniv) (args := [senc (sK1 (.atom 1)), .cons (.atom 0) .nil]) (by exact c1du) rfl (by rw [List.map_cons, iv_senc]; rfl)⟩, fun z => by cases z⟩
theorem res3 {v w : Val} (hv : Sm v) (hw : Sm w) : Res (K3 w) false v :=
  let Z := z2 v w hv.1 hw.1 false fun z => by cases z
  ⟨endless_of (Z := Z) (P := sK3 (.atom 1)) (args := [.atom 0]) (by exact c3l) rfl rfl, fun _ => ⟨again_of (Z := Z) (P := sK3 (.atom 1)) (args := [.atom 0]) (by exact c3r) rfl rfl,
    again_of (Z := Z) (P := sUniv) (args := [senc (sK3 (.atom 1)), .cons (.atom 0) .nil]) (by exact c3u) rfl (by rw [List.map_cons, iv_senc]; rfl)⟩, fun z => by cases z⟩
/-! ### along a list -/
def nth (l : List Val) (i : Nat) : Val := l.getD i .nil
def zz (o : Str) (l : List Val) (p : Str) (r : List Val) (hl : ∀ x ∈ l, x.dep ≤ 4) (hr : ∀ x ∈ r, x.dep ≤ 4) : Itp :=
  ⟨fun i => bif Nat.ble i 2 then nth l i else nth r (i - 3), fun i => bif Nat.beq i 0 then o else p, fun _ => .nil, false, fun i => by
    have h : ∀ (l : List Val) (i : Nat), (∀ x ∈ l, x.dep ≤ 4) → (nth l i).dep ≤ 4 := fun l i h => by
      unfold nth
      rw [List.getD_eq_getElem?_getD]
      cases e : l[i]? with
      | none => decide
      | some x => exact h x (List.mem_of_getElem? e)
    cases Nat.ble i 2
    · exact h _ _ hr
    · exact h _ _ hl, fun _ => rfl, fun z => by cases z⟩
def sl (b : Nat) : Nat → List SV
  | 0 => []
  | 1 => [.atom b]
  | 2 => [.atom b, .atom (b + 1)]
  | _ => [.atom b, .atom (b + 1), .atom (b + 2)]
/-- the shapes: a word, a list of none to three -/
def shape (b o : Nat) : Nat → SV
  | 0 => .watom o
  | n + 1 => encL (sl b n)
def tD : List (List Nat) := [[27, 19, 27, 35, 43], [19, 8, 19, 27, 35], [27, 19, 27, 35, 43], [35, 27, 35, 43, 51], [43, 35, 43, 51, 59]]
def tU : List (List Nat) := [[1272, 913, 1272, 1631, 1990], [913, 442, 913, 1272, 1631], [1272, 913, 1272, 1631, 1990], [1631, 1272, 1631, 1990, 2349], [1990, 1631, 1990, 2349, 2708]]
def tat (t : List (List Nat)) (a b : Nat) : Nat := (t.getD a []).getD b 0
def tN : List Nat := [10, 2, 10, 18, 26]
def tK : List Nat := [16, 8, 16, 24, 32]
def dn (b : Nat) : List SFn := sK2 (shape 3 1 b)
theorem c2l : ∀ a, a < 5 → ∀ b, b < 5 → lasso false (dn b) (tN.getD a 0) (tK.getD b 0) (sst false (dn b) [shape 0 0 a]) = true := by decide +kernel
theorem c2r : ∀ a, a < 5 → ∀ b, b < 5 → reach false (dn b) (tat tD a b) 200 (sst true (dn b) [shape 0 0 a]) = true := by decide +kernel
theorem c2u : ∀ a, a < 5 → ∀ b, b < 5 → reach false sUniv (tat tU a b) 8000 (sst true sUniv [senc (dn b), .cons (shape 0 0 a) .nil]) = true := by decide +kernel
/-- a small value is one of the shapes -/
theorem shape_of {v w : Val} (hv : Sm v) (hw : Sm w) : ∃ Z : Itp, Z.dis = false ∧ (∃ a, a < 5 ∧ iv Z (shape 0 0 a) = v) ∧ ∃ b, b < 5 ∧ iv Z (shape 3 1 b) = w := by
  have items : ∀ {l : List Val}, (listV l).dep ≤ 4 → ∀ x ∈ l, x.dep ≤ 4 := by
    intro l
    induction l with
    | nil => intro _ x hx; cases hx
    | cons a r ih =>
      intro h x hx
      have h : max (a.dep + 1) (listV r).dep ≤ 4 := h
      rcases List.mem_cons.mp hx with e | hx
      · subst e
        omega
      · exact ih (by omega) x hx
  obtain ⟨o, l, hl, el⟩ : ∃ (o : Str) (l : List Val), (∀ x ∈ l, x.dep ≤ 4) ∧ (v = .w o ∨ (v = listV l ∧ l.length ≤ 3)) := by
    obtain ⟨hd, ⟨o, e⟩ | ⟨l, e, hn⟩⟩ := hv
    · exact ⟨o, [], (fun x hx => nomatch hx), .inl e⟩
    · exact ⟨Str.empty, l, items (e ▸ hd), .inr ⟨e, hn⟩⟩
  obtain ⟨p, r, hr, er⟩ : ∃ (o : Str) (l : List Val), (∀ x ∈ l, x.dep ≤ 4) ∧ (w = .w o ∨ (w = listV l ∧ l.length ≤ 3)) := by
    obtain ⟨hd, ⟨o, e⟩ | ⟨l, e, hn⟩⟩ := hw
    · exact ⟨o, [], (fun x hx => nomatch hx), .inl e⟩
    · exact ⟨Str.empty, l, items (e ▸ hd), .inr ⟨e, hn⟩⟩
  refine ⟨zz o l p r hl hr, rfl, ?_, ?_⟩
  · rcases el with e | ⟨e, hn⟩
    · exact ⟨0, by decide, e.symm⟩
    · subst e
      match l, hn with
      | [], _ => exact ⟨1, by decide, rfl⟩
      | [a], _ => exact ⟨2, by decide, rfl⟩
      | [a, b], _ => exact ⟨3, by decide, rfl⟩
      | [a, b, c], _ => exact ⟨4, by decide, rfl⟩
      | _ :: _ :: _ :: _ :: _, h => simp at h
  · rcases er with e | ⟨e, hn⟩
    · exact ⟨0, by decide, e.symm⟩
    · subst e
      match r, hn with
      | [], _ => exact ⟨1, by decide, rfl⟩
      | [a], _ => exact ⟨2, by decide, rfl⟩
      | [a, b], _ => exact ⟨3, by decide, rfl⟩
      | [a, b, c], _ => exact ⟨4, by decide, rfl⟩
      | _ :: _ :: _ :: _ :: _, h => simp at h
theorem res2 {v w : Val} (hv : Sm v) (hw : Sm w) : Res (K2 w) false v := by
  obtain ⟨Z, hz, ⟨a, ha, ea⟩, ⟨b, hb, eb⟩⟩ := shape_of hv hw
  have hQ : ifs Z (dn b) = K2 w := by
    rw [← eb]
    rfl
  refine ⟨endless_of (Z := Z) (P := dn b) (args := [shape 0 0 a]) (by rw [hz]; exact c2l a ha b hb) hQ (by rw [List.map_cons, ea]; rfl), fun _ => ⟨again_of (Z := Z) (P := dn b) (args := [shape 0 0 a]) (by rw [hz]; exact c2r a ha b hb) hQ (by rw [List.map_cons, ea]; rfl),
    again_of (Z := Z) (P := sUniv) (args := [senc (dn b), .cons (shape 0 0 a) .nil]) (by rw [hz]; exact c2u a ha b hb) rfl ?_⟩, fun z => by cases z⟩
  show [iv Z (senc (dn b)), Val.cons (iv Z (shape 0 0 a)) .nil] = _
  rw [iv_senc, hQ, ea]
/-! ### what grows -/
def comp1 : Comp := ⟨fun x => match x.args with
  | y :: _ => some (some (some y))
  | [] => none, fun c => match c.args with
  | y :: _ => some (some y)
  | [] => none, fun Z x o h => by
    obtain ⟨f, args⟩ := x
    cases args with
    | nil => cases h
    | cons y r =>
      have e := Option.some.inj h
      subst e
      rfl⟩
/-- the argument at a place, its first item -/
def hdAt (l : List Val) (i : Nat) : Option (Option Val) := match l[i]? with
  | some (.cons y _) => some (some y)
  | _ => none
def shdAt (l : List SV) (i : Nat) : Option (Option (Option SV)) := match l[i]? with
  | some (.cons y _) => some (some (some y))
  | _ => none
def cU (c : Call) : Option (Option Val) :=
  if c.f = wd 11 then hdAt c.args 1
  else if c.f = wd 18 then hdAt c.args 2
  else if c.f = wd 22 then hdAt c.args 3
  else if c.f = wd 26 then (if c.args[0]? = some (.w (wd 8)) then (match (c.args[1]? : Option Val) with
    | some (.cons (.cons _ t) _) => some (some t)
    | _ => none) else none)
  else if c.f = wd 8 then some none
  else none
def sU (c : SCall) : Option (Option (Option SV)) :=
  bif Nat.beq c.f 11 then shdAt c.args 1
  else bif Nat.beq c.f 18 then shdAt c.args 2
  else bif Nat.beq c.f 22 then shdAt c.args 3
  else bif Nat.beq c.f 26 then (match (c.args[0]? : Option SV) with
    | some (.w m) => bif Nat.beq m 8 then (match (c.args[1]? : Option SV) with
      | some (.cons (.cons _ t) _) => some (some (some t))
      | _ => none) else some none
    | _ => none)
  else bif Nat.beq c.f 8 then some (some none)
  else some none
theorem hdAt_of {Z : Itp} {l : List SV} {i : Nat} {o : Option (Option SV)} (h : shdAt l i = some o) : hdAt (l.map (iv Z)) i = o.map (Option.map (iv Z)) := by
  unfold shdAt at h
  unfold hdAt
  rw [List.getElem?_map]
  split at h
  · rename_i y t e
    have e2 := Option.some.inj h
    subst e2
    rw [e]
    rfl
  · cases h
theorem cU_of (Z : Itp) (x : SCall) (o : Option (Option SV)) (h : sU x = some o) : cU (ic Z x) = o.map (Option.map (iv Z)) := by
  unfold sU at h
  unfold cU
  show (if wd x.f = wd 11 then hdAt (x.args.map (iv Z)) 1
  else if wd x.f = wd 18 then hdAt (x.args.map (iv Z)) 2
  else if wd x.f = wd 22 then hdAt (x.args.map (iv Z)) 3
  else if wd x.f = wd 26 then (if (x.args.map (iv Z))[0]? = some (.w (wd 8)) then (match ((x.args.map (iv Z))[1]? : Option Val) with
    | some (.cons (.cons _ t) _) => some (some t)
    | _ => none) else none)
  else if wd x.f = wd 8 then some none
  else none) = _
  cases a : Nat.beq x.f 11 with
  | true =>
    rw [a] at h
    rw [if_pos (congrArg wd (Nat.eq_of_beq_eq_true a))]
    exact hdAt_of h
  | false =>
    rw [a] at h
    rw [if_neg (wd_ne a)]
    simp only [cond_false] at h
    cases b : Nat.beq x.f 18 with
    | true =>
      rw [b] at h
      rw [if_pos (congrArg wd (Nat.eq_of_beq_eq_true b))]
      exact hdAt_of h
    | false =>
      rw [b] at h
      rw [if_neg (wd_ne b)]
      simp only [cond_false] at h
      cases c : Nat.beq x.f 22 with
      | true =>
        rw [c] at h
        rw [if_pos (congrArg wd (Nat.eq_of_beq_eq_true c))]
        exact hdAt_of h
      | false =>
        rw [c] at h
        rw [if_neg (wd_ne c)]
        simp only [cond_false] at h
        cases d : Nat.beq x.f 26 with
        | true =>
          rw [d] at h
          rw [if_pos (congrArg wd (Nat.eq_of_beq_eq_true d))]
          simp only [cond_true] at h
          rw [List.getElem?_map, List.getElem?_map]
          split at h
          · rename_i m e
            rw [e]
            cases q : Nat.beq m 8 with
            | true =>
              rw [q] at h
              rw [Nat.eq_of_beq_eq_true q]
              show (if some (Val.w (wd 8)) = some (Val.w (wd 8)) then _ else _) = _
              rw [if_pos rfl]
              simp only [cond_true] at h
              split at h
              · rename_i e2
                have e3 := Option.some.inj h
                subst e3
                rw [e2]
                rfl
              · cases h
            | false =>
              rw [q] at h
              have e3 := Option.some.inj h
              subst e3
              show (if some (Val.w (wd m)) = some (Val.w (wd 8)) then _ else _) = _
              rw [if_neg (fun z => wd_ne q (by injection z with z; injection z))]
              rfl
          · cases h
        | false =>
          rw [d] at h
          rw [if_neg (wd_ne d)]
          simp only [cond_false] at h
          cases e : Nat.beq x.f 8 with
          | true =>
            rw [e] at h
            rw [if_pos (congrArg wd (Nat.eq_of_beq_eq_true e))]
            have e3 := Option.some.inj h
            subst e3
            rfl
          | false =>
            rw [e] at h
            rw [if_neg (wd_ne e)]
            have e3 := Option.some.inj h
            subst e3
            rfl
def compU : Comp := ⟨sU, cU, cU_of⟩
def fK4 : SV := encL [.w 8, encL [.w 29], .cons (.w 8) (.cons (.cons (.w 6) (.cons (.w 29) (.cons (.w 29) .nil))) .nil)]
def AU (y : SV) : List SV := [fK4, .cons y .nil, senc sK4]
def BU (y : Val) : List Val := [iv zN fK4, .cons y .nil, encP K4]
theorem AU_of (Z : Itp) (y : SV) : (AU y).map (iv Z) = BU (iv Z y) := rfl
theorem g1r : roundOk comp1 sK4 8 1 5 (fun y => [y]) = true := by decide +kernel
theorem g1l : prefixOk comp1 sK4 8 1 5 (fun y => [y]) (.cons (.latom 0) (.latom 0)) (sst true sK4 [.latom 0]) = true := by decide +kernel
theorem g1w : prefixOk comp1 sK4 8 1 5 (fun y => [y]) (.cons (.watom 0) .nil) (sst true sK4 [.watom 0]) = true := by decide +kernel
theorem gUr : roundOk compU sUniv 11 3 320 AU = true := by decide +kernel
theorem gUl : prefixOk compU sUniv 11 3 6 AU (.latom 0) (sst true sUniv [senc sK4, .cons (.latom 0) .nil]) = true := by decide +kernel
theorem gUw : prefixOk compU sUniv 11 3 327 AU (.cons (.watom 0) .nil) (sst true sUniv [senc sK4, .cons (.watom 0) .nil]) = true := by decide +kernel
/-- the round without the calls being kept -/
def roundN (P : List SFn) (f k N : Nat) (A : SV → List SV) : Bool := match siter false false P (N + 1) ⟨0, (A (.latom 0)).reverse, [.call f k]⟩ with
  | some S => (match S.todo with
    | .call f' k' :: _ => Nat.beq f' f && (Nat.beq k' k && eqL S.found (A (.cons (.latom 0) (.latom 0))).reverse)
    | _ => false)
  | none => false
def prefixN (P : List SFn) (f k N : Nat) (A : SV → List SV) (y : SV) (S : Option SSt) : Bool := match S with
  | some S => (match siter false false P N S with
    | some S => (match S.todo with
      | .call f' k' :: _ => Nat.beq f' f && (Nat.beq k' k && eqL S.found (A y).reverse)
      | _ => false)
    | none => false)
  | none => false
theorem endless4 {Z : Itp} {y : SV} {args : List SV} {vs : List Val} {M : Nat} (hz : Z.dis = false) (hy : (iv Z y).isW = false) (hp : prefixN sK4 8 1 M (fun y => [y]) y (sst false sK4 args) = true) (hv : args.map (iv Z) = vs) : Endless false K4 vs := by
  subst hv
  have hr : roundN sK4 8 1 5 (fun y => [y]) = true := by decide +kernel
  cases e : sst false sK4 args with
  | none =>
    rw [e] at hp
    cases hp
  | some S =>
    rw [e] at hp
    refine ⟨_, start_of (Z := Z) e, ?_⟩
    unfold prefixN at hp
    simp only at hp
    split at hp
    · rename_i X eX
      split at hp
      · rename_i f' k' T eT
        obtain ⟨h1, h2⟩ := Bool.and_eq_true_iff.mp hp
        obtain ⟨h2, h3⟩ := Bool.and_eq_true_iff.mp h2
        have eX : siter false Z.dis sK4 M S = some X := by
          rw [hz]
          exact eX
        refine forever_pre (iv_iter eX) ?_
        have R : ∀ (m : Nat) (S : MSt), (∃ x d U, x.isW = false ∧ S = ⟨d, [x], .call (wd 8) 1 :: U⟩) → ∃ S', mIter false K4 m S = some S' ∧ pairOf false S' = none := by
          refine forever_of (R := fun S => ∃ x d U, x.isW = false ∧ S = ⟨d, [x], .call (wd 8) 1 :: U⟩) ?_
          rintro S ⟨x, d, U, hx, rfl⟩
          unfold roundN at hr
          split at hr
          · rename_i Y eY
            split at hr
            · rename_i f2 k2 T2 eT2
              obtain ⟨r1, r2⟩ := Bool.and_eq_true_iff.mp hr
              obtain ⟨r2, r3⟩ := Bool.and_eq_true_iff.mp r2
              have it1 := iv_iter (Z := zL x hx Str.empty) (d := d) (R := []) (U := U) eY
              have e0 : lift (zL x hx Str.empty) d [] U ⟨0, ((fun y => [y]) (SV.latom 0)).reverse, [.call 8 1]⟩ = ⟨d, [x], .call (wd 8) 1 :: U⟩ := by
                unfold lift
                rw [Nat.zero_add]
                rfl
              rw [e0] at it1
              refine ⟨5, _, it1, ⟨.cons x x, Y.steps + d, T2.map (it (zL x hx Str.empty) d) ++ U, rfl, ?_⟩, fun _ _ _ _ => rfl⟩
              unfold lift
              rw [eT2, eqL_ok (Z := zL x hx Str.empty) r3, Nat.eq_of_beq_eq_true r1, Nat.eq_of_beq_eq_true r2]
              rfl
            · cases hr
          · cases hr
        intro m
        obtain ⟨S', e2, _⟩ := R m (lift Z 0 [] [] X) ⟨iv Z y, X.steps + 0, T.map (it Z 0) ++ [], hy, by
          unfold lift
          rw [eT, eqL_ok (Z := Z) h3, Nat.eq_of_beq_eq_true h1, Nat.eq_of_beq_eq_true h2]
          rfl⟩
        exact ⟨S', e2⟩
      · cases hp
    · cases hp
theorem res4 {v : Val} : Res K4 true v := by
  cases e : v.isW with
  | false =>
    let Z := zL v e Str.empty
    refine ⟨endless4 (Z := Z) (y := .cons (.latom 0) (.latom 0)) (args := [.latom 0]) (M := 5) rfl rfl (by decide +kernel) rfl, (fun z => by cases z), fun _ => ⟨grows_of (C := comp1) (Z := Z) (P := sK4) (args := [.latom 0]) k4_of (B := fun y => [y]) (fun _ _ => rfl) rfl rfl g1r g1l rfl, ?_⟩⟩
    exact grows_of (C := compU) (Z := Z) (P := sUniv) (args := [senc sK4, .cons (.latom 0) .nil]) (y := .latom 0) uni_of AU_of rfl e gUr gUl (by rw [List.map_cons, iv_senc]; rfl)
  | true =>
    cases v with
    | w o =>
      let Z := zL .nil rfl o
      refine ⟨endless4 (Z := Z) (y := .cons (.watom 0) .nil) (args := [.watom 0]) (M := 5) rfl rfl (by decide +kernel) rfl, (fun z => by cases z), fun _ => ⟨grows_of (C := comp1) (Z := Z) (P := sK4) (args := [.watom 0]) k4_of (B := fun y => [y]) (fun _ _ => rfl) rfl rfl g1r g1w rfl, ?_⟩⟩
      exact grows_of (C := compU) (Z := Z) (P := sUniv) (args := [senc sK4, .cons (.watom 0) .nil]) (y := .cons (.watom 0) .nil) uni_of AU_of rfl rfl gUr gUw (by rw [List.map_cons, iv_senc]; rfl)
    | nil => cases e
    | cons _ _ => cases e
end Og
/-! OgPlain6: what the runs ask, out of Res. -/
namespace Og
open PySem
theorem start_eq {keep : Bool} {P : List Fn} {args : List Val} {S : MSt} (h : mStart keep P args = some S) :
    ∃ g, fnOf P "main" = some g ∧ g.ps.length = args.length ∧ S = ⟨0, [], .ev g.body (g.ps.zip args) :: (if keep = true then [.fin ⟨"main", args⟩ (0 + 1)] else [])⟩ := by
  have h : (match fnOf P "main" with
    | some g => if g.ps.length = args.length then some (⟨0, [], .ev g.body (g.ps.zip args) :: (if keep = true then [.fin ⟨"main", args⟩ (0 + 1)] else [])⟩ : MSt) else none
    | none => none) = some S := h
  cases e : fnOf P "main" with
  | none =>
    rw [e] at h
    cases h
  | some g =>
    rw [e] at h
    have h : (if g.ps.length = args.length then some (⟨0, [], .ev g.body (g.ps.zip args) :: (if keep = true then [.fin ⟨"main", args⟩ (0 + 1)] else [])⟩ : MSt) else none) = some S := h
    by_cases q : g.ps.length = args.length
    · rw [if_pos q] at h
      exact ⟨g, rfl, q, (Option.some.inj h).symm⟩
    · rw [if_neg q] at h
      cases h
theorem start_J {P : List Fn} {args : List Val} {S : MSt} (h : mStart true P args = some S) : J S := by
  obtain ⟨g, _, _, rfl⟩ := start_eq h
  refine .inr ⟨g.body, _, ⟨"main", args⟩, [], rfl, ⟨fun q (hq : q ∈ ([] : List (Call × Nat))) => absurd hq List.not_mem_nil, List.Pairwise.nil⟩⟩
theorem start_le {keep : Bool} {P : List Fn} {args : List Val} {S : MSt} {lim : Nat} (h : mStart keep P args = some S) : S.steps ≤ lim := by
  obtain ⟨g, _, _, rfl⟩ := start_eq h
  exact Nat.zero_le _
theorem isEv_todo {S : MSt} (h : isEv S = true) : S.todo ≠ [] := fun e => by
  unfold isEv at h
  rw [e] at h
  cases h
theorem run_tired {P : List Fn} {args : List Val} (h : Endless false P args) (lim : Nat) : ∃ S S' n, mStart false P args = some S ∧ GoesN false P lim n S none S' none ∧ S'.todo ≠ [] := by
  obtain ⟨S, hS, F⟩ := h
  obtain ⟨n, S', g, h1, h2⟩ := goes_tired F safe_false (start_le (lim := lim) hS)
  exact ⟨S, S', n, hS, g, isEv_todo h1⟩
theorem watch_tired {P : List Fn} {args : List Val} (h : Grows P args) (lim : Nat) : ∃ S S' n, mStart true P args = some S ∧ GoesN true P lim n S none S' none ∧ S'.todo ≠ [] := by
  obtain ⟨S, hS, F, Sf⟩ := h
  obtain ⟨n, S', g, h1, h2⟩ := goes_tired F Sf (start_le (lim := lim) hS)
  exact ⟨S, S', n, hS, g, isEv_todo h1⟩
/-- a pair, and what check_never asks of it -/
structure Pairs (P : List Fn) (args : List Val) (lim : Nat) (S S' : MSt) (n m b : Nat) : Prop where
  st : mStart true P args = some S
  go : GoesN true P lim n S none S' (some (m, b + 1))
  le : b + 1 ≤ lim
  pos : 1 ≤ m
  lt : m < b + 1
  go2 : GoesN true P b n S none S' (some (m, b + 1))
  ex : ∃ c, (openAt c S'.todo).head? = some (b + 1)
  all : ∀ c, (openAt c S'.todo).head? = some (b + 1) → m ∈ openAt c S'.todo
theorem openAt_le {k : Nat} {c : Call} {T : List Task} (h : FinsOk k (fins T)) : ∀ x ∈ openAt c T, x ≤ k := fun x hx => by
  rw [openAt_fins] at hx
  obtain ⟨q, hq, e⟩ := List.mem_map.mp hx
  have := (h.1 q (List.mem_filter.mp hq).1).2
  omega
theorem watch_pair {P : List Fn} {args : List Val} {L lim : Nat} (h : Again P args L) (hl : L ≤ lim) : ∃ S S' n m b, Pairs P args lim S S' n m b := by
  obtain ⟨S, N, SN, hS, h1, h2, h3, h4⟩ := h
  obtain ⟨n, S', m, k, g, hk⟩ := goes_pair h1 h2 h3 (by omega : SN.steps + 1 ≤ lim)
  have f := goes_found (start_J hS) g
  have lt := f.lt
  obtain ⟨e, en, c, T, l, e1, e2, e3, e4⟩ := f.ex
  subst e4
  refine ⟨S, S', n, m, S'.steps, hS, g, hk, lt.1, lt.2, goes_least g, ⟨c, ?_⟩, fun c' hc => ?_⟩
  · rw [e1]
    show (if c = c then (S'.steps + 1) :: openAt c T else openAt c T).head? = _
    rw [if_pos rfl]
    rfl
  · rw [e1] at hc ⊢
    have hc : (if c = c' then (S'.steps + 1) :: openAt c' T else openAt c' T).head? = some (S'.steps + 1) := hc
    show m ∈ (if c = c' then (S'.steps + 1) :: openAt c' T else openAt c' T)
    by_cases q : c = c'
    · subst q
      rw [if_pos rfl, e2]
      exact List.mem_cons_of_mem _ List.mem_cons_self
    · rw [if_neg q] at hc
      have := openAt_le e3 (S'.steps + 1) (List.mem_of_mem_head? hc)
      omega
/-- no call begins at step 2 where the first one's body begins with a part -/
theorem no12 {P : List Fn} {args : List Val} {g : Fn} {k : Str} {a b : Val} (hg : fnOf P "main" = some g) (hl : g.ps.length = args.length) (hb : g.body = .cons (.w k) (.cons a b)) (h1 : k ≠ "quote") (h2 : k ≠ "if") (h3 : b.items.length ≤ 11) :
    ∃ S S', mStart true P args = some S ∧ GoesN true P 1 1 S none S' none ∧ ∀ c, (openAt c S'.todo).head? ≠ some 2 := by
  have e : mStart true P args = some ⟨0, [], [.ev g.body (g.ps.zip args), .fin ⟨"main", args⟩ 1]⟩ := by
    show (match fnOf P "main" with
      | some g => if g.ps.length = args.length then some (⟨0, [], .ev g.body (g.ps.zip args) :: (if true = true then [.fin ⟨"main", args⟩ (0 + 1)] else [])⟩ : MSt) else none
      | none => none) = _
    rw [hg]
    show (if g.ps.length = args.length then some (⟨0, [], .ev g.body (g.ps.zip args) :: (if true = true then [.fin ⟨"main", args⟩ (0 + 1)] else [])⟩ : MSt) else none) = _
    rw [if_pos hl]
    rfl
  have it : (Val.cons a b).items.length = b.items.length + 1 := rfl
  obtain ⟨tk, e2⟩ : ∃ tk : Task, (tk = .op k ∨ tk = .call k (b.items.length + 1)) ∧ evDo g.body (g.ps.zip args) 0 [] [.fin ⟨"main", args⟩ 1] = some ⟨1, [], .ev a (g.ps.zip args) :: (b.items.map (Task.ev · (g.ps.zip args)) ++ tk :: [.fin ⟨"main", args⟩ 1])⟩ := by
    rw [hb]
    unfold evDo
    simp only [if_neg h1, if_neg h2]
    rw [if_neg (by rw [it]; omega)]
    by_cases q : k ∈ plainW
    · rw [if_pos q]
      exact ⟨_, .inl rfl, rfl⟩
    · rw [if_neg q]
      exact ⟨_, .inr rfl, rfl⟩
  refine ⟨_, ⟨1, [], .ev a (g.ps.zip args) :: (b.items.map (Task.ev · (g.ps.zip args)) ++ tk :: [.fin ⟨"main", args⟩ 1])⟩, e, ⟨fun z => ?_, _, e2.2, .inr (.inr ⟨rfl, rfl⟩), rfl, rfl⟩, fun c hc => ?_⟩
  · rcases z with z | z | ⟨_, z⟩
    · cases z
    · exact z rfl
    · cases z
  · have hm := List.mem_of_mem_head? hc
    rw [openAt_fins] at hm
    obtain ⟨q, hq, e3⟩ := List.mem_map.mp hm
    have hq := (List.mem_filter.mp hq).1
    have ef : fins (.ev a (g.ps.zip args) :: (b.items.map (Task.ev · (g.ps.zip args)) ++ tk :: [.fin ⟨"main", args⟩ 1])) = [(⟨"main", args⟩, 1)] := by
      show fins (b.items.map (Task.ev · (g.ps.zip args)) ++ tk :: [.fin ⟨"main", args⟩ 1]) = _
      rw [fins_append, fins_evs]
      rcases e2.1 with rfl | rfl <;> rfl
    rw [ef] at hq
    rw [List.mem_singleton.mp hq] at e3
    cases e3
end Og
/-! OgPlain7: what stays small in a run; the fuel of the law's own run. -/
namespace Og
open PySem
section
def wok (x : Str) : Bool := x.cps.all (· < 0x110000)
/-- short words, lists of at most N items -/
def good (N : Nat) : Val → Prop
  | .w x => wok x = true
  | .nil => True
  | .cons h t => good N h ∧ good N t ∧ t.items.length + 1 ≤ N
theorem good.mono {N M : Nat} (h : N ≤ M) : ∀ {v : Val}, good N v → good M v
  | .w _, g => g
  | .nil, _ => True.intro
  | .cons _ _, g => ⟨good.mono h g.1, good.mono h g.2.1, Nat.le_trans g.2.2 h⟩
theorem good.len {N : Nat} : ∀ {v : Val}, good N v → v.items.length ≤ N
  | .w _, _ => Nat.zero_le _
  | .nil, _ => Nat.zero_le _
  | .cons _ _, g => g.2.2
theorem good.items {N : Nat} : ∀ {v : Val}, good N v → ∀ x ∈ v.items, good N x
  | .w _, _, x, m => by cases m
  | .nil, _, x, m => by cases m
  | .cons _ _, g, x, m => by
    rcases List.mem_cons.mp m with rfl | m
    · exact g.1
    · exact good.items g.2.1 x m
theorem good.hd {N : Nat} {v : Val} (g : good N v) : good N v.hd := by
  cases v with
  | cons h t => exact g.1
  | _ => exact True.intro
theorem good.tl {N : Nat} {v : Val} (g : good N v) : good N v.tl := by
  cases v with
  | cons h t => exact g.2.1
  | _ => exact True.intro
theorem good.jn {N : Nat} {a v : Val} (ga : good N a) (g : good N v) : good (N + 1) (a.jn v) := by
  have ga := ga.mono (Nat.le_succ N)
  cases v with
  | cons h t => exact ⟨ga, g.mono (Nat.le_succ N), Nat.succ_le_succ g.2.2⟩
  | _ => exact ⟨ga, True.intro, by show 0 + 1 ≤ N + 1; omega⟩
theorem good.ofB {N : Nat} (b : Bool) : good N (ofB b) := by
  cases b
  · exact True.intro
  · show wok "yes" = true
    decide +kernel
def goodE (N : Nat) (n : VEnv) : Prop := ∀ q ∈ n, good N q.2
def goodT (N : Nat) : Task → Prop
  | .ev e n => good N e ∧ goodE N n
  | .ite a b n => good N a ∧ good N b ∧ goodE N n
  | _ => True
structure GoodS (N : Nat) (S : MSt) : Prop where
  f : ∀ v ∈ S.found, good N v
  t : ∀ k ∈ S.todo, goodT N k
theorem goodE.mono {N M : Nat} (h : N ≤ M) {n : VEnv} (g : goodE N n) : goodE M n := fun q m => (g q m).mono h
theorem goodT.mono {N M : Nat} (h : N ≤ M) {t : Task} (g : goodT N t) : goodT M t := by
  cases t with
  | ev e n => exact ⟨g.1.mono h, g.2.mono h⟩
  | ite a b n => exact ⟨g.1.mono h, g.2.1.mono h, g.2.2.mono h⟩
  | _ => exact True.intro
theorem lk_mem : ∀ {n : VEnv} {x : Str} {v : Val}, lk n x = some v → ∃ y, (y, v) ∈ n
  | [], _, _, h => by cases h
  | (y, u) :: r, x, v, h => by
    have h : (if y = x then some u else lk r x) = some v := h
    by_cases e : y = x
    · rw [if_pos e] at h
      rw [← Option.some.inj h]
      exact ⟨y, List.mem_cons_self⟩
    · rw [if_neg e] at h
      obtain ⟨z, m⟩ := lk_mem h
      exact ⟨z, List.mem_cons_of_mem _ m⟩
theorem goodS_of {N s : Nat} {F : List Val} {T : List Task} (f : ∀ v ∈ F, good (N + 1) v) (t : ∀ k ∈ T, goodT (N + 1) k) : GoodS (N + 1) ⟨s, F, T⟩ := ⟨f, t⟩
theorem opDo_good {N : Nat} {k : Str} {F F' : List Val} (h : opDo k F = some F') (g : ∀ v ∈ F, good N v) : ∀ v ∈ F', good (N + 1) v := by
  unfold opDo at h
  repeat' split at h
  all_goals try cases h
  all_goals
    intro v m
    rcases List.mem_cons.mp m with rfl | m
    · first
        | exact (g _ List.mem_cons_self).hd.mono (Nat.le_succ N)
        | exact (g _ List.mem_cons_self).tl.mono (Nat.le_succ N)
        | exact good.ofB _
        | exact good.jn (g _ (List.mem_cons_of_mem _ List.mem_cons_self)) (g _ List.mem_cons_self)
    · first
        | exact (g _ (List.mem_cons_of_mem _ m)).mono (Nat.le_succ N)
        | exact (g _ (List.mem_cons_of_mem _ (List.mem_cons_of_mem _ m))).mono (Nat.le_succ N)
theorem evDo_good {N : Nat} {e : Val} {n : VEnv} {s : Nat} {F : List Val} {T : List Task} {S : MSt} (h : evDo e n s F T = some S) (ge : good N e) (gn : goodE N n) (gf : ∀ v ∈ F, good N v) (gt : ∀ k ∈ T, goodT N k) : GoodS N S := by
  unfold evDo at h
  split at h
  · split at h
    · rename_i v hv
      have e := Option.some.inj h
      subst e
      refine ⟨fun u m => ?_, gt⟩
      rcases List.mem_cons.mp m with rfl | m
      · obtain ⟨y, my⟩ := lk_mem hv
        exact gn _ my
      · exact gf u m
    · cases h
  · rename_i k t
    split at h
    · split at h
      · rename_i v
        have e := Option.some.inj h
        subst e
        refine ⟨fun u m => ?_, gt⟩
        rcases List.mem_cons.mp m with rfl | m
        · exact ge.2.1.1
        · exact gf u m
      · cases h
    · split at h
      · split at h
        · rename_i a b c
          have e := Option.some.inj h
          subst e
          refine ⟨gf, fun u m => ?_⟩
          rcases List.mem_cons.mp m with rfl | m
          · exact ⟨ge.2.1.1, gn⟩
          rcases List.mem_cons.mp m with rfl | m
          · exact ⟨ge.2.1.2.1.1, ge.2.1.2.1.2.1.1, gn⟩
          · exact gt u m
        · cases h
      · split at h
        · cases h
        · split at h
          all_goals
            have e := Option.some.inj h
            subst e
            refine ⟨gf, fun u m => ?_⟩
            rcases List.mem_append.mp m with m | m
            · obtain ⟨x, mx, rfl⟩ := List.mem_map.mp m
              exact ⟨good.items ge.2.1 x mx, gn⟩
            rcases List.mem_cons.mp m with rfl | m
            · exact True.intro
            · exact gt u m
  · cases h
theorem fnOf_mem' {f : Str} {g : Fn} : ∀ {P : List Fn}, fnOf P f = some g → g ∈ P
  | [], h => by cases h
  | a :: P, h => by
    have h : (if a.name = f then some a else fnOf P f) = some g := h
    by_cases e : a.name = f
    · rw [if_pos e] at h
      rw [← Option.some.inj h]
      exact List.mem_cons_self
    · rw [if_neg e] at h
      exact List.mem_cons_of_mem _ (fnOf_mem' h)
theorem step_good {N : Nat} {P : List Fn} {S S' : MSt} (h : mStep false P S = some S') (gp : ∀ g ∈ P, good N g.body) (gs : GoodS N S) : GoodS (N + 1) S' := by
  obtain ⟨s, F, T⟩ := S
  obtain ⟨gf, gt0⟩ := gs
  have gf : ∀ v ∈ F, good N v := gf
  have up : ∀ {M : MSt}, GoodS N M → GoodS (N + 1) M := fun g => ⟨fun v m => (g.f v m).mono (Nat.le_succ N), fun k m => (g.t k m).mono (Nat.le_succ N)⟩
  cases T with
  | nil => cases h
  | cons t T =>
    have g0 : goodT N t := gt0 t List.mem_cons_self
    have gt : ∀ k ∈ T, goodT N k := fun k m => gt0 k (List.mem_cons_of_mem _ m)
    clear gt0
    cases t with
    | ev e n => exact up (evDo_good h g0.1 g0.2 gf gt)
    | ite a b n =>
      cases F with
      | nil => cases h
      | cons v F =>
        simp only [mStep] at h
        split at h
        · have e := Option.some.inj h
          subst e
          refine up ⟨fun u m => gf u (List.mem_cons_of_mem _ m), fun k m => ?_⟩
          rcases List.mem_cons.mp m with rfl | m
          · refine ⟨?_, g0.2.2⟩
            split
            · exact g0.2.1
            · exact g0.1
          · exact gt k m
        · cases h
    | op k =>
      simp only [mStep] at h
      split at h
      · rename_i F' hF
        have e := Option.some.inj h
        subst e
        exact ⟨opDo_good hF gf, fun k m => (gt k m).mono (Nat.le_succ N)⟩
      · cases h
    | call f k =>
      simp only [mStep] at h
      split at h
      · unfold beginAt at h
        split at h
        · rename_i g hg
          split at h
          · have e := Option.some.inj h
            subst e
            refine up ⟨fun u m => gf u (List.mem_of_mem_drop m), fun q m => ?_⟩
            simp only [Bool.false_eq_true, if_false] at m
            rcases List.mem_cons.mp m with rfl | m
            · refine ⟨gp g (fnOf_mem' hg), fun p mp => ?_⟩
              have := (List.of_mem_zip (show (p.1, p.2) ∈ _ from mp)).2
              exact gf _ (List.mem_of_mem_take (List.mem_reverse.mp this))
            · exact gt q m
          · cases h
        · cases h
      · cases h
    | fin c k =>
      have e := Option.some.inj h
      subst e
      exact up ⟨gf, gt⟩
theorem evDo_lens {e : Val} {n : VEnv} {s : Nat} {F : List Val} {T : List Task} {S : MSt} (h : evDo e n s F T = some S) : S.found.length ≤ F.length + 1 ∧ S.todo.length ≤ T.length + 13 := by
  unfold evDo at h
  split at h
  · split at h
    · have e := Option.some.inj h
      subst e
      exact ⟨Nat.le_refl _, Nat.le_add_right _ _⟩
    · cases h
  · split at h
    · split at h
      · have e := Option.some.inj h
        subst e
        exact ⟨Nat.le_refl _, Nat.le_add_right _ _⟩
      · cases h
    · split at h
      · split at h
        · have e := Option.some.inj h
          subst e
          exact ⟨Nat.le_add_right _ _, by simp only [List.length_cons]; omega⟩
        · cases h
      · split at h
        · cases h
        · split at h
          all_goals
            have e := Option.some.inj h
            subst e
            refine ⟨Nat.le_add_right _ _, ?_⟩
            simp only [List.length_append, List.length_map, List.length_cons]
            omega
  · cases h
theorem opDo_lens {k : Str} {F F' : List Val} (h : opDo k F = some F') : F'.length ≤ F.length := by
  unfold opDo at h
  repeat' split at h
  all_goals try cases h
  all_goals simp only [List.length_cons]
  all_goals omega
theorem step_lens {P : List Fn} {S S' : MSt} (h : mStep false P S = some S') : S'.found.length ≤ S.found.length + 1 ∧ S'.todo.length ≤ S.todo.length + 13 := by
  obtain ⟨s, F, T⟩ := S
  cases T with
  | nil => cases h
  | cons t T =>
    cases t with
    | ev e n =>
      have := evDo_lens h
      exact ⟨this.1, by simp only [List.length_cons]; omega⟩
    | ite a b n =>
      cases F with
      | nil => cases h
      | cons v F =>
        simp only [mStep] at h
        split at h
        · have e := Option.some.inj h
          subst e
          simp only [List.length_cons]
          omega
        · cases h
    | op k =>
      simp only [mStep] at h
      split at h
      · rename_i F' hF
        have e := Option.some.inj h
        subst e
        have := opDo_lens hF
        simp only [List.length_cons]
        omega
      · cases h
    | call f k =>
      simp only [mStep] at h
      split at h
      · unfold beginAt at h
        split at h
        · split at h
          · have e := Option.some.inj h
            subst e
            simp only [List.length_cons, List.length_drop, Bool.false_eq_true, if_false]
            omega
          · cases h
        · cases h
      · cases h
    | fin c k =>
      have e := Option.some.inj h
      subst e
      simp only [List.length_cons]
      omega
/-- n turns have been made -/
structure Small (N n : Nat) (S : MSt) : Prop where
  g : GoodS (N + n) S
  f : S.found.length ≤ n
  t : S.todo.length ≤ 13 * n + 1
theorem Small.step {N n : Nat} {P : List Fn} {S S' : MSt} (h : mStep false P S = some S') (gp : ∀ g ∈ P, good N g.body) (s : Small N n S) : Small N (n + 1) S' := by
  have l := step_lens h
  have f := s.f
  have t := s.t
  exact ⟨step_good h (fun g m => (gp g m).mono (Nat.le_add_right _ _)) s.g, by omega, by omega⟩
theorem Small.start {N : Nat} {P : List Fn} {args : List Val} {S : MSt} (h : mStart false P args = some S) (gp : ∀ g ∈ P, good N g.body) (ga : ∀ v ∈ args, good N v) : Small N 0 S := by
  obtain ⟨g, hg, hl, rfl⟩ := start_eq h
  refine ⟨⟨fun v m => (by cases m), fun k m => ?_⟩, Nat.le_refl _, Nat.le_refl _⟩
  have m : k ∈ [Task.ev g.body (g.ps.zip args)] := m
  rw [List.mem_singleton.mp m]
  exact ⟨gp g (fnOf_mem' hg), fun q mq => ga _ (List.of_mem_zip (show (q.1, q.2) ∈ _ from mq)).2⟩
/-- no call is marked open -/
def NoFin (T : List Task) : Prop := ∀ c k, Task.fin c k ∉ T
end
end Og
/-! OgDict: dicts whose keys are texts and nested tuples side by side. -/
namespace OgD
open PySem PySem.Spec PyProof.Rows L2

/-- a key, the value that carries it, the value stored -/
abbrev Row3 := NestedKey × Value × Value
def entM (w : World) (x : Row3) : DictEntry := ⟨x.1.hash w, x.2.1, x.2.2⟩
/-- the one object at d -/
def MDict (w : World) (d : Addr) (xs : List Row3) (h : Heap) : Prop := ∃ o es ep, h.get? d = some o ∧ o.ExactDict ∧ o.data = .dict es ep ∧ es.toList = xs.map (entM w)
structure MKeys (h : Heap) (xs : List Row3) : Prop where
  is : ∀ x ∈ xs, NestedIs h x.1 x.2.1 ∧ x.1.depth ≤ 8
  nd : (xs.map (·.1)).Nodup
def rowAt (xs : List Row3) (k : NestedKey) : Option Value := (xs.find? fun x => decide (x.1 = k)).map (·.2.2)
def rowPut (xs : List Row3) (k : NestedKey) (kv v : Value) : List Row3 :=
  if (rowAt xs k).isSome = true then xs.map (fun x => if x.1 = k then (x.1, x.2.1, v) else x) else xs ++ [(k, kv, v)]
theorem rowAt_none {xs : List Row3} {k : NestedKey} (h : ∀ (j : Nat) (y : Row3), xs[j]? = some y → y.1 ≠ k) : rowAt xs k = none := by
  have e : (xs.find? fun x => decide (x.1 = k)) = none := List.find?_eq_none.mpr fun x hx z => by
    obtain ⟨j, hj⟩ := List.mem_iff_getElem?.mp hx
    exact h j x hj (of_decide_eq_true z)
  unfold rowAt
  rw [e]
  rfl
theorem rowAt_some : ∀ {xs : List Row3} {k : NestedKey} {j : Nat} {y : Row3}, (xs.map (·.1)).Nodup → xs[j]? = some y → y.1 = k → rowAt xs k = some y.2.2
  | [], _, _, _, _, h, _ => by simp at h
  | x :: r, k, 0, y, _, h, e => by
    have h : x = y := by simpa using h
    subst h
    simp [rowAt, e]
  | x :: r, k, j + 1, y, nd, h, e => by
    have nd : (x.1 :: r.map (·.1)).Nodup := nd
    obtain ⟨n1, n2⟩ := List.nodup_cons.mp nd
    have h : r[j]? = some y := by simpa using h
    have ne : ¬ x.1 = k := fun z => n1 (List.mem_map.mpr ⟨y, List.mem_of_getElem? h, e.trans z.symm⟩)
    have ih := rowAt_some n2 h e
    unfold rowAt at ih ⊢
    rw [List.find?_cons, decide_eq_false ne]
    exact ih
theorem same_ix {xs : List Row3} (nd : (xs.map (·.1)).Nodup) {i j : Nat} {x y : Row3} (hi : xs[i]? = some x) (hj : xs[j]? = some y) (e : x.1 = y.1) : i = j := by
  have a : (xs.map (·.1))[i]? = some x.1 := by rw [List.getElem?_map, hi]; rfl
  have b : (xs.map (·.1))[j]? = some x.1 := by rw [List.getElem?_map, hj, e]; rfl
  exact nd_ix nd a b
section
variable {P : Program} {w : World} {A : Around} {E : Value → Shared → Prop} {s : Shared}
theorem ent_at {es : Array DictEntry} {xs : List Row3} (he : es.toList = xs.map (entM w)) (j : Nat) : es[j]? = (xs[j]?).map (entM w) := by
  rw [← Array.getElem?_toList, he, List.getElem?_map]
theorem ent_size {es : Array DictEntry} {xs : List Row3} (he : es.toList = xs.map (entM w)) : es.size = xs.length := by
  rw [← Array.length_toList, he, List.length_map]
theorem tell_quiet {k : NestedKey} {kv : Value} {l : List Value} {Q : Bool → Shared → Prop} (hk : NestedIs s.heap k kv) (hd : k.depth ≤ 8)
    (hl : ∀ v ∈ l, ∃ k', NestedIs s.heap k' v ∧ k'.depth ≤ 8) (h : Q false s) : wpAny (model P w) A (tableMayTell kv l) Q E s := by
  unfold tableMayTell
  split
  · exact wpAny_pure h
  · refine wpAny_bind (quiet_key k kv 8 s hk hd A E _ ?_)
    rw [Bool.not_true, if_neg Bool.false_ne_true]
    refine wpAny_bind (wpAny_forIn_list _ (fun more r s' => s' = s ∧ r = (none, ()) ∧ ∀ v ∈ more, ∃ k', NestedIs s.heap k' v ∧ k'.depth ≤ 8) _ ?_ ?_ _ _ ⟨rfl, rfl, hl⟩)
    · rintro v more r s' ⟨rfl, rfl, hm⟩
      obtain ⟨k', h1, h2⟩ := hm v List.mem_cons_self
      refine wpAny_bind (quiet_key k' v 8 s' h1 h2 A E _ ?_)
      rw [Bool.not_true, if_neg Bool.false_ne_true]
      exact wpAny_pure ⟨rfl, rfl, fun u hu => hm u (List.mem_cons_of_mem _ hu)⟩
    · rintro r s' ⟨rfl, rfl, _⟩
      exact wpAny_pure h
/-- how far the places have been gone along: what was met at them -/
def Met (xs : List Row3) (k : NestedKey) (i : Nat) (hit : Option Nat) : Prop :=
  (hit = none ∧ ∀ (j : Nat) (y : Row3), j < i → xs[j]? = some y → y.1 ≠ k) ∨ ∃ j y, hit = some j ∧ j < i ∧ xs[j]? = some y ∧ y.1 = k
theorem find_walk {d : Addr} {o : Obj} {es : Array DictEntry} {ep : Nat} {xs : List Row3} {k : NestedKey} {kv : Value} (hu : A.units + 8 < cLine) (hk : NestedIs s.heap k kv) (hd : k.depth ≤ 8) (ho : s.heap.get? d = some o) (hdat : o.data = .dict es ep) (he : es.toList = xs.map (entM w)) (hx : MKeys s.heap xs)
    {β : Type} (body : Nat → β → Sem (ForInStep β)) (hitOf : β → Option Nat) (G : β → Prop) (gone : β → Prop) (b0 : β) (R : β → Shared → Prop) (g0 : G b0) (h0 : hitOf b0 = none)
    (other : ∀ (x : Nat) (e : DictEntry) (b : β) (Q : ForInStep β → Shared → Prop), es[x]? = some e → (e.hash == k.hash w) = true → (∀ (Q' : Bool → Shared → Prop), Q' false s → wpAny (model P w) A (eqBool e.key kv) Q' E s) → G b → (Q (.yield b) s) → wpAny (model P w) A (body x b) Q E s)
    (hits : ∀ (x : Nat) (e : DictEntry) (b : β) (Q : ForInStep β → Shared → Prop), es[x]? = some e → (e.hash == k.hash w) = true → (∀ (Q' : Bool → Shared → Prop), Q' true s → wpAny (model P w) A (eqBool e.key kv) Q' E s) → G b → hitOf b = none → (∀ b', (G b' ∧ hitOf b' = some x → Q (.yield b') s) ∧ (gone b' ∧ hitOf b' = some x → Q (.done b') s)) → wpAny (model P w) A (body x b) Q E s)
    (fin : ∀ b, (G b ∨ gone b) → ((hitOf b = none → ∀ (j : Nat) (y : Row3), xs[j]? = some y → y.1 ≠ k) ∧ ∀ i, hitOf b = some i → ∃ y, xs[i]? = some y ∧ y.1 = k) → R b s) :
    wpAny (model P w) A (forIn (placesWithHash es.size (fun i => es[i]?.map (·.hash)) (k.hash w)) b0 body) R E s := by
  have sz := ent_size he
  have isKey : ∀ (j : Nat) (y : Row3), xs[j]? = some y → y.1 = k → ((es[j]?.map (·.hash)) == some (k.hash w)) = true := fun j y hj e => by
    rw [ent_at he j, hj, ← e]
    simp [entM]
  refine wpAny_forIn_list _ (fun more b s' => s' = s ∧ G b ∧ ∃ i, more = (List.range' i (es.size - i)).filter (fun i => (es[i]?.map (·.hash)) == some (k.hash w)) ∧ i ≤ es.size ∧ Met xs k i (hitOf b)) _ ?_ ?_ _ _
    ⟨rfl, g0, 0, by rw [placesWithHash, List.range_eq_range', Nat.sub_zero], Nat.zero_le _, .inl ⟨h0, fun _ _ z => absurd z (Nat.not_lt_zero _)⟩⟩
  · rintro x more b s' ⟨rfl, gb, i, hr, hi, met⟩
    obtain ⟨x1, x2, x3, x4, x5⟩ := filter_range'_cons _ _ _ _ _ hr.symm
    have lt : x < es.size := by omega
    have more' : more = (List.range' (x + 1) (es.size - (x + 1))).filter (fun i => (es[i]?.map (·.hash)) == some (k.hash w)) := by rw [x5]; congr 2; omega
    obtain ⟨y, hy⟩ : ∃ y, xs[x]? = some y := ⟨xs[x]'(by rw [← sz]; exact lt), List.getElem?_eq_getElem _⟩
    have ex : es[x]? = some (entM w y) := by rw [ent_at he x, hy]; rfl
    have hash : ((entM w y).hash == k.hash w) = true := by
      rw [ex] at x3
      simpa using x3
    have metx : Met xs k x (hitOf b) := by
      rcases met with ⟨a, c⟩ | ⟨j, z, a, c, e⟩
      · refine .inl ⟨a, fun j z hj hz e => ?_⟩
        rcases Nat.lt_or_ge j i with q | q
        · exact c j z q hz e
        · have := x4 j q hj
          rw [isKey j z hz e] at this
          cases this
      · exact .inr ⟨j, z, a, by omega, e⟩
    obtain ⟨ky, dy⟩ := hx.is y (List.mem_of_getElem? hy)
    have eq := eqAt_key y.1 k A s' y.2.1 kv ky hk (by omega)
    by_cases e : y.1 = k
    · have none : hitOf b = none := by
        rcases metx with ⟨a, _⟩ | ⟨j, z, _, c, e1, e2⟩
        · exact a
        · have := same_ix hx.nd e1 hy (e2.trans e.symm)
          omega
      refine hits x _ b _ ex hash (fun Q' q => eq P w E Q' ?_) gb none fun b' => ⟨fun ⟨q1, q2⟩ => ⟨rfl, q1, x + 1, more', lt, .inr ⟨x, y, q2, Nat.lt_succ_self x, hy, e⟩⟩, fun ⟨q1, q2⟩ => ?_⟩
      · rw [← NestedKey.decide_eq, decide_eq_true e]
        exact q
      · refine fin b' (.inr q1) ⟨fun q => ?_, fun i q => ?_⟩
        · rw [q2] at q
          cases q
        · rw [q2] at q
          have q := Option.some.inj q
          subst q
          exact ⟨y, hy, e⟩
    · refine other x _ b _ ex hash (fun Q' q => eq P w E Q' ?_) gb ⟨rfl, gb, x + 1, more', lt, ?_⟩
      · rw [← NestedKey.decide_eq, decide_eq_false e]
        exact q
      · rcases metx with ⟨a, c⟩ | ⟨j, z, a, c, q⟩
        · refine .inl ⟨a, fun j z hj hz => ?_⟩
          rcases Nat.lt_or_ge j x with q | q
          · exact c j z q hz
          · have : j = x := by omega
            subst this
            rw [hy] at hz
            rw [← Option.some.inj hz]
            exact e
        · exact .inr ⟨j, z, a, by omega, q⟩
  · rintro b s' ⟨rfl, gb, i, hr, hi, met⟩
    have none : ∀ j, i ≤ j → j < es.size → ((es[j]?.map (·.hash)) == some (k.hash w)) = false := fun j h1 h2 => by
      have := List.filter_eq_nil_iff.mp hr.symm j (List.mem_range'_1.mpr ⟨h1, by omega⟩)
      simpa using this
    refine fin b (.inl gb) ⟨fun q j y hj e => ?_, fun n q => ?_⟩
    · rcases met with ⟨_, c⟩ | ⟨j', z, a, _⟩
      · rcases Nat.lt_or_ge j i with p | p
        · exact c j y p hj e
        · have lt : j < es.size := by rw [sz]; exact (List.getElem?_eq_some_iff.mp hj).1
          have := none j p lt
          rw [isKey j y hj e] at this
          cases this
      · rw [a] at q
        cases q
    · rcases met with ⟨a, _⟩ | ⟨j', z, a, _, e1, e2⟩
      · rw [a] at q
        cases q
      · rw [a] at q
        have q := Option.some.inj q
        subst q
        exact ⟨z, e1, e2⟩
theorem find_key {d : Addr} {o : Obj} {es : Array DictEntry} {ep : Nat} {xs : List Row3} {k : NestedKey} {kv : Value} {Q : Option Nat → Shared → Prop} (hu : A.units + 8 < cLine) (hk : NestedIs s.heap k kv) (hd : k.depth ≤ 8) (kinds : (∃ x t, kv = .str x t) ∨ ∃ a, kv = .ref a) (ho : s.heap.get? d = some o) (hdat : o.data = .dict es ep) (he : es.toList = xs.map (entM w)) (hx : MKeys s.heap xs)
    (hn : (∀ (j : Nat) (y : Row3), xs[j]? = some y → y.1 ≠ k) → Q none s) (hs : ∀ (j : Nat) (y : Row3), xs[j]? = some y → y.1 = k → Q (some j) s) : wpAny (model P w) A (dictFind d kv (k.hash w)) Q E s := by
  have rowOf : ∀ e ∈ es, ∃ x ∈ xs, e = entM w x := fun e h => by
    have h : e ∈ xs.map (entM w) := he ▸ Array.mem_toList_iff.mpr h
    obtain ⟨x, hx, z⟩ := List.mem_map.mp h
    exact ⟨x, hx, z.symm⟩
  have walk2 : wpAny (model P w) A (dictWalkPlain d kv (k.hash w) es (placesWithHash es.size (fun i => es[i]?.map (·.hash)) (k.hash w))) Q E s := by
    refine wpAny_bind ?_
    refine find_walk hu hk hd ho hdat he hx _ (fun b => (b : Option (Option Nat) × PUnit).1.join) (fun b => b = (none, ())) (fun b => ∃ i, b = (some (some i), ())) (none, ()) _ rfl rfl ?_ ?_ ?_
    · rintro x e b Q' ex hh eq rfl q
      rw [ex]
      dsimp only
      rw [if_pos hh]
      refine wpAny_bind (wpAny_dictEpoch ho hdat (wpAny_bind (eq _ (wpAny_bind (wpAny_dictEpoch ho hdat ?_)))))
      rw [if_neg (by simp)]
      rw [if_neg Bool.false_ne_true]
      exact wpAny_bind (wpAny_rule (wpAny_pure q))
    · rintro x e b Q' ex hh eq rfl _ q
      rw [ex]
      dsimp only
      rw [if_pos hh]
      refine wpAny_bind (wpAny_dictEpoch ho hdat (wpAny_bind (eq _ (wpAny_bind (wpAny_dictEpoch ho hdat ?_)))))
      rw [if_neg (by simp)]
      rw [if_pos rfl]
      exact wpAny_bind (wpAny_rule (wpAny_pure ((q _).2 ⟨⟨x, rfl⟩, rfl⟩)))
    · rintro b gb ⟨f1, f2⟩
      rcases gb with rfl | ⟨i, rfl⟩
      · exact wpAny_pure (hn (f1 rfl))
      · obtain ⟨y, h1, h2⟩ := f2 i rfl
        exact wpAny_pure (hs i y h1 h2)
  unfold dictFind
  try with_reducible refine wpAny_holding ?_
  refine wpAny_bind (wpAny_dictEntries ho hdat ?_)
  dsimp only
  have stKeys : ∀ v ∈ (placesWithHash es.size (fun i => es[i]?.map (·.hash)) (k.hash w)).filterMap (fun i => es[i]?.map (·.key)), ∃ k', NestedIs s.heap k' v ∧ k'.depth ≤ 8 := fun v hv => by
    obtain ⟨i, _, hi⟩ := List.mem_filterMap.mp hv
    cases q : es[i]? with
    | none =>
      rw [q] at hi
      cases hi
    | some e =>
      rw [q] at hi
      have e2 : e.key = v := by simpa using hi
      obtain ⟨x, h1, h2⟩ := rowOf e (Array.mem_of_getElem? q)
      rw [← e2, h2]
      exact ⟨x.1, hx.is x h1⟩
  rcases kinds with ⟨x, t, rfl⟩ | ⟨a, rfl⟩
  · dsimp only
    by_cases all : (es.all fun e => isExactStrKey e.key) = true
    · rw [if_pos all]
      cases hk with
      | text _ _ =>
        have str : ∀ y ∈ xs, y.2.1.isStr x = decide (y.1 = .text x) := fun y hy => by
          obtain ⟨h1, _⟩ := hx.is y hy
          obtain ⟨y1, y2, y3⟩ := y
          cases h1 with
          | text z u =>
            by_cases e : z = x
            · subst e
              simp [Value.isStr]
            · have e2 : ¬ (NestedKey.text z = .text x) := fun q => e (by injection q)
              rw [decide_eq_false e2]
              simp [Value.isStr, e]
          | _ => simp [Value.isStr]
        unfold foundByValue
        cases q : es.findIdx? (fun e => e.key.isStr x) with
        | none =>
          refine wpAny_pure (hn fun j y hj e => ?_)
          have e1 := ent_at he j
          rw [hj] at e1
          have := Array.findIdx?_eq_none_iff.mp q _ (Array.mem_of_getElem? e1)
          have e2 := str y (List.mem_of_getElem? hj)
          rw [decide_eq_true e] at e2
          have e3 : y.2.1.isStr x = false := by simpa [entM] using this
          rw [e2] at e3
          cases e3
        | some i =>
          obtain ⟨lt, hi, _⟩ := Array.findIdx?_eq_some_iff_getElem.mp q
          have e0 : es[i]? = some es[i] := Array.getElem?_eq_getElem lt
          have e1 := ent_at he i
          rw [e0] at e1
          cases r : xs[i]? with
          | none =>
            rw [r] at e1
            cases e1
          | some y =>
            rw [r] at e1
            have e2 : es[i] = entM w y := Option.some.inj e1
            have e3 := str y (List.mem_of_getElem? r)
            rw [e2] at hi
            have e4 : y.1 = .text x := of_decide_eq_true (e3.symm.trans hi)
            obtain ⟨ky, dy⟩ := hx.is y (List.mem_of_getElem? r)
            simp only [e0]
            refine wpAny_bind (wpAny_dictEpoch ho hdat (wpAny_bind (eqAt_key y.1 (.text x) A s _ _ (by rw [e2]; exact ky) (.text x t) (by omega) P w E _ (wpAny_bind (wpAny_dictEpoch ho hdat ?_)))))
            rw [if_neg (by simp), ← NestedKey.decide_eq, decide_eq_true e4, if_pos rfl]
            exact wpAny_bind (wpAny_rule (wpAny_pure (hs i y r e4)))
    · rw [if_neg all]
      by_cases cv : ((Value.str x t :: (placesWithHash es.size (fun i => es[i]?.map (·.hash)) (k.hash w)).filterMap (fun i => es[i]?.map (·.key))).all carriedByValue) = true
      · rw [if_pos cv]
        exact walk2
      · rw [if_neg cv]
        by_cases one : (((placesWithHash es.size (fun i => es[i]?.map (·.hash)) (k.hash w)).filterMap (fun i => es[i]?.map (·.key))) == [Value.str x t]) = true <;> (first | rw [if_pos one] | rw [if_neg one]) <;> (first | refine wpAny_bind (wpAny_pure ?_) | refine wpAny_bind (tell_quiet hk hd stKeys ?_))
        all_goals
          rw [if_neg (by simp)]
          refine wpAny_bind (find_walk hu hk hd ho hdat he hx _ (fun b => match (b : Option (Option Nat) × Option Nat).1 with | some i => i | none => b.2) (fun b => b.1 = none) (fun b => ∃ i, b.1 = some (some i)) (none, none) _ rfl rfl ?_ ?_ ?_)
          · rintro x e b Q' ex hh eq gb q
            rw [ex]
            dsimp only
            rw [if_pos hh]
            refine wpAny_bind (wpAny_dictEpoch ho hdat (wpAny_bind (eq _ (wpAny_bind (wpAny_dictEpoch ho hdat ?_)))))
            rw [if_neg (by simp), if_neg Bool.false_ne_true]
            refine wpAny_bind (wpAny_rule ?_)
            rw [if_neg (by simp)]
            obtain ⟨b1, b2⟩ := b
            cases (show b1 = none from gb)
            exact wpAny_pure q
          · rintro x e b Q' ex hh eq gb none q
            rw [ex]
            dsimp only
            rw [if_pos hh]
            refine wpAny_bind (wpAny_dictEpoch ho hdat (wpAny_bind (eq _ (wpAny_bind (wpAny_dictEpoch ho hdat ?_)))))
            rw [if_neg (by simp), if_pos rfl]
            obtain ⟨b1, b2⟩ := b
            cases (show b1 = Option.none from gb)
            cases (show b2 = Option.none from none)
            rw [if_neg (by simp)]
            refine wpAny_bind (wpAny_rule ?_)
            split
            · exact wpAny_pure ((q _).2 ⟨⟨x, rfl⟩, rfl⟩)
            · exact wpAny_pure ((q _).1 ⟨rfl, rfl⟩)
          · rintro ⟨b1, b2⟩ gb ⟨f1, f2⟩
            rcases gb with gb | ⟨i, gb⟩
            · cases (show b1 = none from gb)
              cases b2 with
              | none => exact wpAny_pure (hn (f1 rfl))
              | some i =>
                obtain ⟨y, h1, h2⟩ := f2 i rfl
                exact wpAny_pure (hs i y h1 h2)
            · cases (show b1 = some (some i) from gb)
              obtain ⟨y, h1, h2⟩ := f2 i rfl
              exact wpAny_pure (hs i y h1 h2)
  · dsimp only
    rw [if_neg (show ¬ ((Value.ref a :: (placesWithHash es.size (fun i => es[i]?.map (·.hash)) (k.hash w)).filterMap (fun i => es[i]?.map (·.key))).all carriedByValue) = true by simp [carriedByValue])]
    have noChange : ¬ (es.any fun e => e.key == Value.ref a && e.hash != k.hash w) = true := by
      rw [← Array.any_toList, List.any_eq_true]
      rintro ⟨e, h, c⟩
      obtain ⟨x, h1, h2⟩ := rowOf e (Array.mem_toList_iff.mp h)
      subst h2
      simp only [entM, Bool.and_eq_true, beq_iff_eq, bne_iff_ne, ne_eq] at c
      obtain ⟨c1, c2⟩ := c
      have h3 := (hx.is x h1).1
      rw [c1] at h3
      exact c2 (by rw [NestedIs.inj _ _ _ h3 hk])
    rw [if_neg noChange]
    by_cases one : (((placesWithHash es.size (fun i => es[i]?.map (·.hash)) (k.hash w)).filterMap (fun i => es[i]?.map (·.key))) == [Value.ref a]) = true <;> (first | rw [if_pos one] | rw [if_neg one]) <;> (first | refine wpAny_bind (wpAny_pure ?_) | refine wpAny_bind (tell_quiet hk hd stKeys ?_))
    all_goals
      rw [if_neg (by simp)]
      refine wpAny_bind (find_walk hu hk hd ho hdat he hx _ (fun b => match (b : Option (Option Nat) × Option Nat).1 with | some i => i | none => b.2) (fun b => b.1 = none) (fun b => ∃ i, b.1 = some (some i)) (none, none) _ rfl rfl ?_ ?_ ?_)
      · rintro x e b Q' ex hh eq gb q
        rw [ex]
        dsimp only
        rw [if_pos hh]
        refine wpAny_bind (wpAny_dictEpoch ho hdat (wpAny_bind (eq _ (wpAny_bind (wpAny_dictEpoch ho hdat ?_)))))
        rw [if_neg (by simp), if_neg Bool.false_ne_true]
        refine wpAny_bind (wpAny_rule ?_)
        rw [if_neg (by simp)]
        obtain ⟨b1, b2⟩ := b
        cases (show b1 = none from gb)
        exact wpAny_pure q
      · rintro x e b Q' ex hh eq gb none q
        rw [ex]
        dsimp only
        rw [if_pos hh]
        refine wpAny_bind (wpAny_dictEpoch ho hdat (wpAny_bind (eq _ (wpAny_bind (wpAny_dictEpoch ho hdat ?_)))))
        rw [if_neg (by simp), if_pos rfl]
        obtain ⟨b1, b2⟩ := b
        cases (show b1 = Option.none from gb)
        cases (show b2 = Option.none from none)
        rw [if_neg (by simp)]
        refine wpAny_bind (wpAny_rule ?_)
        split
        · exact wpAny_pure ((q _).2 ⟨⟨x, rfl⟩, rfl⟩)
        · exact wpAny_pure ((q _).1 ⟨rfl, rfl⟩)
      · rintro ⟨b1, b2⟩ gb ⟨f1, f2⟩
        rcases gb with gb | ⟨i, gb⟩
        · cases (show b1 = none from gb)
          cases b2 with
          | none => exact wpAny_pure (hn (f1 rfl))
          | some i =>
            obtain ⟨y, h1, h2⟩ := f2 i rfl
            exact wpAny_pure (hs i y h1 h2)
        · cases (show b1 = some (some i) from gb)
          obtain ⟨y, h1, h2⟩ := f2 i rfl
          exact wpAny_pure (hs i y h1 h2)
end
end OgD
/-! OgDict2: such a dict in the abstract heap: in, d[k], d[k] = v, {}. -/
namespace OgD
open PySem PySem.Spec PyProof.Rows L2

mutual
inductive KeyV (H : Hp) : NestedKey → V → Prop
  | num (i : Int) : KeyV H (.num i) (.int i)
  | text (x : Str) : KeyV H (.text x) (.str x)
  | tup {a : Addr} {vs : List V} {ks : List NestedKey} : H a = some (.tup vs) → KeyVs H ks vs → KeyV H (.tup ks) (.ref a)
inductive KeyVs (H : Hp) : List NestedKey → List V → Prop
  | nil : KeyVs H [] []
  | cons {k : NestedKey} {v : V} {ks : List NestedKey} {vs : List V} : KeyV H k v → KeyVs H ks vs → KeyVs H (k :: ks) (v :: vs)
end
/-- the tuples stay -/
def KT0 (H H' : Hp) : Prop := ∀ a xs, H a = some (.tup xs) → H' a = some (.tup xs)
mutual
theorem KeyV.keeps {H H' : Hp} (t : KT0 H H') : ∀ {k : NestedKey} {v : V}, KeyV H k v → KeyV H' k v
  | _, _, .num i => .num i
  | _, _, .text x => .text x
  | _, _, .tup h1 h2 => .tup (t _ _ h1) (KeyVs.keeps t h2)
theorem KeyVs.keeps {H H' : Hp} (t : KT0 H H') : ∀ {k : List NestedKey} {v : List V}, KeyVs H k v → KeyVs H' k v
  | _, _, .nil => .nil
  | _, _, .cons h1 h2 => .cons (KeyV.keeps t h1) (KeyVs.keeps t h2)
end
mutual
theorem KeyV.nested {P : Program} {w : World} {H : Hp} {h : Heap} (ok : HOk P w H h) : ∀ {k : NestedKey} {v : V} {u : Value}, KeyV H k v → RelV v u → NestedIs h k u
  | _, _, _, .num i, r => by
    obtain ⟨t, rfl⟩ := r
    exact .int i t
  | _, _, _, .text x, r => by
    obtain ⟨t, rfl⟩ := r
    exact .text x t
  | _, _, _, .tup h1 h2, r => by
    cases r
    obtain ⟨_, its, rv, o, h3, h4, n, h5⟩ := (show ObjOk P w H h _ (.tup _) from ok _ _ h1)
    exact .tup h3 h4 h5 (by simpa using KeyVs.nested ok h2 rv)
theorem KeyVs.nested {P : Program} {w : World} {H : Hp} {h : Heap} (ok : HOk P w H h) : ∀ {k : List NestedKey} {v : List V} {u : List Value}, KeyVs H k v → Vals v u → NestedAll h k u
  | _, _, _, .nil, r => by
    cases r
    exact .nil
  | _, _, _, .cons h1 h2, r => by
    cases r with
    | cons r1 r2 => exact .cons (KeyV.nested ok h1 r1) (KeyVs.nested ok h2 r2)
end
theorem KeyV.kind {H : Hp} {k : NestedKey} {v : V} {u : Value} (h : KeyV H k v) (r : RelV v u) (ni : ∀ i, k ≠ .num i) : (∃ x t, u = .str x t) ∨ ∃ a, u = .ref a := by
  cases h with
  | num i => exact absurd rfl (ni i)
  | text x =>
    obtain ⟨t, e⟩ := r
    exact .inl ⟨x, t, e⟩
  | tup _ _ => exact .inr ⟨_, r⟩

/-- the object of such a dict -/
def mdO (w : World) (d : Addr) (rows : List Row3) : HO := .ext fun h => (d == sysModules) = false ∧ MDict w d rows h
theorem md_ok {P : Program} {w : World} {H : Hp} {h : Heap} {d : Addr} {rows : List Row3} (hd : (d == sysModules) = false) (m : MDict w d rows h) : ObjOk P w H h d (mdO w d rows) := by
  refine ⟨⟨hd, m⟩, let ⟨o, _, _, e, _⟩ := m; ⟨o, e⟩, fun h1 h2 p k => ⟨p.1, ?_⟩⟩
  obtain ⟨o, es, ep, e, r⟩ := p.2
  exact ⟨o, es, ep, k _ e, r⟩
def RowsR (H : Hp) : List (NestedKey × V) → List Row3 → Prop := Paired fun p r => p.1 = r.1 ∧ (∃ v, KeyV H r.1 v ∧ RelV v r.2.1) ∧ r.1.depth ≤ 8 ∧ RelV p.2 r.2.2
/-- at d stands a dict of these keys and values -/
def DM (w : World) (H : Hp) (d : Addr) (kvs : List (NestedKey × V)) : Prop := ∃ rows, H d = some (mdO w d rows) ∧ RowsR H kvs rows ∧ (kvs.map (·.1)).Nodup ∧ kvs.length ≤ sizeLine
theorem RowsR.keeps {H H' : Hp} {kvs : List (NestedKey × V)} {rows : List Row3} (r : RowsR H kvs rows) (t : KT0 H H') : RowsR H' kvs rows :=
  Paired.mapP r fun p q z => ⟨z.1, (let ⟨v, a, b⟩ := z.2.1; ⟨v, a.keeps t, b⟩), z.2.2⟩
theorem DM.keeps {w : World} {H H' : Hp} {d : Addr} {kvs : List (NestedKey × V)} (m : DM w H d kvs) (hd : ∀ o, H d = some o → H' d = some o) (t : KT0 H H') : DM w H' d kvs := by
  obtain ⟨rows, e, r, n, l⟩ := m
  exact ⟨rows, hd _ e, r.keeps t, n, l⟩
theorem RowsR.keys {H : Hp} {kvs : List (NestedKey × V)} {rows : List Row3} (r : RowsR H kvs rows) : kvs.map (·.1) = rows.map (·.1) := by
  unfold RowsR at r
  induction r with
  | nil => rfl
  | cons h t ih => rw [List.map_cons, List.map_cons, ih, h.1]
theorem RowsR.at {H : Hp} {kvs : List (NestedKey × V)} {rows : List Row3} (r : RowsR H kvs rows) (k : NestedKey) : RelO (valV kvs k) (rowAt rows k) := by
  unfold RowsR at r
  induction r with
  | nil => exact True.intro
  | @cons p q ps qs h t ih =>
    by_cases e : p.1 = k
    · have b : rowAt (q :: qs) k = some q.2.2 := by simp [rowAt, h.1.symm.trans e]
      rw [valV_pos e, b]
      exact h.2.2.2
    · have e' : ¬ q.1 = k := fun z => e (h.1.trans z)
      have b : rowAt (q :: qs) k = rowAt qs k := by simp [rowAt, List.find?_cons, e']
      rw [valV_neg e, b]
      exact ih
theorem RowsR.put {H : Hp} {kvs : List (NestedKey × V)} {rows : List Row3} (r : RowsR H kvs rows) {k : NestedKey} {kv : V} {ku : Value} {y : V} {u : Value} (hk : KeyV H k kv) (rk : RelV kv ku) (hd : k.depth ≤ 8) (ry : RelV y u) : RowsR H (putK kvs k y) (rowPut rows k ku u) := by
  unfold putK rowPut
  rw [valV_any, (r.at k).isSome_eq]
  by_cases e : (rowAt rows k).isSome = true
  · rw [if_pos e, if_pos e]
    unfold RowsR at r ⊢
    clear e
    induction r with
    | nil => exact .nil
    | @cons p q ps qs h t ih =>
      rw [List.map_cons, List.map_cons]
      refine .cons ?_ ih
      by_cases z : p.1 = k
      · rw [if_pos z, if_pos (h.1.symm.trans z)]
        exact ⟨h.1, h.2.1, h.2.2.1, ry⟩
      · rw [if_neg z, if_neg (fun q => z (h.1.trans q))]
        exact h
  · rw [if_neg e, if_neg e]
    exact Paired.snoc r ⟨rfl, ⟨kv, hk, rk⟩, hd, ry⟩
theorem nodup_put {kvs : List (NestedKey × V)} {k : NestedKey} {y : V} (n : (kvs.map (·.1)).Nodup) : ((putK kvs k y).map (·.1)).Nodup := by
  unfold putK
  by_cases e : (kvs.any fun kv => decide (kv.1 = k)) = true
  · rw [if_pos e, List.map_map]
    have : kvs.map ((·.1) ∘ fun kv => if kv.1 = k then (kv.1, y) else kv) = kvs.map (·.1) := List.map_congr_left fun x _ => by
      show (if x.1 = k then (x.1, y) else x).1 = x.1
      split <;> rfl
    rw [this]
    exact n
  · rw [if_neg e, List.map_append]
    refine nd_snoc n fun m => e ?_
    obtain ⟨p, hp, q⟩ := List.mem_map.mp m
    exact List.any_eq_true.mpr ⟨p, hp, decide_eq_true q⟩

theorem RowsR.each {H : Hp} {kvs : List (NestedKey × V)} {rows : List Row3} (r : RowsR H kvs rows) : ∀ x ∈ rows, ∃ v, KeyV H x.1 v ∧ RelV v x.2.1 ∧ x.1.depth ≤ 8 := by
  unfold RowsR at r
  induction r with
  | nil => intro x hx; cases hx
  | @cons p q ps qs h t ih =>
    intro x hx
    rcases List.mem_cons.mp hx with z | hx
    · subst z
      obtain ⟨v, a, b⟩ := h.2.1
      exact ⟨v, a, b, h.2.2.1⟩
    · exact ih x hx
theorem same_rest {rows : List Row3} {k : NestedKey} {r : Value} (h : ¬ k ∈ rows.map (·.1)) : rows.map (fun x => if x.1 = k then (x.1, x.2.1, r) else x) = rows := by
  have : rows.map (fun x => if x.1 = k then (x.1, x.2.1, r) else x) = rows.map id := List.map_congr_left fun x hx => if_neg fun e => h (List.mem_map.mpr ⟨x, hx, e⟩)
  rw [this, List.map_id]
theorem modify_rows {w : World} {k : NestedKey} {r : Value} : ∀ {rows : List Row3} {j : Nat} {x : Row3}, (rows.map (·.1)).Nodup → rows[j]? = some x → x.1 = k →
    (rows.map (entM w)).modify j (fun e => { e with val := r }) = (rows.map fun x => if x.1 = k then (x.1, x.2.1, r) else x).map (entM w)
  | [], _, _, _, h, _ => by simp at h
  | y :: rows, 0, x, n, h, e => by
    have h : y = x := by simpa using h
    subst h
    obtain ⟨n1, _⟩ := List.nodup_cons.mp (show (y.1 :: rows.map (·.1)).Nodup from n)
    rw [List.map_cons, List.map_cons, if_pos e, same_rest (e ▸ n1)]
    rfl
  | y :: rows, j + 1, x, n, h, e => by
    obtain ⟨n1, n2⟩ := List.nodup_cons.mp (show (y.1 :: rows.map (·.1)).Nodup from n)
    have h : rows[j]? = some x := by simpa using h
    have ne : ¬ y.1 = k := fun z => n1 (List.mem_map.mpr ⟨x, List.mem_of_getElem? h, e.trans z.symm⟩)
    have ih := modify_rows (w := w) (r := r) n2 h e
    rw [List.map_cons, List.map_cons, if_neg ne, List.map_cons, ← ih]
    rfl
section
variable {X : Cx} {pins : List (Addr × Obj)} {σ : L2.St} {H : Hp} {s : Shared} {d : Addr} {kvs : List (NestedKey × V)} {k : NestedKey} {y v : V} {u r : Value} {A : Around} {E : Value → Shared → Prop}
theorem dm_rows (I : Inv X pins σ H s) (m : DM X.w H d kvs) : ∃ rows, H d = some (mdO X.w d rows) ∧ RowsR H kvs rows ∧ (d == sysModules) = false ∧ MDict X.w d rows s.heap ∧ MKeys s.heap rows ∧ (∀ x ∈ rows, ∃ v, KeyV H x.1 v ∧ RelV v x.2.1) := by
  obtain ⟨rows, e, rr, n, l⟩ := m
  obtain ⟨⟨hd, md⟩, _, _⟩ := (show ObjOk X.prog X.w H s.heap d (mdO X.w d rows) from I.hok d _ e)
  have all := rr.each
  refine ⟨rows, e, rr, hd, md, ⟨fun x hx => ?_, ?_⟩, fun x hx => let ⟨v, a, b, _⟩ := all x hx; ⟨v, a, b⟩⟩
  · obtain ⟨v, a, b, c⟩ := all x hx
    exact ⟨a.nested I.hok b, c⟩
  · rw [← rr.keys]
    exact n
theorem dm_typeIs (I : Inv X pins σ H s) (m : DM X.w H d kvs) : s.TypeIs (.ref d) "dict" := by
  obtain ⟨_, _, _, _, ⟨o, _, _, e, c, _⟩, _⟩ := dm_rows I m
  exact ⟨o, e, c.1⟩
/-- what dictGet hands back -/
theorem dm_dictGet {Q : Option Value → Shared → Prop} (hu : A.units + 8 < cLine) (I : Inv X pins σ H s) (m : DM X.w H d kvs) (hk : KeyV H k y) (hd : k.depth ≤ 8) (ni : ∀ i, k ≠ .num i) (ry : RelV y u)
    (h : ∀ o s', Inv X pins σ H s' → RelO (valV kvs k) o → Q o s') : wpAny (model X.prog X.w) A (dictGet d u) Q E s := by
  obtain ⟨rows, e, rr, hs, ⟨o, es, ep, ho, hc, hdat, hes⟩, mk, _⟩ := dm_rows I m
  have nk := hk.nested I.hok ry
  unfold dictGet
  try with_reducible refine wpAny_holding ?_
  refine wpAny_bind (pyHash_key k u A s _ nk (by omega) (wpAny_bind ?_))
  refine find_key (s := { s with toks := s.toks + k.draws }) hu nk hd (hk.kind ry ni) ho hdat hes mk (fun no => ?_) fun j x hj ex => ?_
  · have q := rr.at k
    rw [rowAt_none no] at q
    exact wpAny_pure (h none _ (I.tok _) q)
  · have q := rr.at k
    rw [rowAt_some mk.nd hj ex] at q
    refine wpAny_bind (wpAny_dictEntries (s := { s with toks := s.toks + k.draws }) ho hdat ?_)
    rw [ent_at hes j, hj]
    exact wpAny_pure (h _ _ (I.tok _) q)
theorem dm_in {Q : Value → Shared → Prop} (hu : A.units + 10 < cLine) (I : Inv X pins σ H s) (m : DM X.w H d kvs) (hk : KeyV H k y) (hd : k.depth ≤ 8) (ni : ∀ i, k ≠ .num i) (ry : RelV y u) (neg : Bool)
    (h : ∀ s', Inv X pins σ H s' → Q (.bool (neg ^^ (valV kvs k).isSome)) s') : wpAny (model X.prog X.w) A (compareOp (if neg = true then .NotIn else .In) u (.ref d)) Q E s := by
  obtain ⟨_, _, _, hs, _, _, _⟩ := dm_rows I m
  have T := dm_typeIs I m
  have core : ∀ R : Bool → Shared → Prop, (∀ s', Inv X pins σ H s' → R (valV kvs k).isSome s') → wpAny (model X.prog X.w) A (contains (.ref d) u) R E s := fun R hR => by
    refine wpAny_contains_slot T F.slot_dict_contains ?_
    refine call_meetsIn F.slot_dict_contains T F.entry_dict_contains (F.args_dict_contains_2 _ _) (S := fun A' R' s' => A' = A ∧ s' = s ∧ ∀ s2, Inv X pins σ H s2 → R' (.ok (.ret (.bool (valV kvs k).isSome))) s2) (fun A' R' s' hS => ?_) ⟨rfl, rfl, fun s2 I2 => wpAny_truthy_bool (hR s2 I2)⟩
    obtain ⟨rfl, rfl, hq⟩ := hS
    show wpAny _ _ (dictGet d u >>= _) _ _ _
    refine wpAny_bind (dm_dictGet (A := A'.in1) (by rw [Around.in1_units]; omega) I m hk hd ni ry fun o s2 I2 ro => ?_)
    have eo := ro.isSome_eq
    cases o with
    | some z =>
      have eo : (valV kvs k).isSome = true := eo
      have hq := hq s2 I2
      rw [eo] at hq
      show wpAny _ _ (ret (.bool true)) _ _ _
      exact wpAny_pure hq
    | none =>
      have eo : (valV kvs k).isSome = false := eo
      have hq := hq s2 I2
      rw [eo] at hq
      show wpAny _ _ (Builtin.Dict.pendingKey? d u >>= _) _ _ _
      exact wpAny_bind (wpAny_pendingKey_other hs (wpAny_pure hq))
  cases neg
  · show wpAny _ _ (do return .bool (← contains (.ref d) u)) Q E s
    refine wpAny_bind (core _ fun s2 I2 => wpAny_pure ?_)
    have := h s2 I2
    rwa [Bool.false_xor] at this
  · show wpAny _ _ (do return .bool (!(← contains (.ref d) u))) Q E s
    refine wpAny_bind (core _ fun s2 I2 => wpAny_pure ?_)
    have := h s2 I2
    rwa [Bool.true_xor] at this
theorem dm_getItem {Q : Value → Shared → Prop} (hu : A.units + 10 < cLine) (I : Inv X pins σ H s) (m : DM X.w H d kvs) (hk : KeyV H k y) (hd : k.depth ≤ 8) (ni : ∀ i, k ≠ .num i) (ry : RelV y u) (l : valV kvs k = some v)
    (h : ∀ w' s', Inv X pins σ H s' → RelV v w' → Q w' s') : wpAny (model X.prog X.w) A (getItem (.ref d) u) Q E s := by
  have T := dm_typeIs I m
  unfold getItem
  try with_reducible refine wpAny_holding ?_
  refine wpAny_bind (wpAny_sequenceKey T (by decide) ?_)
  refine wpAny_bind (wpAny_callSpecial?_slot (name := Str.ofString "__getitem__") T slot_dict_getitem (wpAny_call_entry slot_dict_getitem T entry_dict_getitem ?_ (args_dict_getitem _ _)))
  show wpAny _ _ (dictGet d u >>= _) _ _ s
  refine wpAny_bind (dm_dictGet (by rw [Around.in1_units]; omega) I m hk hd ni ry fun o s2 I2 ro => ?_)
  rw [l] at ro
  obtain ⟨w', e, rw'⟩ := RelO.some_of ro
  subst e
  exact wpAny_pure ⟨w', rfl, wpAny_pure (h w' s2 I2 rw')⟩
theorem dm_setItem {Q : Unit → Shared → Prop} (hu : A.units + 10 < cLine) (I : Inv X pins σ H s) (m : DM X.w H d kvs) (hk : KeyV H k y) (hd : k.depth ≤ 8) (ni : ∀ i, k ≠ .num i) (ry : RelV y u) (rv : RelV v r) (hl : kvs.length < sizeLine)
    (h : ∀ H' s', Inv X pins σ H' s' → (∀ b, b ≠ d → H' b = H b) → DM X.w H' d (putK kvs k v) → Q () s') : wpAny (model X.prog X.w) A (setItem (.ref d) u r) Q E s := by
  have T := dm_typeIs I m
  obtain ⟨rows, e, rr, hs, ⟨o, es, ep, ho, hc, hdat, hes⟩, mk, _⟩ := dm_rows I m
  have nodup := (show (kvs.map (·.1)).Nodup from let ⟨_, _, _, n, _⟩ := m; n)
  have nk := hk.nested I.hok ry
  have lenR : rows.length = kvs.length := (Paired.length rr).symm
  have keep : ∀ ob, KT0 H (upd H d ob) := fun ob a xs q => by
    rw [upd_ne (ne_of q e (by intro z; cases z))]
    exact q
  have close : ∀ (s' : Shared) (rows' : List Row3) (h' : Heap) (t' : Nat), Inv X pins σ H s' → s'.heap = s.heap → RowsR H (putK kvs k v) rows' → MDict X.w d rows' h' → Heap.SameBut d s.heap h' → Q () { s' with heap := h', toks := t' } := fun s' rows' h' t' I' es' rr' md sb => by
    refine h (upd H d (mdO X.w d rows')) _ (d_write I' (by rw [e]; exact True.intro) (by rw [es']; exact sb) (let ⟨o, _, _, q, _⟩ := md; ⟨o, q⟩) (md_ok hs md)) (fun b hb => upd_ne hb) ?_
    refine ⟨rows', upd_same, rr'.keeps (keep _), nodup_put nodup, ?_⟩
    have := length_putK kvs k v
    omega
  unfold setItem
  try with_reducible refine wpAny_holding ?_
  refine wpAny_bind (wpAny_sequenceKey T (by decide) ?_)
  refine wpAny_bind (wpAny_callSpecial?_slot (name := Str.ofString "__setitem__") T slot_dict_setitem (wpAny_call_entry slot_dict_setitem T entry_dict_setitem ?_ (args_dict_setitem _ _ _)))
  show wpAny _ _ (Builtin.Dict.notOrdered "__setitem__" ⟨[.ref d, u, r], []⟩ >>= _) _ _ s
  refine wpAny_bind (wpAny_notOrdered_dict T ?_)
  show wpAny _ _ (dictSet d u r >>= _) _ _ s
  refine wpAny_bind ?_
  unfold dictSet
  try with_reducible refine wpAny_holding ?_
  refine wpAny_bind (pyHash_key k u _ s _ nk (by rw [Around.in1_units]; omega) ?_)
  unfold dictSetHashed
  try with_reducible refine wpAny_holding ?_
  refine wpAny_bind (find_key (s := { s with toks := s.toks + k.draws }) (by rw [Around.in1_units]; omega) nk hd (hk.kind ry ni) ho hdat hes mk (fun no => ?_) fun j x hj ex => ?_)
  · refine wpAny_bind (wpAny_rule (wpAny_updateDictKeys (hz := by have q := ent_size hes; omega) (s := { s with toks := s.toks + k.draws }) ho hdat (wpAny_pure ⟨.none, rfl, wpAny_pure ?_⟩)))
    refine close s (rowPut rows k u r) _ _ I rfl (rr.put hk ry hd rv) ⟨_, _, ep + 1, Heap.get?_update_self _ ho (Obj.isFreed_of_dict (Obj.data_mapDictKeys hdat _)), hc.mapDictKeys _, Obj.data_mapDictKeys hdat _, ?_⟩ (Heap.SameBut.update ..)
    unfold rowPut
    rw [rowAt_none no, if_neg (by decide)]
    simp [hes, entM]
  · refine wpAny_bind (wpAny_rule (wpAny_bind (wpAny_updateDict (s := { s with toks := s.toks + k.draws }) ho hdat (wpAny_point (wpAny_pure ⟨.none, rfl, wpAny_pure ?_⟩)))))
    refine close s (rowPut rows k u r) _ _ I rfl (rr.put hk ry hd rv) ⟨_, _, ep, Heap.get?_update_self _ ho (Obj.isFreed_of_dict (Obj.data_mapDict hdat _)), hc.mapDict _, Obj.data_mapDict hdat _, ?_⟩ (Heap.SameBut.update ..)
    have em := modify_rows (w := X.w) (r := r) mk.nd hj ex
    unfold rowPut
    rw [rowAt_some mk.nd hj ex, if_pos (show (some x.2.2).isSome = true from rfl), ← em, ← hes]
    simp
end

/-! ### readings and rules -/
/-- d[y] -/
def tMGet (w : World) (td ty : TE) : TE := fun σ H Q => td σ H fun x H1 => ty σ H1 fun y H2 => ∃ d kvs k v, x = .ref d ∧ DM w H2 d kvs ∧ KeyV H2 k y ∧ k.depth ≤ 8 ∧ (∀ i, k ≠ .num i) ∧ valV kvs k = some v ∧ Q v H2
/-- y in d, y not in d -/
def tMIn (w : World) (neg : Bool) (ty td : TE) : TE := fun σ H Q => ty σ H fun y H1 => td σ H1 fun x H2 => ∃ d kvs k, x = .ref d ∧ DM w H2 d kvs ∧ KeyV H2 k y ∧ k.depth ≤ 8 ∧ (∀ i, k ≠ .num i) ∧ Q (.bl (neg ^^ (valV kvs k).isSome)) H2
/-- d[y] = v -/
def sMPut (w : World) (td ty tv : TE) : TS := fun D σ H => tv σ H fun v H1 => td σ H1 fun x H2 => ty σ H2 fun y H3 => ∃ d kvs k, x = .ref d ∧ DM w H3 d kvs ∧ KeyV H3 k y ∧ k.depth ≤ 8 ∧ (∀ i, k ≠ .num i) ∧ kvs.length < sizeLine ∧
  ∀ H4, (∀ b, b ≠ d → H4 b = H3 b) → DM w H4 d (putK kvs k v) → D.nx σ H4
section
variable {X : Cx} {o i value : Expr} {pos pos' : Pos} {td ty tv : TE}
theorem dm_dict {pins : List (Addr × Obj)} {σ : L2.St} {H : Hp} {s : Shared} {d : Addr} {kvs : List (NestedKey × V)} (I : L2.Inv X pins σ H s) (m : DM X.w H d kvs) : s.TypeIs (.ref d) "dict" := dm_typeIs I m
theorem pe_mget (hu : X.A.units + 10 < cLine) (ho : PE X o td) (hi : PE X i ty) (hs : NoSl i) : PE X (.Subscript o i pos) (tMGet X.w td ty) := by
  refine ⟨fun pins s σ H Q I h => ?_⟩
  refine subD_of PySem.F.slot_dict_getitem.lookup hs (thn (ho.run pins s σ H _ I h) fun u s1 ⟨x, H1, I1, rx, q1⟩ => thn (hi.run pins s1 σ H1 _ I1 q1) fun iv s2 ⟨y, H2, I2, ry, d, kvs, k, v, ex, m, hk, hd, ni, l, q2⟩ => ?_)
  subst ex
  cases rx
  exact ⟨dm_typeIs I2 m, dm_getItem hu I2 m hk hd ni ry l fun w' s3 I3 rw' => ⟨v, H2, I3, rw', q2⟩⟩
theorem pc_min (hu : X.A.units + 10 < cLine) (hi : PE X i ty) (ho : PE X o td) : PC X .In i o (tMIn X.w false ty td) := by
  refine ⟨fun pins s σ H Q I h => ?_⟩
  refine thn (hi.run pins s σ H _ I h) fun iv s1 ⟨y, H1, I1, ry, q1⟩ => thn (ho.run pins s1 σ H1 _ I1 q1) fun u s2 ⟨x, H2, I2, rx, d, kvs, k, ex, m, hk, hd, ni, q2⟩ => ?_
  subst ex
  cases rx
  exact dm_in hu I2 m hk hd ni ry false fun s3 I3 => ⟨.bl _, H2, I3, rfl, q2⟩
theorem pc_mnotin (hu : X.A.units + 10 < cLine) (hi : PE X i ty) (ho : PE X o td) : PC X .NotIn i o (tMIn X.w true ty td) := by
  refine ⟨fun pins s σ H Q I h => ?_⟩
  refine thn (hi.run pins s σ H _ I h) fun iv s1 ⟨y, H1, I1, ry, q1⟩ => thn (ho.run pins s1 σ H1 _ I1 q1) fun u s2 ⟨x, H2, I2, rx, d, kvs, k, ex, m, hk, hd, ni, q2⟩ => ?_
  subst ex
  cases rx
  exact dm_in hu I2 m hk hd ni ry true fun s3 I3 => ⟨.bl _, H2, I3, rfl, q2⟩
theorem ps_mput (hu : X.A.units + 10 < cLine) (ho : PE X o td) (hi : PE X i ty) (hv : PE X value tv) (hs : swapsWith value (some (.Subscript o i pos')) pos.line X.env = pure false) : PS X (.Assign [.Subscript o i pos'] value pos) (sMPut X.w td ty tv) := by
  refine ⟨fun pins s σ H D I h => ?_⟩
  refine wpAny_Assign_Subscript (thn (hv.run pins s σ H _ I h) fun r s1 ⟨v, H1, I1, rv, q1⟩ => thn (ho.run pins s1 σ H1 _ I1 q1) fun u s2 ⟨x, H2, I2, rx, q2⟩ => thn (hi.run pins s2 σ H2 _ I2 q2) fun iv s3 ⟨y, H3, I3, ry, d, kvs, k, ex, m, hk, hd, ni, hl, q3⟩ => ?_) hs
  subst ex
  cases rx
  exact dm_setItem hu I3 m hk hd ni ry rv hl fun H4 s4 I4 keep m4 => ⟨σ, H4, I4, q3 H4 keep m4⟩
/-- {}, to be such a dict -/
def tMNew (w : World) : TE := fun _ H Q => ∀ p H', H p = none → (∀ b, b ≠ p → H' b = H b) → DM w H' p [] → Q (.ref p) H'
theorem pe_mnew : PE X (.Dict [] [] pos) (tMNew X.w) := ⟨fun pins s σ H Q I h => by
  have fr := I.hok.fresh (Nat.le_refl s.heap.objs.size)
  have hb : (s.heap.objs.size == sysModules) = false := beq_eq_false_iff_ne.mpr (Ne.symm (Nat.ne_of_lt I.big))
  have md : MDict X.w s.heap.objs.size [] (s.heap.push { cls := .type "dict", data := .dict #[] }) := ⟨_, #[], 0, Heap.get?_push_size _ rfl, ⟨rfl, rfl, rfl⟩, rfl, rfl⟩
  exact wpAny_Dict_empty ⟨.ref s.heap.objs.size, _, I.laid (a := s.heap.objs.size) (o := mdO X.w s.heap.objs.size []) (t' := s.toks) (fun _ _ q => Heap.get?_push_of_some _ q) (Nat.le_refl _) (md_ok hb md), rfl,
    h _ _ fr (fun b hb => upd_ne hb) ⟨[], upd_same, .nil, List.nodup_nil, Nat.zero_le _⟩⟩⟩
end
end OgD
/-! OgDict3: the values of such a dict, gone along. -/
namespace OgD
open PySem PySem.Spec PyProof.Rows L2
/-- the values of a locked dict -/
def Itm (w : World) (d : Addr) (od : Obj) (rows : List Row3) : It :=
  ⟨fun i H => H d = some (.frz od (mdO w d rows)) ∧ ∃ r x, rows[i]? = some r ∧ RelV x r.2.2, fun i H x H' => H' = H ∧ ∃ r, rows[i]? = some r ∧ RelV x r.2.2, fun i H => H d = some (.frz od (mdO w d rows)) ∧ rows.length ≤ i⟩
theorem frz_rows {X : Cx} {pins : List (Addr × Obj)} {σ : L2.St} {H : Hp} {s : Shared} {d : Addr} {od : Obj} {rows : List Row3} (I : L2.Inv X pins σ H s) (e : H d = some (.frz od (mdO X.w d rows))) :
    (d == sysModules) = false ∧ s.heap.get? d = some od ∧ od.ExactDict ∧ ∃ es ep, od.data = .dict es ep ∧ es.toList = rows.map (entM X.w) := by
  obtain ⟨g, ⟨hd, o, es, ep, g2, c, dd, ee⟩, _, _⟩ := (show ObjOk X.prog X.w H s.heap d (.frz od (mdO X.w d rows)) from I.hok d _ e)
  rw [g] at g2
  cases g2
  exact ⟨hd, g, c, es, ep, dd, ee⟩
theorem turn_mvals {P : Program} {w : World} {K : PySem.W.Frag} {tg : Expr} {d : Addr} {od : Obj} {rows : List Row3} {es : Array DictEntry} {ep : Nat} (it : Addr) (hod : od.data = .dict es ep) :
    Turn P w K tg (Itm w d od rows) [it] it (fun i h => h.IsValIter it d i es.size ep) where
  mem := by simp
  obj := fun i h st b hb => by
    have e : b = it := by simpa using hb
    subst e
    obtain ⟨o, e, c, q⟩ := st
    exact ⟨o, e, fun v z => by rw [q] at z; cases z⟩
  keep := fun i h h' st k => st.at fun o e => k it (by simp) o e
  item := by
    intro X hP hw hK hc i pins s σ H E I hf st hg
    subst hP hw hK
    obtain ⟨hd, r, x, hr, rx⟩ := hg
    have hi := (List.getElem?_eq_some_iff.mp hr).1
    obtain ⟨f0, f1, f2, f3, f4, f5⟩ := hf it (by simp)
    obtain ⟨hs, g, c, es', ep', dd, ee⟩ := frz_rows I hd
    rw [hod] at dd
    cases dd
    have sz := ent_size ee
    have lt : i < es.size := by omega
    refine wpAny_pyNext_values_item_raw st ⟨od, g, c, hod⟩ lt fun h' st' sb => ?_
    have I1 : L2.Inv X pins σ H { s with heap := h' } := I.turned (t' := s.toks) (fun b o hb e => (sb.2 b hb).trans e) f0 f1 f3 f4 f5
    obtain ⟨o, e, c', q⟩ := id st'
    have er : es[i]? = (rows[i]?).map (entM X.w) := ent_at ee i
    rw [Array.getElem?_eq_getElem lt, hr, Option.map_some] at er
    have er := Option.some.inj er
    refine ⟨_, rfl, go_of (s := { s with heap := h' }) e c' q (by decide) ⟨x, H, I1, ?_, ⟨rfl, r, hr, rx⟩, st', fun b hb => (hf b hb).1⟩⟩
    rw [er]
    exact rx
  done := by
    intro X hP hw hK hc i pins s σ H E I hf st hg
    subst hP hw hK
    obtain ⟨hd, hi⟩ := hg
    obtain ⟨f0, f1, f2, f3, f4, f5⟩ := hf it (by simp)
    obtain ⟨hs, g, c, es', ep', dd, ee⟩ := frz_rows I hd
    rw [hod] at dd
    cases dd
    have sz := ent_size ee
    exact wpAny_pyNext_values_end_raw (I.ok.hd hc) st ⟨od, g, c, hod⟩ (by omega) fun h' eb => ⟨rfl, I.turned (t' := s.toks) (fun b o hb e => eb b o hb e) f0 f1 f3 f4 f5⟩
  self := fun A i s Q E st h => wpAny_pyIter_valiter st h
def iMVals (w : World) (td : TE) : TI := fun σ H R => td σ H fun x H1 => ∃ d od rows, x = .ref d ∧ H1 d = some (.frz od (mdO w d rows)) ∧ R (Itm w d od rows) H1
theorem pi_mvalues {X : Cx} {tg e : Expr} {td : TE} {apos cpos : Pos} (he : PE X e td) (hbase : attributeBase e "values" X.env (eval e X.env) = eval e X.env := by rfl) (hline : (apos.endLine == cpos.line) = true := by rfl) : PI X tg (.Call (.Attribute e "values" apos) [] [] cpos) (iMVals X.w td) := by
  refine ⟨fun pins s σ H R I h => ?_⟩
  refine wpAny_Call_method (T := "dict") (id := "dict.values") hbase rfl hline F.plainAttrs_dict F.slot_dict_values F.type_dict_values (thn (he.run pins s σ H _ I h) fun u s1 ⟨x, H1, I1, rx, d, od, rows, ex, hd, q⟩ => ?_)
  subst ex
  obtain rfl : u = Value.ref d := rx
  obtain ⟨hs, g, c, es, ep, dd, ee⟩ := frz_rows I1 hd
  have raw : s1.heap.DictRaw d es ep := ⟨od, g, c, dd⟩
  refine ⟨raw.typeIs, fun b q => ?_, ?_⟩
  · cases q
    exact ⟨od, g, c.2.1⟩
  have I2 : L2.Inv X pins σ H1 { s1 with heap := s1.heap.push { cls := .type "dict_values", data := .fields #[.ref d] } } := I1.kept (t' := s1.toks) fun b ob q => Heap.get?_push_of_some _ q
  have fin : wpAny (model X.prog X.w) X.A (pyIter (.ref s1.heap.objs.size)) (PIE X pins σ tg R) X.xe { s1 with heap := s1.heap.push { cls := .type "dict_values", data := .fields #[.ref d] } } :=
    wpAny_pyIter_values_raw (d := d) ⟨_, Heap.get?_push_size _ rfl, rfl, rfl⟩ (raw.at fun o e => Heap.get?_push_of_some _ e) (pi_one (tk := s1.toks) I2 _ (turn_mvals _ dd) ⟨_, Heap.get?_push_size _ rfl, rfl, rfl⟩ q)
  show wpAny _ _ (callWith cpos (.builtin "dict.values") [.ref d] [] []) _ X.xe s1
  exact method_meetsIn F.slot_dict_values F.entry_dict_values rfl (PySem.evalArgs_none ⟨rfl, raw.typeIs, F.args_dict_values_1 _, _, meets_dict_values_raw d hs, ⟨⟨es, ep, raw⟩, fin⟩⟩)
end OgD
/-! OgRep: how values stand in the heap: as texts and tuples; by number in a store. -/
namespace OgW
open PySem PySem.Spec PyProof.Rows L2 OgD Og

/-- a tuple: tracked, or of the written part -/
def TupAt (K : PySem.W.Frag) (H : Hp) (a : Addr) (xs : List V) : Prop :=
  H a = some (.tup xs) ∨ ∃ (o : Obj) (its : Array Value) (n : Nat), K.lookup a = some o ∧ o.cls = .type "tuple" ∧ o.data = .seq its n ∧ its.size ≤ sizeLine ∧ Vals xs its.toList
theorem TupAt.seq {K : PySem.W.Frag} {H : Hp} {a : Addr} {xs : List V} (h : TupAt K H a xs) : SqT K H a xs := by
  rcases h with h | h
  · exact .inl (.inl h)
  · exact .inr h
theorem TupAt.keeps {K : PySem.W.Frag} {H H' : Hp} {a : Addr} {xs : List V} (t : KT0 H H') (h : TupAt K H a xs) : TupAt K H' a xs := by
  rcases h with h | h
  · exact .inl (t _ _ h)
  · exact .inr h
mutual
def RepV (K : PySem.W.Frag) (H : Hp) : Val → V → Prop
  | .w x, v => v = .str x
  | .nil, v => ∃ a, v = .ref a ∧ TupAt K H a []
  | .cons h t, v => ∃ a y ys, v = .ref a ∧ TupAt K H a (y :: ys) ∧ RepV K H h y ∧ RepL K H t ys
def RepL (K : PySem.W.Frag) (H : Hp) : Val → List V → Prop
  | .w _, _ => False
  | .nil, vs => vs = []
  | .cons h t, vs => ∃ y ys, vs = y :: ys ∧ RepV K H h y ∧ RepL K H t ys
end
mutual
theorem RepV.keeps {K : PySem.W.Frag} {H H' : Hp} (t : KT0 H H') : ∀ {x : Val} {v : V}, RepV K H x v → RepV K H' x v
  | .w _, _, h => h
  | .nil, _, h => let ⟨a, e, q⟩ := h; ⟨a, e, q.keeps t⟩
  | .cons _ _, _, h => let ⟨a, y, ys, e, q, r, l⟩ := h; ⟨a, y, ys, e, q.keeps t, RepV.keeps t r, RepL.keeps t l⟩
theorem RepL.keeps {K : PySem.W.Frag} {H H' : Hp} (t : KT0 H H') : ∀ {x : Val} {v : List V}, RepL K H x v → RepL K H' x v
  | .w _, _, h => h
  | .nil, _, h => h
  | .cons _ _, _, h => let ⟨y, ys, e, r, l⟩ := h; ⟨y, ys, e, RepV.keeps t r, RepL.keeps t l⟩
end
/-- a list stands as a tuple of its items -/
theorem RepV.list {K : PySem.W.Frag} {H : Hp} {x : Val} {v : V} (h : RepV K H x v) (hx : x.isW = false) : ∃ a vs, v = .ref a ∧ TupAt K H a vs ∧ RepL K H x vs := by
  cases x with
  | w _ => cases hx
  | nil =>
    obtain ⟨a, e, q⟩ := h
    exact ⟨a, [], e, q, rfl⟩
  | cons h' t =>
    obtain ⟨a, y, ys, e, q, r, l⟩ := h
    exact ⟨a, y :: ys, e, q, y, ys, rfl, r, l⟩
theorem RepV.of {K : PySem.W.Frag} {H : Hp} {x : Val} {a : Addr} {vs : List V} (q : TupAt K H a vs) (l : RepL K H x vs) : RepV K H x (.ref a) := by
  cases x with
  | w _ => exact l.elim
  | nil =>
    have e : vs = [] := l
    subst e
    exact ⟨a, rfl, q⟩
  | cons h t =>
    obtain ⟨y, ys, e, r, l⟩ := l
    subst e
    exact ⟨a, y, ys, rfl, q, r, l⟩
/-- items, one by one -/
theorem RepL.items {K : PySem.W.Frag} {H : Hp} : ∀ {x : Val} {vs : List V}, RepL K H x vs → Paired (fun (y : Val) (v : V) => RepV K H y v) x.items vs
  | .w _, _, h => h.elim
  | .nil, _, h => by
    have e : _ = [] := h
    subst e
    exact .nil
  | .cons _ _, _, h => by
    obtain ⟨y, ys, e, r, l⟩ := h
    subst e
    exact .cons r (RepL.items l)
theorem RepL.of {K : PySem.W.Frag} {H : Hp} : ∀ {l : List Val} {vs : List V}, Paired (fun (y : Val) (v : V) => RepV K H y v) l vs → RepL K H (listV l) vs
  | [], _, h => by
    cases h
    rfl
  | _ :: _, _, h => by
    cases h with
    | cons r t => exact ⟨_, _, rfl, r, RepL.of t⟩
theorem listV_items : ∀ {x : Val}, x.ok = true → x.isW = false → listV x.items = x
  | .w _, _, h => by cases h
  | .nil, _, _ => rfl
  | .cons h t, e, _ => by
    have e : (h.ok && (!t.isW && t.ok)) = true := e
    obtain ⟨_, e⟩ := Bool.and_eq_true_iff.mp e
    obtain ⟨e1, e2⟩ := Bool.and_eq_true_iff.mp e
    show Val.cons h (listV t.items) = _
    rw [listV_items e2 (by simpa using e1)]
theorem items_listV : ∀ l : List Val, (listV l).items = l
  | [] => rfl
  | a :: l => by
    show a :: (listV l).items = _
    rw [items_listV l]
theorem listV_isW : ∀ l : List Val, (listV l).isW = false
  | [] => rfl
  | _ :: _ => rfl
mutual
theorem RepV.ok {K : PySem.W.Frag} {H : Hp} : ∀ {x : Val} {v : V}, RepV K H x v → x.ok = true
  | .w _, _, _ => rfl
  | .nil, _, _ => rfl
  | .cons h t, _, q => by
    obtain ⟨a, y, ys, e, q, r, l⟩ := q
    obtain ⟨l1, l2⟩ := RepL.ok l
    show (h.ok && (!t.isW && t.ok)) = true
    rw [RepV.ok r, l1, l2]
    rfl
theorem RepL.ok {K : PySem.W.Frag} {H : Hp} : ∀ {x : Val} {v : List V}, RepL K H x v → x.isW = false ∧ x.ok = true
  | .w _, _, q => q.elim
  | .nil, _, _ => ⟨rfl, rfl⟩
  | .cons h t, _, q => by
    obtain ⟨y, ys, e, r, l⟩ := q
    obtain ⟨l1, l2⟩ := RepL.ok l
    refine ⟨rfl, ?_⟩
    show (h.ok && (!t.isW && t.ok)) = true
    rw [RepV.ok r, l1, l2]
    rfl
end
/-! ### looked at in the written part -/
mutual
def repVB (K : PySem.W.Frag) : Val → Value → Bool
  | .w x, v => (match v with
    | .str y _ => decide (y = x)
    | _ => false)
  | .nil, v => (match v with
    | .ref a => (match K.lookup a with
      | some ⟨.type c, _, .seq its _, _⟩ => decide (c = "tuple") && decide (its.toList = [])
      | _ => false)
    | _ => false)
  | .cons h t, v => (match v with
    | .ref a => (match K.lookup a with
      | some ⟨.type c, _, .seq its _, _⟩ => decide (c = "tuple") && (decide (its.size ≤ sizeLine) && (match its.toList with
        | y :: ys => repVB K h y && repLB K t ys
        | [] => false))
      | _ => false)
    | _ => false)
def repLB (K : PySem.W.Frag) : Val → List Value → Bool
  | .w _, _ => false
  | .nil, vs => (match vs with
    | [] => true
    | _ :: _ => false)
  | .cons h t, vs => (match vs with
    | y :: ys => repVB K h y && repLB K t ys
    | [] => false)
end
mutual
theorem repVB_ok {K : PySem.W.Frag} : ∀ {x : Val} {v : Value}, repVB K x v = true → ∃ u, RelV u v ∧ ∀ H, RepV K H x u
  | .w x, v, h => by
    unfold repVB at h
    split at h
    · have e := of_decide_eq_true h
      subst e
      exact ⟨.str _, ⟨_, rfl⟩, fun _ => rfl⟩
    · cases h
  | .nil, v, h => by
    unfold repVB at h
    split at h
    · rename_i a
      split at h
      · rename_i c od its n sl e
        obtain ⟨h1, h2⟩ := Bool.and_eq_true_iff.mp h
        have z := of_decide_eq_true h2
        have zz : its.size = 0 := by rw [← Array.length_toList, z]; rfl
        refine ⟨.ref a, rfl, fun H => ⟨a, rfl, .inr ⟨_, its, n, e, congrArg Value.type (of_decide_eq_true h1), rfl, by omega, by rw [z]; exact .nil⟩⟩⟩
      · cases h
    · cases h
  | .cons x t, v, h => by
    unfold repVB at h
    split at h
    · rename_i a
      split at h
      · rename_i c od its n sl e
        obtain ⟨h1, h2⟩ := Bool.and_eq_true_iff.mp h
        obtain ⟨h3, h4⟩ := Bool.and_eq_true_iff.mp h2
        split at h4
        · rename_i y ys ey
          obtain ⟨h5, h6⟩ := Bool.and_eq_true_iff.mp h4
          obtain ⟨u, r1, r2⟩ := repVB_ok h5
          obtain ⟨us, r3, r4⟩ := repLB_ok h6
          exact ⟨.ref a, rfl, fun H => ⟨a, u, us, rfl, .inr ⟨_, its, n, e, congrArg Value.type (of_decide_eq_true h1), rfl, of_decide_eq_true h3, by rw [ey]; exact .cons r1 r3⟩, r2 H, r4 H⟩⟩
        · cases h4
      · cases h
    · cases h
theorem repLB_ok {K : PySem.W.Frag} : ∀ {x : Val} {vs : List Value}, repLB K x vs = true → ∃ us, Vals us vs ∧ ∀ H, RepL K H x us
  | .w _, _, h => by
    unfold repLB at h
    cases h
  | .nil, vs, h => by
    unfold repLB at h
    split at h
    · exact ⟨[], .nil, fun _ => rfl⟩
    · cases h
  | .cons x t, vs, h => by
    unfold repLB at h
    split at h
    · rename_i y ys
      obtain ⟨h5, h6⟩ := Bool.and_eq_true_iff.mp h
      obtain ⟨u, r1, r2⟩ := repVB_ok h5
      obtain ⟨us, r3, r4⟩ := repLB_ok h6
      exact ⟨u :: us, .cons r1 r3, fun H => ⟨u, us, rfl, r2 H, r4 H⟩⟩
    · cases h
end
end OgW
/-! OgText: the text by places. Printed by gen_head.py. -/
namespace OgT
open PySem PySem.Spec PyProof.Rows L2
/-! ### the text -/
def top (i : Nat) : Stmt := PySem.Challenge.pw_ownglass_k47_whole_never_through_univers.main.body.getD i (.Pass ⟨0, 0, 0, 0⟩)
abbrev s_is_word : Stmt := top 8
abbrev s_has_head : Stmt := top 9
abbrev s_counts_of : Stmt := top 10
abbrev s_name_fits : Stmt := top 11
abbrev s_parameters_fit : Stmt := top 12
abbrev s_body_fits : Stmt := top 13
abbrev s_check_program : Stmt := top 14
abbrev s_inputs_of : Stmt := top 15
abbrev s_Store_init : Stmt := inClass (top 20) 0
abbrev s_Store_number_of : Stmt := inClass (top 20) 1
abbrev s_Store_is_word : Stmt := inClass (top 20) 2
abbrev s_Store_first : Stmt := inClass (top 20) 3
abbrev s_Store_rest : Stmt := inClass (top 20) 4
abbrev s_Store_pair_up : Stmt := inClass (top 20) 5
abbrev s_Store_put : Stmt := inClass (top 20) 6
abbrev s_Store_items_of : Stmt := inClass (top 20) 7
abbrev s_Run_init : Stmt := inClass (top 23) 0
abbrev s_Machine_init : Stmt := inClass (top 24) 0
abbrev s_Machine_begin : Stmt := inClass (top 24) 1
abbrev s_Machine_is_done : Stmt := inClass (top 24) 2
abbrev s_Machine_go_on : Stmt := inClass (top 24) 3
abbrev s_Machine_evaluate : Stmt := inClass (top 24) 4
abbrev s_Machine_do : Stmt := inClass (top 24) 5
abbrev s_started : Stmt := top 25
abbrev s_run_program : Stmt := top 26
abbrev s_watch_program : Stmt := top 29
abbrev s_open_calls : Stmt := top 30
abbrev s_check_never : Stmt := top 31
abbrev s_universal : Stmt := top 34
abbrev s_law_draws : Stmt := top 36
abbrev s_law_take : Stmt := top 37
abbrev s_law_value : Stmt := top 38
abbrev s_law_do : Stmt := top 39
abbrev s_law_run : Stmt := top 40
abbrev s_law_endless : Stmt := top 41
abbrev s_law : Stmt := top 42
end OgT
/-! OgW0: defs of the text, calls of them; entries of a store. -/
namespace OgW
open PySem PySem.Spec PyProof.Rows L2 OgD Og

section
variable {P : Program} {w : World} {K : PySem.W.Frag} {mg : Str → Option Value} {base : Heap}
/-- a def's proof, no exception leaving -/
theorem ok0 {x qual : Str} {st : Stmt} {f : Addr} {fd : FuncData} {kws : List (Str × V)} {N ps : List Str} {k : Nat} {sp : Sp} (F : FunD K x qual (defArgs st) (defBody st) (defScope st) [] kws f fd) (S : FnScope N ps (defScope st)) (len : ∀ vs H Q E, sp vs H Q E → vs.length = ps.length)
    (hbody : ∀ (cdv : Value) (A : Around) (outer : List Env) (s : Shared) (H : Hp) (vs : List V) (Q : VK) (E : XK), Room k (A.deeper (envOfC qual (defScope st) s.heap.objs.size f cdv)) → sp vs H Q E →
      ∃ t, PSs (cxOf CX0 P w K mg base N qual (defScope st) f cdv A outer s H E).nox (defBody st) t ∧ t { nx := fun _ H' => Q .non H', rt := Q } (start N vs) H) : FnOk P w K mg base CX0 (k + 1) f fd ps sp :=
  F.ok S len fun cdv A outer s H vs Q E hr hsp => let ⟨t, h, q⟩ := hbody cdv A outer s H vs Q E hr hsp; ⟨t, h.nox, q⟩
end
/-- the module's def x keeps a promise -/
def Glob (P : Program) (w : World) (K : PySem.W.Frag) (mg : Str → Option Value) (base : Heap) (x : Str) (k : Nat) (ps : List Str) (sp : Sp) : Prop :=
  ∃ f fd, FnOk P w K mg base CX0 k f fd ps sp ∧ mg x = some (.ref f) ∧ PySem.W.keepIn K (.ref f) = true ∧ Binds K fd ps []
/-- the method m of the class at C does -/
def Mth (P : Program) (w : World) (K : PySem.W.Frag) (mg : Str → Option Value) (base : Heap) (C : Addr) (m : Str) (k : Nat) (ps : List Str) (sp : Sp) : Prop :=
  ∃ f fd, FnOk P w K mg base CX0 k f fd ps sp ∧ Meth K C m f ∧ Binds K fd ps []
/-- an expression that is never come to -/
theorem pe_no {X : Cx} {e : Expr} : PE X e (fun _ _ _ => False) := ⟨fun _ _ _ _ _ _ h => h.elim⟩
theorem pt_no {X : Cx} {e : Expr} : PT X e (fun _ _ _ => False) := ⟨fun _ _ _ _ _ _ h => h.elim⟩
theorem hu10 {A : Around} {k : Nat} (hr : Room k A) : A.units + 10 < cLine := by
  have := hr.units
  omega
/-! ### the three classes -/
abbrev CS (K : PySem.W.Frag) : Addr := He.ga K "Store"
abbrev CR (K : PySem.W.Frag) : Addr := He.ga K "Run"
abbrev CM (K : PySem.W.Frag) : Addr := He.ga K "Machine"

/-! ### entries -/
inductive Ent where
  | w (x : Str) | p (i j : Nat)
  deriving DecidableEq
def keyOf : Ent → NestedKey
  | .w x => .text x
  | .p i j => .tup [.num i, .num j]
theorem keyOf_inj {a b : Ent} (h : keyOf a = keyOf b) : a = b := by
  cases a <;> cases b <;> simp [keyOf] at h
  · rw [h]
  · rw [Int.ofNat_inj.mp h.1, Int.ofNat_inj.mp h.2]
theorem keyOf_depth (e : Ent) : (keyOf e).depth ≤ 8 := by
  cases e
  · show 0 ≤ 8
    decide
  · show max 0 (max 0 0) + 1 ≤ 8
    decide
theorem keyOf_num (e : Ent) : ∀ i, keyOf e ≠ .num i := fun i h => by cases e <;> cases h
/-- n is the number of the value -/
def Den (E : List Ent) : Val → Nat → Prop
  | .w x, n => ∃ m, n = m + 1 ∧ E[m]? = some (.w x)
  | .nil, n => n = 0
  | .cons h t, n => ∃ m i j, n = m + 1 ∧ E[m]? = some (.p i j) ∧ Den E h i ∧ Den E t j ∧ t.isW = false
def Ext (E E' : List Ent) : Prop := ∃ F, E' = E ++ F
theorem Ext.refl (E : List Ent) : Ext E E := ⟨[], by simp⟩
theorem Ext.trans {E E1 E2 : List Ent} (a : Ext E E1) (b : Ext E1 E2) : Ext E E2 := by
  obtain ⟨F, rfl⟩ := a
  obtain ⟨G, rfl⟩ := b
  exact ⟨F ++ G, by simp⟩
theorem Ext.get {E E' : List Ent} (a : Ext E E') {m : Nat} {e : Ent} (h : E[m]? = some e) : E'[m]? = some e := by
  obtain ⟨F, rfl⟩ := a
  have l := (List.getElem?_eq_some_iff.mp h).1
  rw [List.getElem?_append_left l]
  exact h
theorem Den.ext {E E' : List Ent} (a : Ext E E') : ∀ {x : Val} {n : Nat}, Den E x n → Den E' x n
  | .w _, _, ⟨m, e, h⟩ => ⟨m, e, a.get h⟩
  | .nil, _, h => h
  | .cons _ _, _, ⟨m, i, j, e, h, h1, h2, h3⟩ => ⟨m, i, j, e, a.get h, Den.ext a h1, Den.ext a h2, h3⟩
theorem Den.le {E : List Ent} : ∀ {x : Val} {n : Nat}, Den E x n → n ≤ E.length
  | .w _, _, ⟨m, e, h⟩ => by
    have := (List.getElem?_eq_some_iff.mp h).1
    omega
  | .nil, _, h => by
    have h : _ = 0 := h
    omega
  | .cons _ _, _, ⟨m, i, j, e, h, _, _, _⟩ => by
    have := (List.getElem?_eq_some_iff.mp h).1
    omega
theorem Den.inj {E : List Ent} : ∀ {x y : Val} {n : Nat}, Den E x n → Den E y n → x = y
  | .w _, y, n, ⟨m, e, h⟩, q => by
    cases y with
    | w _ =>
      obtain ⟨m', e', h'⟩ := q
      have : m' = m := by omega
      subst this
      rw [h] at h'
      cases h'
      rfl
    | nil =>
      have q : n = 0 := q
      omega
    | cons _ _ =>
      obtain ⟨m', i, j, e', h', _⟩ := q
      have : m' = m := by omega
      subst this
      rw [h] at h'
      cases h'
  | .nil, y, n, p, q => by
    have p : n = 0 := p
    cases y with
    | w _ =>
      obtain ⟨m', e', h'⟩ := q
      omega
    | nil => rfl
    | cons _ _ =>
      obtain ⟨m', i, j, e', h', _⟩ := q
      omega
  | .cons _ _, y, n, ⟨m, i, j, e, h, h1, h2, _⟩, q => by
    cases y with
    | w _ =>
      obtain ⟨m', e', h'⟩ := q
      have : m' = m := by omega
      subst this
      rw [h] at h'
      cases h'
    | nil =>
      have q : n = 0 := q
      omega
    | cons _ _ =>
      obtain ⟨m', i', j', e', h', q1, q2, _⟩ := q
      have : m' = m := by omega
      subst this
      rw [h] at h'
      cases h'
      rw [Den.inj h1 q1, Den.inj h2 q2]
theorem Den.fn {E : List Ent} (nd : E.Nodup) : ∀ {x : Val} {n m : Nat}, Den E x n → Den E x m → n = m
  | .w _, _, _, ⟨a, e, h⟩, ⟨b, e', h'⟩ => by
    have := nd_ix nd h h'
    omega
  | .nil, n, m, p, q => by
    have p : n = 0 := p
    have q : m = 0 := q
    omega
  | .cons _ _, _, _, ⟨a, i, j, e, h, h1, h2, _⟩, ⟨b, i', j', e', h', q1, q2, _⟩ => by
    have e1 := Den.fn nd h1 q1
    have e2 := Den.fn nd h2 q2
    subst e1 e2
    have := nd_ix nd h h'
    omega
/-- the numbers of several values -/
abbrev Dens (E : List Ent) : List Val → List Nat → Prop := Paired fun x n => Den E x n
theorem Dens.ext {E E' : List Ent} (a : Ext E E') {l : List Val} {ns : List Nat} (h : Dens E l ns) : Dens E' l ns := Paired.mapP h fun _ _ z => z.ext a
/-! ### the store -/
structure SA where
  dx : Addr
  en : Addr
  nu : Addr
  si : Addr
  de : Addr
  t0 : Addr
def sf (D : SA) : List (Str × V) := [("entries", .ref D.en), ("numbers", .ref D.nu), ("sizes", .ref D.si), ("depths", .ref D.de)]
def EntV (H : Hp) : Ent → V → Prop
  | .w x, v => v = .str x
  | .p i j, v => ∃ a, v = .ref a ∧ H a = some (.tup [.int i, .int j])
theorem EntV.keeps {H H' : Hp} (t : KT0 H H') {e : Ent} {v : V} (h : EntV H e v) : EntV H' e v := by
  cases e with
  | w x => exact h
  | p i j =>
    obtain ⟨a, e, q⟩ := h
    exact ⟨a, e, t _ _ q⟩
theorem EntV.key {H : Hp} {e : Ent} {v : V} (h : EntV H e v) : KeyV H (keyOf e) v := by
  cases e with
  | w x =>
    have h : v = .str x := h
    subst h
    exact .text x
  | p i j =>
    obtain ⟨a, e, q⟩ := h
    subst e
    exact .tup q (.cons (.num i) (.cons (.num j) .nil))
def numK : Nat → List Ent → List (NestedKey × V)
  | _, [] => []
  | n, e :: r => (keyOf e, .int n) :: numK (n + 1) r
theorem numK_keys : ∀ (E : List Ent) (n : Nat), (numK n E).map (·.1) = E.map keyOf
  | [], _ => rfl
  | e :: r, n => by
    show keyOf e :: (numK (n + 1) r).map (·.1) = _
    rw [numK_keys r]
    rfl
theorem numK_length : ∀ (E : List Ent) (n : Nat), (numK n E).length = E.length
  | [], _ => rfl
  | e :: r, n => by
    show (numK (n + 1) r).length + 1 = _
    rw [numK_length r]
    rfl
theorem numK_snoc : ∀ (E : List Ent) (n : Nat) (e : Ent), numK n (E ++ [e]) = numK n E ++ [(keyOf e, .int (n + E.length : Nat))]
  | [], n, e => rfl
  | a :: r, n, e => by
    show (keyOf a, V.int n) :: numK (n + 1) (r ++ [e]) = (keyOf a, V.int n) :: (numK (n + 1) r ++ [(keyOf e, V.int (n + (r.length + 1) : Nat))])
    rw [numK_snoc r (n + 1) e]
    congr 5
    omega
theorem numK_at : ∀ {E : List Ent} {n m : Nat} {e : Ent}, E.Nodup → E[m]? = some e → valV (numK n E) (keyOf e) = some (.int (n + m : Nat))
  | [], _, _, _, _, h => by simp at h
  | a :: r, n, 0, e, _, h => by
    have h : a = e := by simpa using h
    subst h
    exact valV_pos (p := (keyOf a, V.int n)) rfl
  | a :: r, n, m + 1, e, nd, h => by
    have h : r[m]? = some e := by simpa using h
    obtain ⟨n1, n2⟩ := List.nodup_cons.mp nd
    show valV ((keyOf a, V.int n) :: numK (n + 1) r) (keyOf e) = _
    have ne : ¬ keyOf a = keyOf e := fun q => n1 (by rw [keyOf_inj q]; exact List.mem_of_getElem? h)
    rw [valV_neg (p := (keyOf a, V.int n)) ne, numK_at n2 h]
    congr 3
    omega
theorem numK_none : ∀ {E : List Ent} {n : Nat} {e : Ent}, ¬ e ∈ E → valV (numK n E) (keyOf e) = none
  | [], _, _, _ => rfl
  | a :: r, n, e, h => by
    show valV ((keyOf a, V.int n) :: numK (n + 1) r) (keyOf e) = _
    have ne : ¬ keyOf a = keyOf e := fun q => h (by rw [keyOf_inj q]; exact List.mem_cons_self)
    rw [valV_neg (p := (keyOf a, V.int n)) ne]
    exact numK_none fun z => h (List.mem_cons_of_mem _ z)
/-- at s stands a store of the entries E -/
structure StoreAt (K : PySem.W.Frag) (w : World) (H : Hp) (s : Addr) (D : SA) (E : List Ent) : Prop where
  ob : H s = some (.ins (CS K) D.dx (sf D))
  en : ∃ vs, H D.en = some (.lst (.ref D.t0 :: vs)) ∧ Paired (EntV H) E vs
  t0 : TupAt K H D.t0 []
  nu : DM w H D.nu (numK 1 E)
  si : ∃ zs : List Int, H D.si = some (.lst (zs.map .int)) ∧ zs.length = E.length + 1
  de : ∃ zs : List Int, H D.de = some (.lst (zs.map .int)) ∧ zs.length = E.length + 1
  ne : D.si ≠ D.de
  nd : E.Nodup
/-- all but the store's own lists and dict stays -/
def Kp (D : SA) (H H' : Hp) : Prop := ∀ b o, H b = some o → b ≠ D.en → b ≠ D.nu → b ≠ D.si → b ≠ D.de → H' b = some o
theorem Kp.refl (D : SA) (H : Hp) : Kp D H H := fun _ _ h _ _ _ _ => h
theorem Kp.trans {D : SA} {H H1 H2 : Hp} (a : Kp D H H1) (b : Kp D H1 H2) : Kp D H H2 := fun c o h h1 h2 h3 h4 => b c o (a c o h h1 h2 h3 h4) h1 h2 h3 h4
section
variable {K : PySem.W.Frag} {w : World} {H H' : Hp} {s : Addr} {D : SA} {E : List Ent}
theorem StoreAt.nuO (S : StoreAt K w H s D E) : ∃ rows, H D.nu = some (mdO w D.nu rows) := let ⟨rows, e, _⟩ := S.nu; ⟨rows, e⟩
theorem StoreAt.enO (S : StoreAt K w H s D E) : ∃ vs, H D.en = some (.lst (.ref D.t0 :: vs)) := let ⟨vs, e, _⟩ := S.en; ⟨vs, e⟩
/-- what is no list and no such dict is none of the store's own -/
theorem StoreAt.off (S : StoreAt K w H s D E) {b : Addr} {o : HO} (e : H b = some o) (h1 : ∀ xs, o ≠ .lst xs) (h2 : ∀ φ, o ≠ .ext φ) : b ≠ D.en ∧ b ≠ D.nu ∧ b ≠ D.si ∧ b ≠ D.de := by
  obtain ⟨vs, e1⟩ := S.enO
  obtain ⟨rows, e2⟩ := S.nuO
  obtain ⟨zs, e3, _⟩ := S.si
  obtain ⟨ys, e4, _⟩ := S.de
  exact ⟨ne_of e e1 (h1 _), ne_of e e2 (h2 _), ne_of e e3 (h1 _), ne_of e e4 (h1 _)⟩
theorem StoreAt.kp (S : StoreAt K w H s D E) (k : Kp D H H') {b : Addr} {o : HO} (e : H b = some o) (h1 : ∀ xs, o ≠ .lst xs) (h2 : ∀ φ, o ≠ .ext φ) : H' b = some o := by
  obtain ⟨a, b', c, d⟩ := S.off e h1 h2
  exact k _ _ e a b' c d
theorem StoreAt.kt (S : StoreAt K w H s D E) (k : Kp D H H') : KT0 H H' := fun a xs e => S.kp k e (fun _ z => by cases z) fun _ z => by cases z
/-- the store stays where its own objects and the tuples do -/
theorem StoreAt.keeps (S : StoreAt K w H s D E) (k : ∀ b o, H b = some o → (b = s ∨ b = D.en ∨ b = D.nu ∨ b = D.si ∨ b = D.de) → H' b = some o) (t : KT0 H H') : StoreAt K w H' s D E := by
  refine ⟨k _ _ S.ob (.inl rfl), ?_, S.t0.keeps t, S.nu.keeps (fun o e => k _ _ e (.inr (.inr (.inl rfl)))) t, ?_, ?_, S.ne, S.nd⟩
  · obtain ⟨vs, e, p⟩ := S.en
    exact ⟨vs, k _ _ e (.inr (.inl rfl)), Paired.mapP p fun _ _ z => z.keeps t⟩
  · obtain ⟨zs, e, l⟩ := S.si
    exact ⟨zs, k _ _ e (.inr (.inr (.inr (.inl rfl)))), l⟩
  · obtain ⟨zs, e, l⟩ := S.de
    exact ⟨zs, k _ _ e (.inr (.inr (.inr (.inr rfl)))), l⟩
theorem StoreAt.same (S : StoreAt K w H s D E) (k : Same H H') : StoreAt K w H' s D E := S.keeps (fun b o e _ => k b o e) fun a xs e => k a _ e
end
theorem sf_en (D : SA) : (sf D).lookup ("entries" : Str) = some (.ref D.en) := rfl
theorem sf_nu (D : SA) : (sf D).lookup ("numbers" : Str) = some (.ref D.nu) := rfl
theorem sf_si (D : SA) : (sf D).lookup ("sizes" : Str) = some (.ref D.si) := rfl
theorem sf_de (D : SA) : (sf D).lookup ("depths" : Str) = some (.ref D.de) := rfl
end OgW
/-! OgTxt: what the walks ask of the module's names and classes. -/
namespace OgW
open PySem PySem.Spec PyProof.Rows L2 OgD Og OgT
structure Txt (K : PySem.W.Frag) (mg : Str → Option Value) : Prop where
  clS : Cls K (CS K)
  clR : Cls K (CR K)
  clM : Cls K (CM K)
  s1 : NoAttr K (CS K) "entries"
  s2 : NoAttr K (CS K) "numbers"
  s3 : NoAttr K (CS K) "sizes"
  s4 : NoAttr K (CS K) "depths"
  r1 : NoAttr K (CR K) "kind"
  r2 : NoAttr K (CR K) "value"
  r3 : NoAttr K (CR K) "steps"
  m1 : NoAttr K (CM K) "store"
  m2 : NoAttr K (CM K) "yes"
  m3 : NoAttr K (CM K) "functions"
  m4 : NoAttr K (CM K) "keeping"
  m5 : NoAttr K (CM K) "kept"
  m6 : NoAttr K (CM K) "pair"
  m7 : NoAttr K (CM K) "steps"
  m8 : NoAttr K (CM K) "found"
  m9 : NoAttr K (CM K) "todo"
  gS : mg "Store" = some (.ref (CS K))
  gR : mg "Run" = some (.ref (CR K))
  gM : mg "Machine" = some (.ref (CM K))
  isi : mg "isinstance" = none
  len : mg "len" = none
  dict : mg "dict" = none
  enu : mg "enumerate" = none
  int : mg "int" = none
  min : mg "min" = none
  max : mg "max" = none
  range : mg "range" = none
  rev : mg "reversed" = none
  tup : mg "tuple" = none
  zip : mg "zip" = none
  str : mg "str" = none
  abs : mg "abs" = none
  empty : ∃ t, mg "EMPTY" = some (.int 0 t)
  parts : ∃ t, mg "MOST_PARTS" = some (.int 200000 t)
  depth : ∃ t, mg "MOST_DEPTH" = some (.int 200 t)
  mostP : ∃ t, mg "MOST_PARAMETERS" = some (.int 12 t)
  mostS : ∃ t, mg "MOST_STEPS" = some (.int 10000000 t)
  gP : mg "PLAIN" = some (.ref (He.ga K "PLAIN"))
  gW : mg "SPECIAL_WORDS" = some (.ref (He.ga K "SPECIAL_WORDS"))
  gU : mg "UNIVERSAL" = some (.ref (He.ga K "UNIVERSAL"))
  plT : ∀ H, SqT K H (He.ga K "PLAIN") [.str "same", .str "word", .str "head", .str "tail", .str "join"]
  figs : ∃ t, mg "FIGURES" = some (.str "0123456789" t)
/-- a module's int -/
theorem pe_gi {X : Cx} {x : Str} {i : Int} {pos : Pos} (hg : Gl X x) (h : ∃ t, X.mg x = some (.int i t)) (hd : (x == ("__debug__" : Str)) = false := by decide) : PE X (.Name x pos) (tC (.int i)) := by
  obtain ⟨t, h⟩ := h
  exact pe_glob hg h ⟨t, rfl⟩ hd
theorem pe_gs {X : Cx} {x z : Str} {pos : Pos} (hg : Gl X x) (h : ∃ t, X.mg x = some (.str z t)) (hd : (x == ("__debug__" : Str)) = false := by decide) : PE X (.Name x pos) (tC (.str z)) := by
  obtain ⟨t, h⟩ := h
  exact pe_glob hg h ⟨t, rfl⟩ hd
theorem b_str : bootBuiltins "str" = some (.type "str") := by decide +kernel
theorem b_tuple : bootBuiltins "tuple" = some (.type "tuple") := by decide +kernel
theorem b_isi : bootBuiltins "isinstance" = some (.builtin "isinstance") := by decide +kernel
theorem b_len : bootBuiltins "len" = some (.builtin "len") := by decide +kernel
theorem b_min : bootBuiltins "min" = some (.builtin "min") := by decide +kernel
theorem b_max : bootBuiltins "max" = some (.builtin "max") := by decide +kernel
theorem b_abs : bootBuiltins "abs" = some (.builtin "abs") := by decide +kernel
theorem b_int : bootBuiltins "int" = some (.type "int") := by decide +kernel
theorem b_range : bootBuiltins "range" = some (.type "range") := by decide +kernel
/-- a text or a tuple -/
def WT (K : PySem.W.Frag) (H : Hp) (x : V) (b : Bool) : Prop := (∃ z, x = .str z ∧ b = true) ∨ ∃ a xs, x = .ref a ∧ TupAt K H a xs ∧ b = false
theorem WT.ty {K : PySem.W.Frag} {H : Hp} {x : V} {b : Bool} (h : WT K H x b) : ∃ n : String, TyX K H x (.type n) ∧ kitB n "str" = some b ∧ kitB n "tuple" = some (!b) := by
  rcases h with ⟨z, rfl, rfl⟩ | ⟨a, xs, rfl, h, rfl⟩
  · exact ⟨"str", .base (.str z), by decide +kernel, by decide +kernel⟩
  · refine ⟨"tuple", ?_, by decide +kernel, by decide +kernel⟩
    rcases h with h | ⟨o, its, n, e, c, _⟩
    · exact .base (.tup h)
    · exact .kTuple e c
/-- isinstance(x, str), isinstance(x, tuple) -/
def rIsStr (K : PySem.W.Frag) : List V → Hp → VK → Prop := fun vs H Q => ∃ x b, vs = [x, .ty "str"] ∧ WT K H x b ∧ Q (.bl b) H
def rIsTup (K : PySem.W.Frag) : List V → Hp → VK → Prop := fun vs H Q => ∃ x b, vs = [x, .ty "tuple"] ∧ WT K H x b ∧ Q (.bl (!b)) H
theorem call_isStr {X : Cx} : CallR X (.builtin "isinstance") (rIsStr X.K) := by
  intro pins s σ H xs us Q I r h
  obtain ⟨x, b, rfl, hw, q⟩ := h
  obtain ⟨n, ty, e, _⟩ := hw.ty
  exact call_isi pins s σ H _ us Q I r ⟨x, _, _, _, b, rfl, .ty "str", ty, kit_ty e, q⟩
theorem call_isTup {X : Cx} : CallR X (.builtin "isinstance") (rIsTup X.K) := by
  intro pins s σ H xs us Q I r h
  obtain ⟨x, b, rfl, hw, q⟩ := h
  obtain ⟨n, ty, _, e⟩ := hw.ty
  exact call_isi pins s σ H _ us Q I r ⟨x, _, _, _, !b, rfl, .ty "tuple", ty, kit_ty e, q⟩
theorem RepV.wt {K : PySem.W.Frag} {H : Hp} {x : Val} {v : V} (h : RepV K H x v) : WT K H v x.isW := by
  cases x with
  | w z => exact .inl ⟨z, h, rfl⟩
  | nil =>
    obtain ⟨a, e, q⟩ := h
    exact .inr ⟨a, [], e, q, rfl⟩
  | cons h' t =>
    obtain ⟨a, y, ys, e, q, _⟩ := h
    exact .inr ⟨a, _, e, q, rfl⟩
theorem paired_get {α β : Type} {R : α → β → Prop} : ∀ {l : List α} {r : List β} {m : Nat} {a : α}, Paired R l r → l[m]? = some a → ∃ b, r[m]? = some b ∧ R a b
  | _, _, _, _, .nil, h => by simp at h
  | _, _, 0, _, .cons q _, h => by
    have h := Option.some.inj h
    subst h
    exact ⟨_, rfl, q⟩
  | _, _, m + 1, _, .cons _ t, h => by
    obtain ⟨b, h1, h2⟩ := paired_get (m := m) t (by simpa using h)
    exact ⟨b, by simpa using h1, h2⟩
/-- what stands at a place of the entries -/
theorem StoreAt.entry {K : PySem.W.Frag} {w : World} {H : Hp} {s : Addr} {D : SA} {E : List Ent} (S : StoreAt K w H s D E) {x : Val} {n : Nat} (d : Den E x n) : ∃ vs v, H D.en = some (.lst vs) ∧ vs[n]? = some v ∧
    ((∃ z, x = .w z ∧ n ≠ 0 ∧ v = .str z) ∨ (x = .nil ∧ n = 0 ∧ v = .ref D.t0) ∨ ∃ (h t : Val) (i j : Nat) (a : Addr), x = .cons h t ∧ v = .ref a ∧ H a = some (.tup [.int i, .int j]) ∧ Den E h i ∧ Den E t j ∧ t.isW = false ∧ n ≠ 0) := by
  obtain ⟨vs, e, p⟩ := S.en
  cases x with
  | w z =>
    obtain ⟨m, rfl, h⟩ := d
    obtain ⟨v, h1, h2⟩ := paired_get p h
    exact ⟨_, v, e, h1, .inl ⟨z, rfl, Nat.succ_ne_zero _, h2⟩⟩
  | nil =>
    have d : n = 0 := d
    subst d
    exact ⟨_, _, e, rfl, .inr (.inl ⟨rfl, rfl, rfl⟩)⟩
  | cons h t =>
    obtain ⟨m, i, j, rfl, q, d1, d2, d3⟩ := d
    obtain ⟨v, h1, a, h2, h3⟩ := paired_get p q
    exact ⟨_, v, e, h1, .inr (.inr ⟨h, t, i, j, a, rfl, h2, h3, d1, d2, d3, Nat.succ_ne_zero _⟩)⟩
theorem StoreAt.entWT {K : PySem.W.Frag} {w : World} {H : Hp} {s : Addr} {D : SA} {E : List Ent} (S : StoreAt K w H s D E) {x : Val} {n : Nat} (d : Den E x n) : ∃ vs v, H D.en = some (.lst vs) ∧ vs[n]? = some v ∧ WT K H v x.isW := by
  obtain ⟨vs, v, e, g, q⟩ := S.entry d
  refine ⟨vs, v, e, g, ?_⟩
  rcases q with ⟨z, rfl, _, rfl⟩ | ⟨rfl, _, rfl⟩ | ⟨h, t, i, j, a, rfl, rfl, q, _⟩
  · exact .inl ⟨z, rfl, rfl⟩
  · exact .inr ⟨_, [], rfl, S.t0, rfl⟩
  · exact .inr ⟨a, _, rfl, .inl q, rfl⟩
end OgW
/-! OgS1: Store.is_word, first, rest. -/
namespace OgW
open PySem PySem.Spec PyProof.Rows L2 OgD Og OgT
section
variable {P : Program} {w : World} {K : PySem.W.Frag} {mg : Str → Option Value} {base : Heap}
def spIsWord (K : PySem.W.Frag) (w : World) : Sp := fun vs H Q _ => ∃ (s : Addr) (D : SA) (E : List Ent) (x : Val) (n : Nat), vs = [.ref s, .int n] ∧ StoreAt K w H s D E ∧ Den E x n ∧ Q (.bl x.isW) H
theorem sc_is_word : FnScope ["self", "number"] ["self", "number"] (defScope s_Store_is_word) := ⟨rfl, rfl, rfl, by decide +kernel, rfl, by decide +kernel, by decide +kernel⟩
theorem ok_is_word {f : Addr} {fd : FuncData} (F : FunD K "is_word" "Store.is_word" (defArgs s_Store_is_word) (defBody s_Store_is_word) (defScope s_Store_is_word) [] [] f fd) (T : Txt K mg) : FnOk P w K mg base CX0 1 f fd ["self", "number"] (spIsWord K w) := by
  refine ok0 F sc_is_word (fun vs H Q E h => ?_) (fun cdv A outer s H vs Q E hr h => ?_)
  · obtain ⟨s, D, E, x, n, rfl, _⟩ := h
    rfl
  · obtain ⟨s, D, E, x, n, rfl, S, d, k⟩ := h
    obtain ⟨es, v, e1, e2, wt⟩ := S.entWT d
    refine ⟨_, pss_one (ps_ret (pe_callB call_isStr (by rfl) T.isi b_isi (pa_cons (pe_ix ix_list (pe_fld (pv 0) rfl) (pv 1) (fun _ _ => rfl)) (pa_cons (pe_bltn (v := .ty "str") (by rfl) T.str b_str rfl) pa_nil)))), ?_⟩
    exact ⟨_, rfl, s, CS K, D.dx, _, _, rfl, S.ob, T.clS, T.s1, sf_en D, _, rfl, D.en, es, _, v, rfl, rfl, SqL.of e1, atI_nat e2, v, x.isW, rfl, wt, k⟩
end
end OgW
/-! OgS2: Store.first, rest. -/
namespace OgW
open PySem PySem.Spec PyProof.Rows L2 OgD Og OgT
section
variable {P : Program} {w : World} {K : PySem.W.Frag} {mg : Str → Option Value} {base : Heap}
abbrev FnS (K : PySem.W.Frag) (st : Stmt) (x qual : Str) (f : Addr) (fd : FuncData) : Prop := FunD K x qual (defArgs st) (defBody st) (defScope st) [] [] f fd
def spFirst (K : PySem.W.Frag) (w : World) : Sp := fun vs H Q _ => ∃ (s : Addr) (D : SA) (E : List Ent) (x : Val) (n : Nat), vs = [.ref s, .int n] ∧ StoreAt K w H s D E ∧ Den E x n ∧ ∀ m : Nat, Den E x.hd m → Q (.int m) H
def spRest (K : PySem.W.Frag) (w : World) : Sp := fun vs H Q _ => ∃ (s : Addr) (D : SA) (E : List Ent) (x : Val) (n : Nat), vs = [.ref s, .int n] ∧ StoreAt K w H s D E ∧ Den E x n ∧ ∀ m : Nat, Den E x.tl m → Q (.int m) H
theorem sc_first : FnScope ["self", "number"] ["self", "number"] (defScope s_Store_first) := ⟨rfl, rfl, rfl, by decide +kernel, rfl, by decide +kernel, by decide +kernel⟩
theorem sc_rest : FnScope ["self", "number"] ["self", "number"] (defScope s_Store_rest) := ⟨rfl, rfl, rfl, by decide +kernel, rfl, by decide +kernel, by decide +kernel⟩
theorem dec_n0 {n : Nat} (h : n ≠ 0) : decide (V.int (n : Int) = V.int 0) = false := decide_eq_false fun e => h (by injection e with e; omega)
theorem sf_is (D : SA) : (sf D).lookup ("is_word" : Str) = none := rfl
theorem ok_first {f : Addr} {fd : FuncData} (F : FnS K s_Store_first "first" "Store.first" f fd) (T : Txt K mg) (gW : Mth P w K mg base (CS K) "is_word" 1 ["self", "number"] (spIsWord K w)) : FnOk P w K mg base CX0 2 f fd ["self", "number"] (spFirst K w) := by
  obtain ⟨fW, fdW, GW, mW, bW⟩ := gW
  refine ok0 F sc_first (fun vs H Q E h => ?_) (fun cdv A outer s H vs Q E hr h => ?_)
  · obtain ⟨s, D, E, x, n, rfl, _⟩ := h
    rfl
  · obtain ⟨s, D, E, x, n, rfl, S, d, k⟩ := h
    refine ⟨_, pss_cons (ps_if (PW.pt (pw_or (pt_cmpR op_eq (pv 1) (pe_gi (by rfl) T.empty) (nomark _)) (pw_or1 (pt_val (pe_meth (pv 0) T.clS mW GW hr bW .nil pass0 (pa_cons (pv 1) pa_nil)))))) (pss_one (ps_ret (pe_gi (by rfl) T.empty))) pss_nil)
      (pss_one (ps_ret (pe_ix ix_tup (pe_ix ix_list (pe_fld (pv 0) rfl) (pv 1) (fun _ _ => rfl)) pe_int (fun _ _ => rfl)))), ?_⟩
    obtain ⟨es, v, e1, e2, q⟩ := S.entry d
    refine ⟨_, rfl, rfl, _, rfl, ?_⟩
    rcases q with ⟨z, rfl, hn, rfl⟩ | ⟨rfl, rfl, rfl⟩ | ⟨h', t, i, j, a, rfl, rfl, q, d1, d2, d3, hn⟩
    · rw [dec_n0 hn]
      refine iteF ⟨_, rfl, s, D.dx, _, rfl, S.ob, sf_is D, _, rfl, s, D, E, _, n, rfl, S, d, _, rfl, ?_⟩
      exact iteT (k 0 rfl)
    · exact iteT (iteT (k 0 rfl))
    · rw [dec_n0 hn]
      refine iteF ⟨_, rfl, s, D.dx, _, rfl, S.ob, sf_is D, _, rfl, s, D, E, _, n, rfl, S, d, _, rfl, ?_⟩
      refine iteF ⟨_, rfl, s, CS K, D.dx, _, _, rfl, S.ob, T.clS, T.s1, sf_en D, _, rfl, D.en, es, _, _, rfl, rfl, SqL.of e1, atI_nat e2, a, _, _, .int i, rfl, rfl, SqT.of q, rfl, k i d1⟩
theorem ok_rest {f : Addr} {fd : FuncData} (F : FnS K s_Store_rest "rest" "Store.rest" f fd) (T : Txt K mg) (gW : Mth P w K mg base (CS K) "is_word" 1 ["self", "number"] (spIsWord K w)) : FnOk P w K mg base CX0 2 f fd ["self", "number"] (spRest K w) := by
  obtain ⟨fW, fdW, GW, mW, bW⟩ := gW
  refine ok0 F sc_rest (fun vs H Q E h => ?_) (fun cdv A outer s H vs Q E hr h => ?_)
  · obtain ⟨s, D, E, x, n, rfl, _⟩ := h
    rfl
  · obtain ⟨s, D, E, x, n, rfl, S, d, k⟩ := h
    refine ⟨_, pss_cons (ps_if (PW.pt (pw_or (pt_cmpR op_eq (pv 1) (pe_gi (by rfl) T.empty) (nomark _)) (pw_or1 (pt_val (pe_meth (pv 0) T.clS mW GW hr bW .nil pass0 (pa_cons (pv 1) pa_nil)))))) (pss_one (ps_ret (pe_gi (by rfl) T.empty))) pss_nil)
      (pss_one (ps_ret (pe_ix ix_tup (pe_ix ix_list (pe_fld (pv 0) rfl) (pv 1) (fun _ _ => rfl)) pe_int (fun _ _ => rfl)))), ?_⟩
    obtain ⟨es, v, e1, e2, q⟩ := S.entry d
    refine ⟨_, rfl, rfl, _, rfl, ?_⟩
    rcases q with ⟨z, rfl, hn, rfl⟩ | ⟨rfl, rfl, rfl⟩ | ⟨h', t, i, j, a, rfl, rfl, q, d1, d2, d3, hn⟩
    · rw [dec_n0 hn]
      refine iteF ⟨_, rfl, s, D.dx, _, rfl, S.ob, sf_is D, _, rfl, s, D, E, _, n, rfl, S, d, _, rfl, ?_⟩
      exact iteT (k 0 rfl)
    · exact iteT (iteT (k 0 rfl))
    · rw [dec_n0 hn]
      refine iteF ⟨_, rfl, s, D.dx, _, rfl, S.ob, sf_is D, _, rfl, s, D, E, _, n, rfl, S, d, _, rfl, ?_⟩
      refine iteF ⟨_, rfl, s, CS K, D.dx, _, _, rfl, S.ob, T.clS, T.s1, sf_en D, _, rfl, D.en, es, _, _, rfl, rfl, SqL.of e1, atI_nat e2, a, _, _, .int j, rfl, rfl, SqT.of q, rfl, k j d2⟩
end
end OgW
/-! OgS3: Store.number_of. -/
namespace OgW
open PySem PySem.Spec PyProof.Rows L2 OgD Og OgT
section
variable {P : Program} {w : World} {K : PySem.W.Frag} {mg : Str → Option Value} {base : Heap}
/-- the parts of a pair are numbers of the store -/
def EntOk (E : List Ent) : Ent → Prop
  | .w _ => True
  | .p i j => i ≤ E.length ∧ j ≤ E.length
def spNum (K : PySem.W.Frag) (w : World) : Sp := fun vs H Q _ => ∃ (s : Addr) (D : SA) (E : List Ent) (e : Ent) (v : V), vs = [.ref s, v] ∧ StoreAt K w H s D E ∧ EntV H e v ∧ EntOk E e ∧ E.length < 1000000 ∧
  ∀ (H' : Hp) (E' : List Ent) (m : Nat), StoreAt K w H' s D E' → Ext E E' → E'.length ≤ E.length + 1 → E'[m]? = some e → Kp D H H' → Q (.int (m + 1 : Nat)) H'
theorem sc_num : FnScope ["self", "entry", "item", "items"] ["self", "entry"] (defScope s_Store_number_of) := ⟨rfl, rfl, rfl, by decide +kernel, rfl, by decide +kernel, by decide +kernel⟩
theorem line6 : (1000010 : Nat) < sizeLine := by rw [sizeLine_eq]; decide
theorem EntV.wt {K : PySem.W.Frag} {H : Hp} {e : Ent} {v : V} (h : EntV H e v) : ∃ b, WT K H v b ∧ (b = true ↔ ∃ x, e = .w x) := by
  cases e with
  | w x => exact ⟨true, .inl ⟨x, h, rfl⟩, fun _ => ⟨x, rfl⟩, fun _ => rfl⟩
  | p i j =>
    obtain ⟨a, e, q⟩ := h
    exact ⟨false, .inr ⟨a, _, e, .inl q, rfl⟩, fun z => (nomatch z), fun ⟨x, z⟩ => (nomatch z)⟩
theorem int_at {zs : List Int} {i : Nat} (h : i < zs.length) : atI (zs.map V.int) (i : Int) = some (.int zs[i]) := atI_nat (by rw [List.getElem?_map, List.getElem?_eq_getElem h]; rfl)
/-- the store with one entry more -/
theorem StoreAt.more {H H4 : Hp} {s : Addr} {D : SA} {E : List Ent} {e : Ent} {v : V} {z y : Int} (S : StoreAt K w H s D E) (hv : EntV H e v) (ne : ¬ e ∈ E) {es : List V} {zs ys : List Int} (e1 : H D.en = some (.lst es)) (e2 : H D.si = some (.lst (zs.map .int))) (e3 : H D.de = some (.lst (ys.map .int)))
    (k : ∀ b o, H b = some o → b ≠ D.en → b ≠ D.nu → b ≠ D.si → b ≠ D.de → H4 b = some o) (nu : DM w H4 D.nu (numK 1 (E ++ [e]))) (en : H4 D.en = some (.lst (es ++ [v]))) (si : H4 D.si = some (.lst ((zs ++ [z]).map .int))) (de : H4 D.de = some (.lst ((ys ++ [y]).map .int))) :
    StoreAt K w H4 s D (E ++ [e]) := by
  have t : KT0 H H4 := S.kt (D := D) k
  refine ⟨S.kp k S.ob (fun _ z => by cases z) (fun _ z => by cases z), ?_, S.t0.keeps t, nu, ⟨_, si, ?_⟩, ⟨_, de, ?_⟩, S.ne, nd_snoc S.nd ne⟩
  · obtain ⟨vs, q, p⟩ := S.en
    rw [e1] at q
    cases q
    exact ⟨vs ++ [v], en, Paired.snoc (Paired.mapP p fun _ _ z => z.keeps t) (hv.keeps t)⟩
  · obtain ⟨zs', q, l⟩ := S.si
    rw [e2] at q
    have q : zs.map V.int = zs'.map V.int := by injection q with q; injection q
    have := congrArg List.length q
    simp at this
    simp only [List.length_append, List.length_singleton]
    omega
  · obtain ⟨zs', q, l⟩ := S.de
    rw [e3] at q
    have q : ys.map V.int = zs'.map V.int := by injection q with q; injection q
    have := congrArg List.length q
    simp at this
    simp only [List.length_append, List.length_singleton]
    omega
theorem ok_num {f : Addr} {fd : FuncData} (F : FnS K s_Store_number_of "number_of" "Store.number_of" f fd) (T : Txt K mg) : FnOk P w K mg base CX0 1 f fd ["self", "entry"] (spNum K w) := by
  refine ok0 F sc_num (fun vs H Q E h => ?_) (fun cdv A outer s H vs Q E hr h => ?_)
  · obtain ⟨s, D, E, e, v, rfl, _⟩ := h
    rfl
  · obtain ⟨s, D, E, e, v, rfl, S, hv, ok, hl, k⟩ := h
    refine ⟨_, pss_cons (ps_if (pt_cmp (pc_mnotin (hu10 hr) (pv 1) (pe_fld (pv 0) rfl)) rfl)
        (pss_cons (ps_mput (hu10 hr) (pe_fld (pv 0) rfl) (pv 1) (pe_callB call_len_seq (by rfl) T.len b_len (pa_cons (pe_fld (pv 0) rfl) pa_nil)) rfl)
        (pss_cons (ps_expr (pe_bm PySem.F.plainAttrs_list PySem.F.slot_list_append PySem.F.type_list_append mt_append (pe_fld (pv 0) rfl) (pa_cons (pv 1) pa_nil)))
        (pss_one (ps_if (pt_val (pe_callB call_isStr (by rfl) T.isi b_isi (pa_cons (pv 1) (pa_cons (pe_bltn (v := .ty "str") (by rfl) T.str b_str rfl) pa_nil))))
          (pss_cons (ps_expr (pe_bm PySem.F.plainAttrs_list PySem.F.slot_list_append PySem.F.type_list_append mt_append (pe_fld (pv 0) rfl) (pa_cons pe_int pa_nil)))
          (pss_one (ps_expr (pe_bm PySem.F.plainAttrs_list PySem.F.slot_list_append PySem.F.type_list_append mt_append (pe_fld (pv 0) rfl) (pa_cons pe_int pa_nil)))))
          (pss_cons (ps_asg (pv 1) (pg_tup rfl (pgs_cons (pg_name (i := 2) sc_num.nd rfl (.inl rfl)) (pgs_cons (pg_name (i := 3) sc_num.nd rfl (.inl rfl)) pgs_nil))))
          (pss_cons (ps_expr (pe_bm PySem.F.plainAttrs_list PySem.F.slot_list_append PySem.F.type_list_append mt_append (pe_fld (pv 0) rfl)
            (pa_cons (pe_callB (call_min2 rfl) (by rfl) T.min b_min (pa_cons (pe_op op_add (pe_ix ix_list (pe_fld (pv 0) rfl) (pv 2) (fun _ _ => rfl)) (pe_ix ix_list (pe_fld (pv 0) rfl) (pv 3) (fun _ _ => rfl))) (pa_cons (pe_op op_add (pe_gi (by rfl) T.parts) pe_int) pa_nil))) pa_nil)))
          (pss_one (ps_expr (pe_bm PySem.F.plainAttrs_list PySem.F.slot_list_append PySem.F.type_list_append mt_append (pe_fld (pv 0) rfl)
            (pa_cons (pe_callB (call_min2 rfl) (by rfl) T.min b_min (pa_cons (pe_callB (call_max2 rfl) (by rfl) T.max b_max (pa_cons (pe_op op_add (pe_ix ix_list (pe_fld (pv 0) rfl) (pv 2) (fun _ _ => rfl)) pe_int) (pa_cons (pe_ix ix_list (pe_fld (pv 0) rfl) (pv 3) (fun _ _ => rfl)) pa_nil))) (pa_cons (pe_op op_add (pe_gi (by rfl) T.depth) pe_int) pa_nil))) pa_nil))))))))))
        pss_nil)
      (pss_one (ps_ret (pe_mget (hu10 hr) (pe_fld (pv 0) rfl) (pv 1) (fun _ _ => rfl)))), ?_⟩
    obtain ⟨es0, e1, pe⟩ := S.en
    obtain ⟨zs, e2, lz⟩ := S.si
    obtain ⟨ys, e3, ly⟩ := S.de
    obtain ⟨rows, e4⟩ := S.nuO
    have lenE : es0.length = E.length := (Paired.length pe).symm
    -- the answer
    have fin : ∀ (H' : Hp) (E' : List Ent) (m : Nat) (x y : Option V), StoreAt K w H' s D E' → Ext E E' → E'.length ≤ E.length + 1 → E'[m]? = some e → Kp D H H' →
        tRet (tMGet w (tFld K (tVar 0) "numbers") (tVar 1)) { nx := fun _ H' => Q .non H', rt := Q } [some (.ref s), some v, x, y] H' := fun H' E' m x y S' x' l' g' k' => by
      refine ⟨_, rfl, s, CS K, D.dx, _, _, rfl, S'.ob, T.clS, T.s2, sf_nu D, v, rfl, D.nu, _, keyOf e, _, rfl, S'.nu, (hv.keeps (S.kt k')).key, keyOf_depth e, keyOf_num e, numK_at S'.nd g', ?_⟩
      rw [Nat.add_comm 1 m]
      exact k H' E' m S' x' l' g' k'
    refine ⟨v, rfl, _, rfl, s, CS K, D.dx, _, _, rfl, S.ob, T.clS, T.s2, sf_nu D, D.nu, _, keyOf e, rfl, S.nu, hv.key, keyOf_depth e, keyOf_num e, _, rfl, ?_⟩
    by_cases mem : e ∈ E
    · obtain ⟨m, hm⟩ := List.mem_iff_getElem?.mp mem
      rw [numK_at S.nd hm]
      exact iteF (fin H E m none none S (Ext.refl E) (Nat.le_succ _) hm (Kp.refl D H))
    · rw [numK_none mem]
      have sne : s ≠ D.en ∧ s ≠ D.nu ∧ s ≠ D.si ∧ s ≠ D.de := S.off S.ob (fun _ z => by cases z) (fun _ z => by cases z)
      have n1 : D.en ≠ D.nu := ne_of e1 e4 (by intro z; cases z)
      have n2 : D.si ≠ D.nu := ne_of e2 e4 (by intro z; cases z)
      have n3 : D.de ≠ D.nu := ne_of e3 e4 (by intro z; cases z)
      have n4 : D.en ≠ D.si := ne_of e1 e2 (by intro z; injection z with z; cases zs <;> simp at z)
      have n5 : D.en ≠ D.de := ne_of e1 e3 (by intro z; injection z with z; cases ys <;> simp at z)
      refine iteT ⟨_, rfl, s, CS K, D.dx, _, _, rfl, S.ob, T.clS, T.s1, sf_en D, D.en, _, rfl, .inl (SqL.of e1), ?_⟩
      refine ⟨_, rfl, s, CS K, D.dx, _, _, rfl, S.ob, T.clS, T.s2, sf_nu D, v, rfl, D.nu, _, keyOf e, rfl, S.nu, hv.key, keyOf_depth e, keyOf_num e, ?_, fun H1 k1 m1 => ?_⟩
      · rw [numK_length]
        have := line6
        omega
      have b1 : ∀ {b : Addr} {o : HO}, H b = some o → b ≠ D.nu → H1 b = some o := fun q z => (k1 _ z).trans q
      have m1 : DM w H1 D.nu (numK 1 (E ++ [e])) := by
        rw [putK_new _ (numK_none mem)] at m1
        rw [numK_snoc]
        have eqn : ((1 + E.length : Nat) : Int) = ((V.ref D.t0 :: es0).length : Int) := by
          rw [List.length_cons, lenE]
          omega
        rw [eqn]
        exact m1
      refine ⟨_, rfl, s, CS K, D.dx, _, _, rfl, b1 S.ob sne.2.1, T.clS, T.s1, sf_en D, .inl ⟨rfl, _, SqL.of (b1 e1 n1)⟩, v, rfl, D.en, _, _, rfl, rfl, b1 e1 n1, ?_, ?_⟩
      · have := line6
        rw [List.length_cons, lenE]
        omega
      have t1 : KT0 H (upd H1 D.en (.lst (V.ref D.t0 :: es0 ++ [v]))) := fun a xs q => by
        obtain ⟨a1, a2, _, _⟩ := S.off q (fun _ z => by cases z) (fun _ z => by cases z)
        rw [upd_ne a1]
        exact b1 q a2
      have hv2 := hv.keeps t1
      obtain ⟨b, wt, ib⟩ := hv2.wt (K := K)
      have b2 : ∀ {b : Addr} {o : HO}, H b = some o → b ≠ D.nu → b ≠ D.en → upd H1 D.en (.lst (V.ref D.t0 :: es0 ++ [v])) b = some o := fun q z z' => (upd_ne z').trans (b1 q z)
      -- both lists grown by one number each
      have close : ∀ (z y : Int) (p q : Option V), tRet (tMGet w (tFld K (tVar 0) "numbers") (tVar 1)) { nx := fun _ H' => Q .non H', rt := Q } [some (.ref s), some v, p, q]
          (upd (upd (upd H1 D.en (.lst (V.ref D.t0 :: es0 ++ [v]))) D.si (.lst (zs.map .int ++ [.int z]))) D.de (.lst (ys.map .int ++ [.int y]))) := fun z y p q => by
        have kk : ∀ b o, H b = some o → b ≠ D.en → b ≠ D.nu → b ≠ D.si → b ≠ D.de → upd (upd (upd H1 D.en (.lst (V.ref D.t0 :: es0 ++ [v]))) D.si (.lst (zs.map .int ++ [.int z]))) D.de (.lst (ys.map .int ++ [.int y])) b = some o := fun b o q a1 a2 a3 a4 => by
          rw [upd_ne a4, upd_ne a3, upd_ne a1]
          exact b1 q a2
        refine fin _ (E ++ [e]) E.length p q (S.more (z := z) (y := y) hv mem e1 e2 e3 kk ?_ ?_ ?_ ?_) ⟨[e], rfl⟩ (by simp) (by simp) kk
        · refine m1.keeps (fun o q => ?_) fun a xs q => ?_
          · rw [upd_ne n3.symm, upd_ne n2.symm, upd_ne n1.symm]
            exact q
          · have a1 : a ≠ D.en := ne_of q (b1 e1 n1) (by intro z; cases z)
            have a2 : a ≠ D.si := ne_of q (b1 e2 n2) (by intro z; cases z)
            have a3 : a ≠ D.de := ne_of q (b1 e3 n3) (by intro z; cases z)
            rw [upd_ne a3, upd_ne a2, upd_ne a1]
            exact q
        · rw [upd_ne n5, upd_ne n4, upd_same]
        · rw [upd_ne S.ne, upd_same, List.map_append]
          rfl
        · rw [upd_same, List.map_append]
          rfl
      have lz6 : (zs.map V.int).length < sizeLine := by
        have := line6
        rw [List.length_map]
        omega
      have ly6 : (ys.map V.int).length < sizeLine := by
        have := line6
        rw [List.length_map]
        omega
      refine ⟨v, rfl, v, b, rfl, wt, _, rfl, ?_⟩
      have hs2 := b2 S.ob sne.2.1 sne.1
      have si2 := b2 e2 n2 n4.symm
      have de2 := b2 e3 n3 n5.symm
      have nsi : s ≠ D.si := sne.2.2.1
      cases b with
      | true =>
        refine iteT ⟨_, rfl, s, CS K, D.dx, _, _, rfl, hs2, T.clS, T.s3, sf_si D, .inl ⟨rfl, _, SqL.of si2⟩, D.si, _, _, rfl, rfl, si2, lz6, ?_⟩
        refine ⟨_, rfl, s, CS K, D.dx, _, _, rfl, (upd_ne nsi).trans hs2, T.clS, T.s4, sf_de D, .inl ⟨rfl, _, SqL.of ((upd_ne S.ne.symm).trans de2)⟩, D.de, _, _, rfl, rfl, (upd_ne S.ne.symm).trans de2, ly6, ?_⟩
        exact close 1 0 none none
      | false =>
        cases e with
        | w x => exact nomatch ib.mpr ⟨x, rfl⟩
        | p i j =>
          obtain ⟨a, ea, ha⟩ := hv2
          subst ea
          obtain ⟨oi, oj⟩ := ok
          have ii : i < zs.length := by omega
          have jj : j < zs.length := by omega
          have iy : i < ys.length := by omega
          have jy : j < ys.length := by omega
          refine iteF ⟨_, rfl, a, _, rfl, SqT.of ha, rfl, _, _, rfl, _, _, rfl, rfl, ?_⟩
          refine ⟨_, rfl, s, CS K, D.dx, _, _, rfl, hs2, T.clS, T.s3, sf_si D, .inl ⟨rfl, _, SqL.of si2⟩, ?_⟩
          refine ⟨_, rfl, s, CS K, D.dx, _, _, rfl, hs2, T.clS, T.s3, sf_si D, _, rfl, D.si, _, _, _, rfl, rfl, SqL.of si2, int_at ii, ?_⟩
          refine ⟨_, rfl, s, CS K, D.dx, _, _, rfl, hs2, T.clS, T.s3, sf_si D, _, rfl, D.si, _, _, _, rfl, rfl, SqL.of si2, int_at jj, ?_⟩
          refine ⟨_, _, rfl, rfl, _, _, rfl, rfl, _, _, rfl, D.si, _, _, rfl, rfl, si2, lz6, ?_⟩
          refine ⟨_, rfl, s, CS K, D.dx, _, _, rfl, (upd_ne nsi).trans hs2, T.clS, T.s4, sf_de D, .inl ⟨rfl, _, SqL.of ((upd_ne S.ne.symm).trans de2)⟩, ?_⟩
          refine ⟨_, rfl, s, CS K, D.dx, _, _, rfl, (upd_ne nsi).trans hs2, T.clS, T.s4, sf_de D, _, rfl, D.de, _, _, _, rfl, rfl, SqL.of ((upd_ne S.ne.symm).trans de2), int_at iy, _, _, rfl, rfl, ?_⟩
          refine ⟨_, rfl, s, CS K, D.dx, _, _, rfl, (upd_ne nsi).trans hs2, T.clS, T.s4, sf_de D, _, rfl, D.de, _, _, _, rfl, rfl, SqL.of ((upd_ne S.ne.symm).trans de2), int_at jy, ?_⟩
          refine ⟨_, _, rfl, _, _, rfl, rfl, _, _, rfl, D.de, _, _, rfl, rfl, (upd_ne S.ne.symm).trans de2, ly6, ?_⟩
          exact close _ _ _ _
end
end OgW
/-! OgS4: Store.pair_up, items_of. -/
namespace OgW
open PySem PySem.Spec PyProof.Rows L2 OgD Og OgT
section
variable {P : Program} {w : World} {K : PySem.W.Frag} {mg : Str → Option Value} {base : Heap}
def spPair (K : PySem.W.Frag) (w : World) : Sp := fun vs H Q _ => ∃ (s : Addr) (D : SA) (E : List Ent) (x y : Val) (i j : Nat), vs = [.ref s, .int i, .int j] ∧ StoreAt K w H s D E ∧ Den E x i ∧ Den E y j ∧ E.length < 1000000 ∧
  ∀ (H' : Hp) (E' : List Ent) (n : Nat), StoreAt K w H' s D E' → Ext E E' → E'.length ≤ E.length + 1 → Den E' (x.jn y) n → Kp D H H' → Q (.int n) H'
theorem sc_pair : FnScope ["self", "item", "items"] ["self", "item", "items"] (defScope s_Store_pair_up) := ⟨rfl, rfl, rfl, by decide +kernel, rfl, by decide +kernel, by decide +kernel⟩
abbrev vi (n : Nat) : V := .int (n : Int)
theorem sf_num (D : SA) : (sf D).lookup ("number_of" : Str) = none := rfl
theorem Kp.laid {D : SA} {H : Hp} {p : Addr} {o : HO} (h : H p = none) : Kp D H (upd H p o) := fun b u e _ _ _ _ => by rw [upd_ne (ne_of_none e h)]; exact e
theorem Same.laid {H : Hp} {p : Addr} {o : HO} (h : H p = none) : Same H (upd H p o) := fun b u e => by rw [upd_ne (ne_of_none e h)]; exact e
theorem ok_pair {f : Addr} {fd : FuncData} (F : FnS K s_Store_pair_up "pair_up" "Store.pair_up" f fd) (T : Txt K mg) (gW : Mth P w K mg base (CS K) "is_word" 1 ["self", "number"] (spIsWord K w)) (gN : Mth P w K mg base (CS K) "number_of" 1 ["self", "entry"] (spNum K w)) :
    FnOk P w K mg base CX0 2 f fd ["self", "item", "items"] (spPair K w) := by
  obtain ⟨fW, fdW, GW, mW, bW⟩ := gW
  obtain ⟨fN, fdN, GN, mN, bN⟩ := gN
  refine ok0 F sc_pair (fun vs H Q E h => ?_) (fun cdv A outer s H vs Q E hr h => ?_)
  · obtain ⟨s, D, E, x, y, i, j, rfl, _⟩ := h
    rfl
  · obtain ⟨s, D, E, x, y, i, j, rfl, S, dx, dy, hl, k⟩ := h
    refine ⟨_, pss_cons (ps_if (pt_val (pe_meth (pv 0) T.clS mW GW hr bW .nil pass0 (pa_cons (pv 2) pa_nil))) (pss_one (ps_set (i := 2) sc_pair.nd rfl (.inl rfl) (pe_gi (by rfl) T.empty))) pss_nil)
      (pss_one (ps_ret (pe_meth (pv 0) T.clS mN GN hr bN .nil pass0 (pa_cons (pe_tup (pa_cons (pv 1) (pa_cons (pv 2) pa_nil))) pa_nil)))), ?_⟩
    have fin : ∀ (t : Val) (m : Nat), Den E t m → t.isW = false → x.jn y = .cons x t →
        tRet (tMeth (CS K) "number_of" (spNum K w) [] E0 (tVar 0) (tCons (tTup (tCons (tVar 1) (tCons (tVar 2) tNil))) tNil)) { nx := fun _ H' => Q .non H', rt := Q } [some (.ref s), some (.int i), some (.int m)] H := fun t m dt wt ej => by
      refine ⟨_, rfl, s, D.dx, _, rfl, S.ob, sf_num D, _, rfl, _, rfl, (by show 2 ≤ sizeLine; rw [sizeLine_eq]; decide), fun p hp => ?_⟩
      refine ⟨s, D, E, .p i m, .ref p, rfl, S.same (Same.laid hp), ⟨p, rfl, upd_same⟩, ⟨dx.le, dt.le⟩, hl, fun H' E' n S' x' l' g' k' => ?_⟩
      refine k H' E' (n + 1) S' x' l' ?_ ((Kp.laid hp).trans k')
      rw [ej]
      exact ⟨n, i, m, rfl, g', dx.ext x', dt.ext x', wt⟩
    refine ⟨_, rfl, s, D.dx, _, rfl, S.ob, sf_is D, _, rfl, s, D, E, y, j, rfl, S, dy, _, rfl, ?_⟩
    cases y with
    | w z => exact iteT (fin .nil 0 rfl rfl rfl)
    | nil => exact iteF (fin .nil j dy rfl rfl)
    | cons h' t => exact iteF (fin (.cons h' t) j dy rfl rfl)
def spItems (K : PySem.W.Frag) (w : World) : Sp := fun vs H Q _ => ∃ (s : Addr) (D : SA) (E : List Ent) (x : Val) (n : Nat), vs = [.ref s, .int n] ∧ StoreAt K w H s D E ∧ Den E x n ∧ x.isW = false ∧ x.items.length ≤ 1000000 ∧
  ∀ (p : Addr) (ns : List Nat), H p = none → Dens E x.items ns → Q (.ref p) (upd H p (.lst (ns.map vi)))
theorem sc_items : FnScope ["self", "number", "found", "item"] ["self", "number"] (defScope s_Store_items_of) := ⟨rfl, rfl, rfl, by decide +kernel, rfl, by decide +kernel, by decide +kernel⟩
theorem ok_items {f : Addr} {fd : FuncData} (F : FnS K s_Store_items_of "items_of" "Store.items_of" f fd) (T : Txt K mg) : FnOk P w K mg base CX0 1 f fd ["self", "number"] (spItems K w) := by
  refine ok0 F sc_items (fun vs H Q E h => ?_) (fun cdv A outer s H vs Q E hr h => ?_)
  · obtain ⟨s, D, E, x, n, rfl, _⟩ := h
    rfl
  · obtain ⟨s, D, E, x, n, rfl, S, d, wx, lx, k⟩ := h
    refine ⟨_, pss_cons (ps_set (i := 2) sc_items.nd rfl (.inl rfl) (pe_lst pa_nil)) (pss_cons (ps_while PassesOwn.never (pt_cmpR op_ne (pv 1) (pe_gi (by rfl) T.empty) (nomark _))
        (pss_cons (ps_asg (pe_ix ix_list (pe_fld (pv 0) rfl) (pv 1) (fun _ _ => rfl)) (pg_tup rfl (pgs_cons (pg_name (i := 3) sc_items.nd rfl (.inl rfl)) (pgs_cons (pg_name (i := 1) sc_items.nd rfl (.inl rfl)) pgs_nil))))
        (pss_one (ps_expr (pe_bm PySem.F.plainAttrs_list PySem.F.slot_list_append PySem.F.type_list_append mt_append (pv 2) (pa_cons (pv 3) pa_nil))))))
      (pss_one (ps_ret (pv 2)))), ?_⟩
    refine ⟨Nat.zero_le _, fun p hp => ?_⟩
    refine ⟨fun m σ H' => ∃ (y : Val) (ny : Nat) (done : List Val) (acc : List Nat) (it : Option V), σ = [some (.ref s), some (.int ny), some (.ref p), it] ∧ H' = upd H p (.lst (acc.map vi)) ∧ Den E y ny ∧ y.isW = false ∧ m = y.items.length ∧ x.items = done ++ y.items ∧ Dens E done acc,
      ⟨_, x, n, [], [], none, rfl, rfl, d, wx, rfl, rfl, .nil⟩, ?_⟩
    rintro m σ H' ⟨y, ny, done, acc, it, rfl, rfl, dy, wy, rfl, ex, da⟩
    have S' : StoreAt K w (upd H p (.lst (acc.map vi))) s D E := S.same (Same.laid hp)
    refine ⟨_, rfl, rfl, _, rfl, ?_⟩
    cases y with
    | w z => cases wy
    | nil =>
      have dy : ny = 0 := dy
      subst dy
      refine iteF ⟨_, rfl, ?_⟩
      have ex : x.items = done := by rw [ex]; exact List.append_nil _
      exact k p acc hp (by rw [ex]; exact da)
    | cons h' t =>
      obtain ⟨es, v, e1, e2, q⟩ := S'.entry dy
      rcases q with ⟨z, q, _⟩ | ⟨q, _⟩ | ⟨h2, t2, i, j, a, q, rfl, ha, d1, d2, d3, hn⟩
      · cases q
      · cases q
      · cases q
        have en : (!decide (V.int (ny : Int) = V.int 0)) = true := by rw [dec_n0 hn]; rfl
        rw [en]
        refine iteT ⟨_, fun σ' H' q => q, ?_⟩
        have le : acc.length ≤ x.items.length := by
          rw [ex, List.length_append, ← Paired.length da]
          omega
        refine ⟨_, rfl, s, CS K, D.dx, _, _, rfl, S'.ob, T.clS, T.s1, sf_en D, _, rfl, D.en, es, _, _, rfl, rfl, SqL.of e1, atI_nat e2, a, _, rfl, SqT.of ha, rfl, _, _, rfl, _, _, rfl, rfl, ?_⟩
        refine ⟨_, rfl, .inl ⟨rfl, _, SqL.of upd_same⟩, _, rfl, p, _, _, rfl, rfl, upd_same, ?_, ?_⟩
        · have := line6
          rw [List.length_map]
          omega
        · refine ⟨_, Nat.lt_succ_self t.items.length, t, j, done ++ [h'], acc ++ [i], _, rfl, ?_, d2, d3, rfl, ?_, Paired.snoc da d1⟩
          · rw [upd_upd, List.map_append]
            rfl
          · rw [ex]
            show done ++ h' :: t.items = done ++ [h'] ++ t.items
            simp
end
end OgW
/-! OgS5: Store.put. -/
namespace OgW
open PySem PySem.Spec PyProof.Rows L2 OgD Og OgT
theorem rev_pop {α : Type} {v : α} {ws : List α} : ((v :: ws).reverse)[((v :: ws).reverse).length - 1]? = some v := by simp
theorem rev_drop {α : Type} {v : α} {ws : List α} : ((v :: ws).reverse).dropLast = ws.reverse := by simp
theorem rev_push {α : Type} {v : α} {ws : List α} : ws.reverse ++ [v] = (v :: ws).reverse := by simp
/-! ### what is still to be put -/
def wtW : List (Val × Bool) → Nat
  | [] => 0
  | (x, b) :: W => (if b = true then 1 else 2 * x.size) + wtW W
def potW : List (Val × Bool) → Nat
  | [] => 0
  | (x, b) :: W => (if b = true then x.items.length else x.size) + potW W
/-- going on from here the value v comes out -/
def Good (v : Val) : List (Val × Bool) → List Val → Prop
  | [], M => M = [v]
  | (x, false) :: W, M => Good v W (x :: M)
  | (x, true) :: W, M => x.isW = false ∧ ∃ R, M = x.items ++ R ∧ Good v W (x :: R)
def sub (l : List Val) : List (Val × Bool) := l.map fun x => (x, false)
theorem good_sub {v : Val} : ∀ {l : List Val} {W : List (Val × Bool)} {M : List Val}, Good v W (l ++ M) → Good v (sub l.reverse ++ W) M
  | [], _, _, h => h
  | a :: l, W, M, h => by
    have e : sub (a :: l).reverse ++ W = sub l.reverse ++ ((a, false) :: W) := by simp [sub]
    rw [e]
    exact good_sub (show Good v ((a, false) :: W) (l ++ M) from h)
theorem wtW_append : ∀ (A B : List (Val × Bool)), wtW (A ++ B) = wtW A + wtW B
  | [], B => by simp [wtW]
  | (x, b) :: A, B => by
    show _ + wtW (A ++ B) = _ + wtW A + wtW B
    rw [wtW_append A B]
    omega
theorem potW_append : ∀ (A B : List (Val × Bool)), potW (A ++ B) = potW A + potW B
  | [], B => by simp [potW]
  | (x, b) :: A, B => by
    show _ + potW (A ++ B) = _ + potW A + potW B
    rw [potW_append A B]
    omega
def sizes : List Val → Nat
  | [] => 0
  | a :: l => a.size + sizes l
theorem sizes_append : ∀ (a b : List Val), sizes (a ++ b) = sizes a + sizes b
  | [], b => by simp [sizes]
  | x :: a, b => by
    show _ + sizes (a ++ b) = _ + sizes a + sizes b
    rw [sizes_append a b]
    omega
theorem wt_sub : ∀ l : List Val, wtW (sub l.reverse) = 2 * sizes l
  | [] => rfl
  | a :: l => by
    have e : sub (a :: l).reverse = sub l.reverse ++ [(a, false)] := by simp [sub]
    rw [e, wtW_append, wt_sub l]
    show _ + (2 * a.size + 0) = 2 * (a.size + sizes l)
    omega
theorem pot_sub : ∀ l : List Val, potW (sub l.reverse) = sizes l
  | [] => rfl
  | a :: l => by
    have e : sub (a :: l).reverse = sub l.reverse ++ [(a, false)] := by simp [sub]
    rw [e, potW_append, pot_sub l]
    show _ + (a.size + 0) = (a.size + sizes l)
    omega
theorem size_items : ∀ {x : Val}, x.isW = false → x.ok = true → x.size = sizes x.items + x.items.length + 1
  | .w _, h, _ => by cases h
  | .nil, _, _ => rfl
  | .cons h t, _, o => by
    have o : (h.ok && (!t.isW && t.ok)) = true := o
    obtain ⟨_, o⟩ := Bool.and_eq_true_iff.mp o
    obtain ⟨o1, o2⟩ := Bool.and_eq_true_iff.mp o
    have ih := size_items (x := t) (by simpa using o1) o2
    show h.size + t.size + 1 = h.size + sizes t.items + (t.items.length + 1) + 1
    omega
theorem size_ge (x : Val) : 1 ≤ x.size := size_pos x
theorem wt_len : ∀ W : List (Val × Bool), W.length ≤ wtW W
  | [] => Nat.le_refl _
  | (x, b) :: W => by
    have := wt_len W
    have := size_ge x
    show W.length + 1 ≤ (if b = true then 1 else 2 * x.size) + wtW W
    split <;> omega
/-- a task of put's own list -/
def TaskW (K : PySem.W.Frag) (H0 H : Hp) (q : Val × Bool) (v : V) : Prop := ∃ a u, v = .ref a ∧ H a = some (.tup [u, .bl q.2]) ∧ RepV K H0 q.1 u
theorem TaskW.keeps {K : PySem.W.Frag} {H0 H H' : Hp} {q : Val × Bool} {v : V} (t : KT0 H H') (h : TaskW K H0 H q v) : TaskW K H0 H' q v := by
  obtain ⟨a, u, e, g, r⟩ := h
  exact ⟨a, u, e, t _ _ g, r⟩
/-- the state of put's loop: what stood is there but for the store's own, the two lists are new -/
structure PutSt (K : PySem.W.Frag) (w : World) (H : Hp) (s : Addr) (D : SA) (wl ml : Addr) (E : List Ent) (H' : Hp) (W : List (Val × Bool)) (M : List Val) (ws : List V) (ns : List Nat) (E' : List Ent) : Prop where
  S0 : StoreAt K w H s D E
  wl0 : H wl = none
  ml0 : H ml = none
  wm : wl ≠ ml
  S : StoreAt K w H' s D E'
  xt : Ext E E'
  kp : Kp D H H'
  hw : H' wl = some (.lst ws.reverse)
  pw : Paired (TaskW K H H') W ws
  hm : H' ml = some (.lst (ns.map vi).reverse)
  dm : Dens E' M ns
section
variable {K : PySem.W.Frag} {w : World} {H H' H2 : Hp} {s wl ml p : Addr} {D : SA} {E E' E2 : List Ent} {W W2 : List (Val × Bool)} {M M2 : List Val} {ws ws2 : List V} {ns ns2 : List Nat}
theorem StoreAt.none_off (S : StoreAt K w H s D E) {l : Addr} (e : H l = none) : l ≠ s ∧ l ≠ D.en ∧ l ≠ D.nu ∧ l ≠ D.si ∧ l ≠ D.de := by
  obtain ⟨vs, e1⟩ := S.enO
  obtain ⟨rows, e2⟩ := S.nuO
  obtain ⟨zs, e3, _⟩ := S.si
  obtain ⟨ys, e4, _⟩ := S.de
  refine ⟨?_, ?_, ?_, ?_, ?_⟩
  · intro z; rw [z, S.ob] at e; cases e
  · intro z; rw [z, e1] at e; cases e
  · intro z; rw [z, e2] at e; cases e
  · intro z; rw [z, e3] at e; cases e
  · intro z; rw [z, e4] at e; cases e
/-- a list that is not the store's is changed -/
theorem StoreAt.other (S0 : StoreAt K w H s D E) (S : StoreAt K w H' s D E') {l : Addr} {xs ys : List V} (e : H l = none) (el : H' l = some (.lst xs)) : StoreAt K w (upd H' l (.lst ys)) s D E' := by
  obtain ⟨o1, o2, o3, o4, o5⟩ := S0.none_off e
  refine S.keeps (fun b o q hb => (upd_ne ?_).trans q) fun a zs q => (upd_ne (ne_of q el (by intro z; cases z))).trans q
  rcases hb with rfl | rfl | rfl | rfl | rfl
  · exact o1.symm
  · exact o2.symm
  · exact o3.symm
  · exact o4.symm
  · exact o5.symm
theorem kt_lst {l : Addr} {xs ys : List V} (el : H' l = some (.lst xs)) : KT0 H' (upd H' l (.lst ys)) := fun a zs q => (upd_ne (ne_of q el (by intro z; cases z))).trans q
theorem PutSt.made (Z : PutSt K w H s D wl ml E H' W M ws ns E') (dm : Dens E' M2 ns2) : PutSt K w H s D wl ml E (upd H' ml (.lst (ns2.map vi).reverse)) W M2 ws ns2 E' :=
  ⟨Z.S0, Z.wl0, Z.ml0, Z.wm, Z.S0.other Z.S Z.ml0 Z.hm, Z.xt, fun b o e h1 h2 h3 h4 => (upd_ne (ne_of_none e Z.ml0)).trans (Z.kp b o e h1 h2 h3 h4), (upd_ne Z.wm).trans Z.hw, Paired.mapP Z.pw fun _ _ z => z.keeps (kt_lst Z.hm), upd_same, dm⟩
theorem PutSt.wait (Z : PutSt K w H s D wl ml E H' W M ws ns E') (pw : Paired (TaskW K H H') W2 ws2) : PutSt K w H s D wl ml E (upd H' wl (.lst ws2.reverse)) W2 M ws2 ns E' :=
  ⟨Z.S0, Z.wl0, Z.ml0, Z.wm, Z.S0.other Z.S Z.wl0 Z.hw, Z.xt, fun b o e h1 h2 h3 h4 => (upd_ne (ne_of_none e Z.wl0)).trans (Z.kp b o e h1 h2 h3 h4), upd_same, Paired.mapP pw fun _ _ z => z.keeps (kt_lst Z.hw), (upd_ne Z.wm.symm).trans Z.hm, Z.dm⟩
theorem PutSt.laid (Z : PutSt K w H s D wl ml E H' W M ws ns E') {o : HO} (hp : H' p = none) : PutSt K w H s D wl ml E (upd H' p o) W M ws ns E' :=
  ⟨Z.S0, Z.wl0, Z.ml0, Z.wm, Z.S.same (Same.laid hp), Z.xt, Z.kp.trans (Kp.laid hp), Same.laid hp _ _ Z.hw, Paired.mapP Z.pw fun _ _ z => z.keeps (fun a xs e => Same.laid hp _ _ e), Same.laid hp _ _ Z.hm, Z.dm⟩
theorem PutSt.store (Z : PutSt K w H s D wl ml E H' W M ws ns E') (S2 : StoreAt K w H2 s D E2) (x2 : Ext E' E2) (k2 : Kp D H' H2) : PutSt K w H s D wl ml E H2 W M ws ns E2 := by
  obtain ⟨_, a2, a3, a4, a5⟩ := Z.S0.none_off Z.wl0
  obtain ⟨_, b2, b3, b4, b5⟩ := Z.S0.none_off Z.ml0
  exact ⟨Z.S0, Z.wl0, Z.ml0, Z.wm, S2, Z.xt.trans x2, Z.kp.trans k2, k2 _ _ Z.hw a2 a3 a4 a5, Paired.mapP Z.pw fun _ _ z => z.keeps (Z.S.kt k2), k2 _ _ Z.hm b2 b3 b4 b5, Z.dm.ext x2⟩
/-- a list of put's own (in a turn) is changed -/
theorem PutSt.third (Z : PutSt K w H s D wl ml E H' W M ws ns E') {l : Addr} {xs ys : List V} (l0 : H l = none) (lw : l ≠ wl) (lm : l ≠ ml) (el : H' l = some (.lst xs)) : PutSt K w H s D wl ml E (upd H' l (.lst ys)) W M ws ns E' :=
  ⟨Z.S0, Z.wl0, Z.ml0, Z.wm, Z.S0.other Z.S l0 el, Z.xt, fun b o e h1 h2 h3 h4 => (upd_ne (ne_of_none e l0)).trans (Z.kp b o e h1 h2 h3 h4), (upd_ne lw.symm).trans Z.hw, Paired.mapP Z.pw fun _ _ z => z.keeps (kt_lst el), (upd_ne lm.symm).trans Z.hm, Z.dm⟩
theorem PutSt.fresh (Z : PutSt K w H s D wl ml E H' W M ws ns E') {l : Addr} (e : H' l = none) : H l = none := by
  cases q : H l with
  | none => rfl
  | some o =>
    have k := Z.kp l o q
    obtain ⟨vs, e1⟩ := Z.S.enO
    obtain ⟨rows, e2⟩ := Z.S.nuO
    obtain ⟨zs, e3, _⟩ := Z.S.si
    obtain ⟨ys, e4, _⟩ := Z.S.de
    have n1 : l ≠ D.en := fun z => by rw [z, e1] at e; cases e
    have n2 : l ≠ D.nu := fun z => by rw [z, e2] at e; cases e
    have n3 : l ≠ D.si := fun z => by rw [z, e3] at e; cases e
    have n4 : l ≠ D.de := fun z => by rw [z, e4] at e; cases e
    rw [k n1 n2 n3 n4] at e
    cases e
theorem PutSt.kt (Z : PutSt K w H s D wl ml E H' W M ws ns E') : KT0 H H' := Z.S0.kt Z.kp
end
section
variable {P : Program} {w : World} {K : PySem.W.Frag} {mg : Str → Option Value} {base : Heap}
def spPut (K : PySem.W.Frag) (w : World) : Sp := fun vs H Q _ => ∃ (s : Addr) (D : SA) (E : List Ent) (x : Val) (v : V), vs = [.ref s, v] ∧ StoreAt K w H s D E ∧ RepV K H x v ∧ E.length + x.size ≤ 1000000 ∧
  ∀ (H' : Hp) (E' : List Ent) (n : Nat), StoreAt K w H' s D E' → Ext E E' → E'.length ≤ E.length + x.size → Den E' x n → Kp D H H' → Q (.int n) H'
theorem sc_put : FnScope ["self", "value", "waiting", "made", "one", "is_ready", "item", "found", "items", "_"] ["self", "value"] (defScope s_Store_put) := ⟨rfl, rfl, rfl, by decide +kernel, rfl, by decide +kernel, by decide +kernel⟩
theorem ok_put {f : Addr} {fd : FuncData} (F : FnS K s_Store_put "put" "Store.put" f fd) (T : Txt K mg) (gN : Mth P w K mg base (CS K) "number_of" 1 ["self", "entry"] (spNum K w)) :
    FnOk P w K mg base CX0 2 f fd ["self", "value"] (spPut K w) := by
  obtain ⟨fN, fdN, GN, mN, bN⟩ := gN
  refine ok0 F sc_put (fun vs H Q E h => ?_) (fun cdv A outer s H vs Q E hr h => ?_)
  · obtain ⟨s, D, E, x, v, rfl, _⟩ := h
    rfl
  · obtain ⟨s, D, E, x, v, rfl, S, rx, hl, k⟩ := h
    refine ⟨_, (pss_cons (ps_set (i := 2) sc_put.nd rfl (.inl rfl) (pe_lst (pa_cons (pe_tup (pa_cons (pv 1) (pa_cons pe_bl pa_nil))) pa_nil)))
      (pss_cons (ps_set (i := 3) sc_put.nd rfl (.inr rfl) (pe_lst pa_nil))
      (pss_cons (ps_while PassesOwn.never (pt_cmpR op_gt (pe_callB call_len_seq (by rfl) T.len b_len (pa_cons (pv 2) pa_nil)) pe_int (nomark _))
      (pss_cons (ps_asg (pe_bm0 PySem.F.plainAttrs_list PySem.F.slot_list_pop PySem.F.type_list_pop mt_pop (pv 2)) (pg_tup rfl (pgs_cons (pg_name (i := 4) sc_put.nd rfl (.inl rfl)) (pgs_cons (pg_name (i := 5) sc_put.nd rfl (.inl rfl)) pgs_nil))))
      (pss_one (ps_if (pt_val (pe_callB call_isStr (by rfl) T.isi b_isi (pa_cons (pv 4) (pa_cons (pe_bltn (v := .ty "str") (by rfl) T.str b_str rfl) pa_nil))))
      (pss_one (ps_expr (pe_bm PySem.F.plainAttrs_list PySem.F.slot_list_append PySem.F.type_list_append mt_append (pv 3) (pa_cons (pe_meth (pv 0) T.clS mN GN hr bN .nil pass0 (pa_cons (pv 4) pa_nil)) pa_nil))))
      (pss_one (ps_if (pt_not (pt_val (pv 5)))
      (pss_cons (ps_expr (pe_bm PySem.F.plainAttrs_list PySem.F.slot_list_append PySem.F.type_list_append mt_append (pv 2) (pa_cons (pe_tup (pa_cons (pv 4) (pa_cons pe_bl pa_nil))) pa_nil)))
      (pss_one (ps_expr (pe_bm PySem.F.plainAttrs_list PySem.F.slot_list_extend PySem.F.type_list_extend mt_extend (pv 2) (pa_cons (pe_lc (own := [("item", 6)]) (g := gName 6) (tt := tYes) rfl sc_put.nd (pi_tup (pv 4)) (blkOk_by (N := ["self", "value", "waiting", "made", "one", "is_ready", "item", "found", "items", "_"]) (sc := defScope s_Store_put) (by decide +kernel)) (fun _ _ _ _ _ => pg_name (i := 6) sc_put.nd rfl (Or.inl rfl)) (fun _ _ _ _ _ => pts_nil) (fun _ _ _ _ _ => by exact (pe_tup (pa_cons (pv 6) (pa_cons pe_bl pa_nil))))) pa_nil)))))
      (pss_cons (ps_set (i := 7) sc_put.nd rfl (.inl rfl) (pe_gi (by rfl) T.empty))
      (pss_cons (ps_setLc (i := 8) (own := [("_", 9)]) (g := gName 9) (tt := tYes) (te := tBM0 K "list" rPop (tVar 3)) rfl sc_put.nd rfl rfl (sw_true rfl rfl rfl (by decide +kernel)) (pi_tup (pv 4)) (blkOk_by (N := ["self", "value", "waiting", "made", "one", "is_ready", "item", "found", "items", "_"]) (sc := defScope s_Store_put) (by decide +kernel)) (fun _ _ _ _ _ => pg_name (i := 9) sc_put.nd rfl (Or.inl rfl)) (fun _ _ _ _ _ => pts_nil) (fun _ _ _ _ _ => by exact (pe_bm0 PySem.F.plainAttrs_list PySem.F.slot_list_pop PySem.F.type_list_pop mt_pop (pv 3))))
      (pss_cons (ps_for PassesOwn.never rfl (pi_reversed (by rfl) T.rev (pa_cons (pv 8) pa_nil)) (pg_name (i := 6) sc_put.nd rfl (.inl rfl))
      (pss_one (ps_set (i := 7) sc_put.nd rfl (.inl rfl) (pe_meth (pv 0) T.clS mN GN hr bN .nil pass0 (pa_cons (pe_tup (pa_cons (pv 6) (pa_cons (pv 7) pa_nil))) pa_nil)))))
      (pss_one (ps_expr (pe_bm PySem.F.plainAttrs_list PySem.F.slot_list_append PySem.F.type_list_append mt_append (pv 3) (pa_cons (pv 7) pa_nil)))))))))))))
      (pss_one (ps_ret (pe_ix ix_list (pv 3) pe_int (fun _ _ => rfl))))))), ?_⟩
    refine ⟨v, rfl, (by show 2 ≤ sizeLine; rw [sizeLine_eq]; decide), fun ta hta => ⟨(by show 1 ≤ sizeLine; rw [sizeLine_eq]; decide), fun wl hwl => ⟨Nat.zero_le _, fun ml hml => ?_⟩⟩⟩
    have wl0 : H wl = none := Same.free (Same.laid hta) hwl
    have ml0 : H ml = none := Same.free ((Same.laid hta).trans (Same.laid hwl)) hml
    have wm : wl ≠ ml := fun e => by
      subst e
      rw [upd_same] at hml
      cases hml
    have first : Same H (upd (upd (upd H ta (.tup [v, .bl false])) wl (.lst [.ref ta])) ml (.lst [])) := ((Same.laid hta).trans (Same.laid hwl)).trans (Same.laid hml)
    have Z0 : PutSt K w H s D wl ml E (upd (upd (upd H ta (.tup [v, .bl false])) wl (.lst [.ref ta])) ml (.lst [])) [(x, false)] [] [.ref ta] [] E := by
      have tw : ta ≠ wl := fun e => by
        subst e
        rw [upd_same] at hwl
        cases hwl
      have tm : ta ≠ ml := fun e => by
        subst e
        rw [upd_ne tw, upd_same] at hml
        cases hml
      exact ⟨S, wl0, ml0, wm, S.same first, Ext.refl E, fun b o e _ _ _ _ => first b o e, by rw [upd_ne wm, upd_same]; rfl, .cons ⟨ta, v, rfl, by rw [upd_ne tm, upd_ne tw, upd_same], rx⟩ .nil, upd_same, .nil⟩
    refine ⟨fun m σ H' => ∃ (W : List (Val × Bool)) (M : List Val) (ws : List V) (ns : List Nat) (E' : List Ent) (a4 a5 a6 a7 a8 : Option V), σ = [some (.ref s), some v, some (.ref wl), some (.ref ml), a4, a5, a6, a7, a8, none] ∧ m = wtW W ∧
      PutSt K w H s D wl ml E H' W M ws ns E' ∧ Good x W M ∧ E'.length + potW W ≤ E.length + x.size ∧ M.length + wtW W ≤ 2 * x.size,
      ⟨_, [(x, false)], [], [.ref ta], [], E, none, none, none, none, none, rfl, rfl, Z0, rfl, Nat.le_refl _, ?_⟩, ?_⟩
    · show 0 + (2 * x.size + 0) ≤ 2 * x.size
      omega
    rintro m σ H' ⟨W, M, ws, ns, E', a4, a5, a6, a7, a8, rfl, rfl, Z, gd, pot, wt⟩
    have szx : x.size ≤ 1000000 := by omega
    have lenW : ws.length = W.length := (Paired.length Z.pw).symm
    have lenM : ns.length = M.length := (Paired.length Z.dm).symm
    have wl1 := wt_len W
    have l6 := line6
    have l3 : 3000000 < sizeLine := by rw [sizeLine_eq]; decide
    refine ⟨_, rfl, wl, _, rfl, .inl (SqL.of Z.hw), _, _, rfl, rfl, _, rfl, ?_⟩
    cases W with
    | nil =>
      obtain ⟨_, _, _, _, S', xt, kp, hw, pw, hm, dm⟩ := Z
      cases pw
      have gd : M = [x] := gd
      subst gd
      cases dm with
      | @cons _ n _ _ dn t =>
        cases t
        refine iteF ⟨_, rfl, ml, _, _, _, rfl, rfl, SqL.of hm, rfl, ?_⟩
        exact k H' E' n S' xt (by have : potW [] = 0 := rfl; omega) dn kp
    | cons q W =>
      obtain ⟨y, r⟩ := q
      obtain ⟨ws', ta', u, ews, hta', ry, pw'⟩ : ∃ (ws' : List V) (ta' : Addr) (u : V), ws = .ref ta' :: ws' ∧ H' ta' = some (.tup [u, .bl r]) ∧ RepV K H y u ∧ Paired (TaskW K H H') W ws' := by
        have pw := Z.pw
        cases pw with
        | cons tw pw =>
          obtain ⟨ta', u, e, h1, h2⟩ := tw
          exact ⟨_, ta', u, by rw [e], h1, h2, pw⟩
      subst ews
      have pos : decide (0 < ((((V.ref ta' :: ws').reverse).length : Nat) : Int)) = true := decide_eq_true (by simp)
      rw [pos]
      refine iteT ⟨_, fun σ' H' q => q, ?_⟩
      have tw' : ta' ≠ wl := ne_of hta' Z.hw (by intro z; cases z)
      refine ⟨_, rfl, .inl ⟨rfl, _, SqL.of Z.hw⟩, wl, _, _, rfl, rfl, Z.hw, rev_pop, ?_⟩
      rw [rev_drop]
      refine ⟨ta', _, rfl, SqT.of ((upd_ne tw').trans hta'), rfl, _, _, rfl, _, _, rfl, rfl, ?_⟩
      have Z1 : PutSt K w H s D wl ml E (upd H' wl (.lst ws'.reverse)) W M ws' ns E' := Z.wait pw'
      have ry1 := ry.keeps Z1.kt
      have lenW' : ws'.length = W.length := (Paired.length pw').symm
      have wl2 := wt_len W
      refine ⟨u, rfl, u, y.isW, rfl, ry1.wt, _, rfl, ?_⟩
      generalize upd H' wl (.lst ws'.reverse) = H1 at Z1 ry1 ⊢
      cases hy : y.isW with
      | true =>
        cases y with
        | w z =>
          cases r with
          | true => cases gd.1
          | false =>
            have eu : u = .str z := ry
            subst eu
            have hp : potW ((Val.w z, false) :: W) = 1 + potW W := rfl
            have hwt : wtW ((Val.w z, false) :: W) = 2 + wtW W := rfl
            refine iteT ⟨_, rfl, .inl ⟨rfl, _, SqL.of Z1.hm⟩, _, rfl, s, D.dx, _, rfl, Z1.S.ob, sf_num D, _, rfl, s, D, E', .w z, _, rfl, Z1.S, rfl, True.intro, by omega, fun H2 E2 m S2 x2 l2 g2 k2 => ?_⟩
            have Z2 := Z1.store S2 x2 k2
            refine ⟨ml, _, _, rfl, rfl, Z2.hm, ?_, ?_⟩
            · rw [List.length_reverse, List.length_map]
              omega
            · rw [rev_push]
              exact ⟨_, by omega, W, .w z :: M, ws', (m + 1) :: ns, E2, _, _, _, _, _, rfl, rfl, Z2.made (.cons (show Den E2 (.w z) (m + 1) from ⟨m, rfl, g2⟩) Z2.dm), gd, by omega, by simp only [List.length_cons]; omega⟩
        | nil => cases hy
        | cons _ _ => cases hy
      | false =>
        obtain ⟨ay, vy, eu, hay, ly⟩ := ry.list hy
        subst eu
        have oky := ry1.ok
        have szy := size_items hy oky
        have ity := ly.items
        have leny : vy.length = y.items.length := (Paired.length ity).symm
        cases r with
        | false =>
          have hp : potW ((y, false) :: W) = y.size + potW W := rfl
          have hwt : wtW ((y, false) :: W) = 2 * y.size + wtW W := rfl
          refine iteF ⟨_, rfl, _, rfl, iteT ⟨_, rfl, .inl ⟨rfl, _, SqL.of Z1.hw⟩, _, rfl, (by show 2 ≤ sizeLine; rw [sizeLine_eq]; decide), fun t ht => ?_⟩⟩
          have Z2 := Z1.laid (o := .tup [.ref ay, .bl true]) ht
          refine ⟨wl, _, _, rfl, rfl, Z2.hw, ?_, ?_⟩
          · rw [List.length_reverse]
            omega
          rw [rev_push]
          have Z3 : PutSt K w H s D wl ml E (upd (upd H1 t (.tup [.ref ay, .bl true])) wl (.lst (.ref t :: ws').reverse)) ((y, true) :: W) M (.ref t :: ws') ns E' := Z2.wait (.cons ⟨t, _, rfl, upd_same, ry⟩ Z2.pw)
          generalize upd (upd H1 t (.tup [.ref ay, .bl true])) wl (.lst (.ref t :: ws').reverse) = H3 at Z3 ⊢
          -- the items, each with False
          refine ⟨_, rfl, .inl ⟨rfl, _, SqL.of Z3.hw⟩, _, rfl, ay, rfl, ⟨_, (hay.keeps Z3.kt).seq⟩, fun Dl hDl => ?_⟩
          have Dl0 := Z3.fresh hDl
          have dw : Dl ≠ wl := fun z => by rw [z, Z3.hw] at hDl; cases hDl
          have dm' : Dl ≠ ml := fun z => by rw [z, Z3.hm] at hDl; cases hDl
          refine lc_tup (K := K) (a := ay) (xs := vy) (fun i H4 => ∃ tk : List V, PutSt K w H s D wl ml E H4 ((y, true) :: W) M (.ref t :: ws') ns E' ∧ H4 Dl = some (.lst tk) ∧ Paired (TaskW K H H4) (sub (y.items.take i)) tk)
            ⟨[], Z3.laid hDl, upd_same, .nil⟩ (fun i H4 _ q => by obtain ⟨tk, Z4, _⟩ := q; exact (hay.keeps Z4.kt).seq) ?_ ?_
          · rintro i z H4 hz ⟨tk, Z4, hDl4, ptk⟩
            have hi : i < y.items.length := by rw [← leny]; exact (List.getElem?_eq_some_iff.mp hz).1
            obtain ⟨z', hz', rz⟩ := paired_get ity (List.getElem?_eq_getElem hi)
            rw [hz] at hz'
            cases hz'
            have lentk : tk.length = i := by
              rw [← Paired.length ptk]
              simp [sub]
              omega
            refine ⟨rfl, _, rfl, (by show 2 ≤ sizeLine; rw [sizeLine_eq]; decide), fun p hp => ?_⟩
            have Z5 := Z4.laid (o := .tup [z, .bl false]) hp
            have ne : Dl ≠ p := ne_of_none hDl4 hp
            refine ⟨tk, (upd_ne ne).trans hDl4, by omega, tk ++ [.ref p], Z5.third Dl0 dw dm' ((upd_ne ne).trans hDl4), upd_same, ?_⟩
            have e : sub (y.items.take (i + 1)) = sub (y.items.take i) ++ [(y.items[i], false)] := by
              rw [List.take_succ_eq_append_getElem hi]
              exact List.map_append
            rw [e]
            refine Paired.snoc (Paired.mapP ptk fun _ _ q => (q.keeps fun a xs e => Same.laid hp _ _ e).keeps (kt_lst ((upd_ne ne).trans hDl4))) ⟨p, z, rfl, ?_, rz⟩
            rw [upd_ne ne.symm, upd_same]
          · rintro H4 ⟨tk, Z4, hDl4, ptk⟩
            have ptk : Paired (TaskW K H H4) (sub y.items) tk := by
              rw [leny, List.take_length] at ptk
              exact ptk
            have lentk : tk.length = y.items.length := by
              rw [← Paired.length ptk]
              simp [sub]
            have szl : ∀ l : List Val, l.length ≤ sizes l := fun l => by
              induction l with
              | nil => exact Nat.le_refl _
              | cons a l ih =>
                have := size_ge a
                show l.length + 1 ≤ a.size + sizes l
                omega
            have szl := szl y.items
            refine ⟨wl, Dl, _, tk, rfl, rfl, Z4.hw, hDl4, ?_, ?_⟩
            · rw [List.length_reverse, List.length_cons]
              omega
            have er : (V.ref t :: ws').reverse ++ tk = (tk.reverse ++ (.ref t :: ws')).reverse := by simp
            rw [er]
            have prev : ∀ {l : List (Val × Bool)} {r : List V}, Paired (TaskW K H H4) l r → Paired (TaskW K H H4) l.reverse r.reverse := fun {l r} q => by
              induction q with
              | nil => exact .nil
              | cons h t ih =>
                rw [List.reverse_cons, List.reverse_cons]
                exact Paired.snoc ih h
            have papp : ∀ {l l2 : List (Val × Bool)} {r r2 : List V}, Paired (TaskW K H H4) l r → Paired (TaskW K H H4) l2 r2 → Paired (TaskW K H H4) (l ++ l2) (r ++ r2) := fun {l l2 r r2} q q2 => by
              induction q with
              | nil => exact q2
              | cons h t ih => exact .cons h ih
            have es : (sub y.items).reverse = sub y.items.reverse := by simp [sub]
            have pall := papp (prev ptk) Z4.pw
            rw [es] at pall
            have hw2 : wtW (sub y.items.reverse ++ (y, true) :: W) = 2 * sizes y.items + (1 + wtW W) := by rw [wtW_append, wt_sub]; rfl
            have hp2 : potW (sub y.items.reverse ++ (y, true) :: W) = sizes y.items + (y.items.length + potW W) := by rw [potW_append, pot_sub]; rfl
            exact ⟨_, by omega, sub y.items.reverse ++ (y, true) :: W, M, _, ns, E', _, _, _, _, _, rfl, rfl, Z4.wait pall, good_sub ⟨hy, M, rfl, gd⟩, by omega, by omega⟩
        | true =>
          have hp : potW ((y, true) :: W) = y.items.length + potW W := rfl
          have hwt : wtW ((y, true) :: W) = 1 + wtW W := rfl
          obtain ⟨_, R, eM, gd⟩ := gd
          subst eM
          refine iteF ⟨_, rfl, _, rfl, iteF ?_⟩
          refine ⟨_, rfl, ay, rfl, ⟨_, (hay.keeps Z1.kt).seq⟩, fun Dl hDl => ?_⟩
          have Dl0 := Z1.fresh hDl
          have dw : Dl ≠ wl := fun z => by rw [z, Z1.hw] at hDl; cases hDl
          have dm' : Dl ≠ ml := fun z => by rw [z, Z1.hm] at hDl; cases hDl
          have lenN : y.items.length ≤ ns.length := by
            rw [lenM, List.length_append]
            omega
          refine lc_tup (K := K) (a := ay) (xs := vy) (fun i H4 => PutSt K w H s D wl ml E H4 W (y.items.drop i ++ R) ws' (ns.drop i) E' ∧ H4 Dl = some (.lst ((ns.take i).map vi)))
            ⟨Z1.laid hDl, upd_same⟩ (fun i H4 _ q => (hay.keeps q.1.kt).seq) ?_ ?_
          · rintro i z H4 hz ⟨Z4, hDl4⟩
            have hi : i < y.items.length := by rw [← leny]; exact (List.getElem?_eq_some_iff.mp hz).1
            have hin : i < ns.length := by omega
            have en : ns.drop i = ns[i] :: ns.drop (i + 1) := List.drop_eq_getElem_cons hin
            have ey : y.items.drop i = y.items[i] :: y.items.drop (i + 1) := List.drop_eq_getElem_cons hi
            have hm4 := Z4.hm
            have dm4 := Z4.dm
            rw [en, List.map_cons] at hm4
            rw [en, ey] at dm4
            have dm5 : Dens E' (y.items.drop (i + 1) ++ R) (ns.drop (i + 1)) := by
              cases dm4 with
              | cons _ t => exact t
            have Z5 := Z4.made dm5
            have hD5 : upd H4 ml (.lst ((ns.drop (i + 1)).map vi).reverse) Dl = some (.lst ((ns.take i).map vi)) := (upd_ne dm').trans hDl4
            refine ⟨rfl, _, rfl, .inl ⟨rfl, _, SqL.of hm4⟩, ml, _, _, rfl, rfl, hm4, rev_pop, ?_⟩
            rw [rev_drop]
            refine ⟨_, hD5, ?_, Z5.third Dl0 dw dm' hD5, ?_⟩
            · rw [List.length_map, List.length_take]
              omega
            · rw [upd_same, List.take_succ_eq_append_getElem hin, List.map_append]
              rfl
          · rintro H4 ⟨Z4, hDl4⟩
            rw [leny] at Z4 hDl4
            rw [List.drop_length, List.nil_append] at Z4
            have dT : Dens E' y.items (ns.take y.items.length) := by
              have q := Z1.dm
              have go : ∀ {l r : List Val} {k : List Nat}, Dens E' (l ++ r) k → Dens E' l (k.take l.length) := by
                intro l
                induction l with
                | nil => intro r k _; exact .nil
                | cons a l ih =>
                  intro r k h
                  cases h with
                  | cons h t => exact .cons h (ih t)
              exact go q
            generalize ns.take y.items.length = nT at hDl4 dT
            have lT : nT.length = y.items.length := (Paired.length dT).symm
            refine ⟨_, rfl, Dl, _, rfl, SqL.of hDl4, RT.for_Itv (K := K) (a := Dl) (xs := nT.map vi) (fun i σ' H5 => ∃ (m : Nat) (a6 : Option V) (E2 : List Ent), σ' = [some (.ref s), some v, some (.ref wl), some (.ref ml), some (.ref ay), some (.bl true), a6, some (.int m), some (.ref Dl), none] ∧
                PutSt K w H s D wl ml E H5 W R ws' (ns.drop y.items.length) E2 ∧ H5 Dl = some (.lst (nT.map vi)) ∧ Ext E' E2 ∧ Den E2 (listV (y.items.drop (y.items.length - i))) m ∧ E2.length ≤ E'.length + i)
              ⟨0, a6, E', rfl, Z4, hDl4, Ext.refl E', ?_, Nat.le_refl _⟩ (fun i σ' H5 q => by obtain ⟨_, _, _, _, _, q, _⟩ := q; exact SqL.of q) ?_ ?_⟩
            · rw [Nat.sub_zero, List.drop_length]
              rfl
            · rintro i z σ' H5 hi hz ⟨m, a6', E2, rfl, Z5, hD5, x2, d2, l2⟩
              rw [List.length_map, lT] at hi hz
              have hj : y.items.length - 1 - i < y.items.length := by omega
              have hjn : y.items.length - 1 - i < nT.length := by omega
              rw [List.getElem?_map, List.getElem?_eq_getElem hjn] at hz
              have hz : vi nT[y.items.length - 1 - i] = z := Option.some.inj hz
              subst hz
              obtain ⟨n', hn', dn'⟩ := paired_get dT (List.getElem?_eq_getElem hj)
              rw [List.getElem?_eq_getElem hjn] at hn'
              have hn' := Option.some.inj hn'
              subst hn'
              have dn2 := dn'.ext x2
              refine ⟨_, rfl, s, D.dx, _, rfl, Z5.S.ob, sf_num D, _, rfl, _, rfl, (by show 2 ≤ sizeLine; rw [sizeLine_eq]; decide), fun p hp => ?_⟩
              have Z6 := Z5.laid (o := .tup [vi nT[y.items.length - 1 - i], .int m]) hp
              refine ⟨s, D, E2, .p (nT[y.items.length - 1 - i]) m, .ref p, rfl, Z6.S, ⟨p, rfl, upd_same⟩, ⟨dn2.le, d2.le⟩, by omega, fun H7 E3 m3 S7 x3 l3' g3 k3 => ?_⟩
              have Z7 := Z6.store S7 x3 k3
              obtain ⟨_, o2, o3, o4, o5⟩ := Z7.S0.none_off Dl0
              refine ⟨m3 + 1, _, E3, rfl, Z7, k3 _ _ (Same.laid hp _ _ hD5) o2 o3 o4 o5, x2.trans x3, ?_, by omega⟩
              have ed : y.items.drop (y.items.length - (i + 1)) = y.items[y.items.length - 1 - i] :: y.items.drop (y.items.length - i) := by
                have e1 : y.items.length - (i + 1) = y.items.length - 1 - i := by omega
                have e2 : y.items.length - i = y.items.length - 1 - i + 1 := by omega
                rw [e1, e2]
                exact List.drop_eq_getElem_cons hj
              rw [ed]
              exact ⟨m3, _, m, rfl, g3, dn2.ext x3, d2.ext x3, listV_isW _⟩
            · rintro σ' H5 ⟨m, a6', E2, rfl, Z5, hD5, x2, d2, l2⟩
              rw [List.length_map, lT] at d2 l2
              rw [Nat.sub_self, List.drop_zero, listV_items oky hy] at d2
              have Z5' := Z5.made (.cons d2 Z5.dm)
              refine ⟨_, rfl, .inl ⟨rfl, _, SqL.of Z5.hm⟩, _, rfl, ml, _, _, rfl, rfl, Z5.hm, ?_, ?_⟩
              · rw [List.length_reverse, List.length_map, List.length_drop]
                omega
              · rw [rev_push]
                have lR : (y.items ++ R).length = y.items.length + R.length := List.length_append
                exact ⟨_, by omega, W, y :: R, ws', m :: ns.drop y.items.length, E2, _, _, _, _, _, rfl, rfl, Z5', gd, by omega, by simp only [List.length_cons]; omega⟩
end
end OgW
/-! OgS6: Store.__init__. -/
namespace OgW
open PySem PySem.Spec PyProof.Rows L2 OgD Og OgT
section
variable {P : Program} {w : World} {K : PySem.W.Frag} {mg : Str → Option Value} {base : Heap}
def spSInit (K : PySem.W.Frag) (w : World) : Sp := fun vs H Q _ => ∃ (s dx : Addr), vs = [.ref s] ∧ H s = some (.ins (CS K) dx []) ∧
  ∀ (H' : Hp) (D : SA), StoreAt K w H' s D [] → (∀ b o, H b = some o → b ≠ s → H' b = some o) → H D.en = none → H D.nu = none → H D.si = none → H D.de = none → Q .non H'
theorem sc_sinit : FnScope ["self"] ["self"] (defScope s_Store_init) := ⟨rfl, rfl, rfl, by decide +kernel, rfl, by decide +kernel, by decide +kernel⟩
theorem pf1 (a : V) : putF "entries" a [] = ([("entries", a)] : List (Str × V)) := rfl
theorem pf2 (a b : V) : putF "numbers" b ([("entries", a)] : List (Str × V)) = ([("entries", a), ("numbers", b)] : List (Str × V)) := rfl
theorem pf3 (a b c : V) : putF "sizes" c ([("entries", a), ("numbers", b)] : List (Str × V)) = ([("entries", a), ("numbers", b), ("sizes", c)] : List (Str × V)) := rfl
theorem pf4 (a b c d : V) : putF "depths" d ([("entries", a), ("numbers", b), ("sizes", c)] : List (Str × V)) = ([("entries", a), ("numbers", b), ("sizes", c), ("depths", d)] : List (Str × V)) := rfl
theorem ok_sinit {f : Addr} {fd : FuncData} (F : FnS K s_Store_init "__init__" "Store.__init__" f fd) (T : Txt K mg) : FnOk P w K mg base CX0 1 f fd ["self"] (spSInit K w) := by
  refine ok0 F sc_sinit (fun vs H Q E h => ?_) (fun cdv A outer s H vs Q E hr h => ?_)
  · obtain ⟨s, dx, rfl, _⟩ := h
    rfl
  · obtain ⟨s, dx, rfl, hs, k⟩ := h
    refine ⟨_, (pss_cons (ps_fld (pv 0) (pe_lst (pa_cons (pe_tup pa_nil) pa_nil)) rfl)
 (pss_cons (ps_fld (pv 0) pe_mnew rfl)
 (pss_cons (ps_fld (pv 0) (pe_lst (pa_cons pe_int pa_nil)) rfl)
 (pss_one (ps_fld (pv 0) (pe_lst (pa_cons pe_int pa_nil)) rfl))))), ?_⟩
    refine ⟨Nat.zero_le _, fun t0 ht0 => ⟨(by show 1 ≤ sizeLine; rw [sizeLine_eq]; decide), fun en hen => ?_⟩⟩
    have st0 : s ≠ t0 := ne_of_none hs ht0
    have s1 := Same.laid (o := HO.tup []) ht0 _ _ hs
    have sen : s ≠ en := ne_of_none s1 hen
    have s2 := Same.laid (o := HO.lst [V.ref t0]) hen _ _ s1
    refine ⟨_, rfl, s, CS K, dx, [], rfl, s2, T.clS, T.s1, (by show 0 < 1000; decide), ?_⟩
    rw [pf1]
    refine fun nu H1 hnu k1 m1 => ?_
    have snu : s ≠ nu := ne_of_none upd_same hnu
    have h1s : H1 s = some (.ins (CS K) dx ([("entries", .ref en)] : List (Str × V))) := (k1 s snu).trans upd_same
    refine ⟨_, rfl, s, CS K, dx, _, rfl, h1s, T.clS, T.s2, (by show 1 < 1000; decide), ?_⟩
    rw [pf2]
    refine ⟨(by show 1 ≤ sizeLine; rw [sizeLine_eq]; decide), fun si hsi => ?_⟩
    have ssi : s ≠ si := ne_of_none upd_same hsi
    refine ⟨_, rfl, s, CS K, dx, _, rfl, (upd_ne ssi).trans upd_same, T.clS, T.s3, (by show 2 < 1000; decide), ?_⟩
    rw [pf3]
    refine ⟨(by show 1 ≤ sizeLine; rw [sizeLine_eq]; decide), fun de hde => ?_⟩
    have sde : s ≠ de := ne_of_none upd_same hde
    refine ⟨_, rfl, s, CS K, dx, _, rfl, (upd_ne sde).trans upd_same, T.clS, T.s4, (by show 3 < 1000; decide), ?_⟩
    rw [pf4]
    have nde : si ≠ de := fun e => by
      subst e
      rw [upd_ne ssi.symm, upd_same] at hde
      cases hde
    -- what is new
    have en0 : H en = none := Same.free (Same.laid ht0) hen
    have nen : nu ≠ en := fun e => by
      subst e
      rw [upd_ne snu.symm, upd_same] at hnu
      cases hnu
    have hnu1 : upd (upd H t0 (.tup [])) en (.lst [.ref t0]) nu = none := by
      rw [upd_ne snu.symm] at hnu
      exact hnu
    have nu0 : H nu = none := Same.free ((Same.laid ht0).trans (Same.laid hen)) hnu1
    have sienu : si ≠ nu := fun e => by
      subst e
      rw [upd_ne ssi.symm] at hsi
      obtain ⟨rows, e, _⟩ := m1
      rw [e] at hsi
      cases hsi
    have denu : de ≠ nu := fun e => by
      subst e
      rw [upd_ne sde.symm, upd_ne sienu.symm, upd_ne sde.symm] at hde
      obtain ⟨rows, e, _⟩ := m1
      rw [e] at hde
      cases hde
    have hsi1 : upd (upd H t0 (.tup [])) en (.lst [.ref t0]) si = none := by
      rw [upd_ne ssi.symm, k1 si sienu, upd_ne ssi.symm] at hsi
      exact hsi
    have hde1 : upd (upd H t0 (.tup [])) en (.lst [.ref t0]) de = none := by
      rw [upd_ne sde.symm, upd_ne nde.symm, upd_ne sde.symm, k1 de denu, upd_ne sde.symm] at hde
      exact hde
    have si0 : H si = none := Same.free ((Same.laid ht0).trans (Same.laid hen)) hsi1
    have de0 : H de = none := Same.free ((Same.laid ht0).trans (Same.laid hen)) hde1
    have seen : si ≠ en := fun e => by
      subst e
      rw [upd_same] at hsi1
      cases hsi1
    have deen : de ≠ en := fun e => by
      subst e
      rw [upd_same] at hde1
      cases hde1
    have sit0 : si ≠ t0 := fun e => by
      subst e
      rw [upd_ne seen, upd_same] at hsi1
      cases hsi1
    have det0 : de ≠ t0 := fun e => by
      subst e
      rw [upd_ne deen, upd_same] at hde1
      cases hde1
    have t0en : t0 ≠ en := fun e => by
      subst e
      rw [upd_same] at hen
      cases hen
    have t0nu : t0 ≠ nu := fun e => by
      subst e
      rw [upd_ne t0en, upd_same] at hnu1
      cases hnu1
    -- what stands at the end
    have at_ : ∀ b, b ≠ s → b ≠ de → b ≠ si → b ≠ nu → upd (upd (upd (upd (upd H1 s (.ins (CS K) dx ([("entries", .ref en), ("numbers", .ref nu)] : List (Str × V)))) si (.lst [.int 1])) s (.ins (CS K) dx ([("entries", .ref en), ("numbers", .ref nu), ("sizes", .ref si)] : List (Str × V)))) de (.lst [.int 1])) s (.ins (CS K) dx ([("entries", .ref en), ("numbers", .ref nu), ("sizes", .ref si), ("depths", .ref de)] : List (Str × V))) b = upd (upd H t0 (.tup [])) en (.lst [.ref t0]) b := fun b h1 h2 h3 h4 => by
      rw [upd_ne h1, upd_ne h2, upd_ne h1, upd_ne h3, upd_ne h1, k1 b h4, upd_ne h1]
    refine k _ ⟨dx, en, nu, si, de, t0⟩ ⟨upd_same, ⟨[], ?_, .nil⟩, .inl ?_, ?_, ⟨[1], ?_, rfl⟩, ⟨[1], ?_, rfl⟩, nde, List.nodup_nil⟩ (fun b o e hb => ?_) en0 nu0 si0 de0
    · rw [at_ en sen.symm deen.symm seen.symm nen.symm, upd_same]
    · rw [at_ t0 st0.symm det0.symm sit0.symm t0nu, upd_ne t0en, upd_same]
    · refine m1.keeps (fun o e => ?_) fun a xs e => ?_
      · rw [upd_ne snu.symm, upd_ne denu.symm, upd_ne snu.symm, upd_ne sienu.symm, upd_ne snu.symm]
        exact e
      · have as : a ≠ s := ne_of e h1s (by intro z; cases z)
        have asi : a ≠ si := fun z => by
          subst z
          rw [upd_ne ssi.symm, e] at hsi
          cases hsi
        have ade : a ≠ de := fun z => by
          subst z
          rw [upd_ne sde.symm, upd_ne nde.symm, upd_ne sde.symm, e] at hde
          cases hde
        rw [upd_ne as, upd_ne ade, upd_ne as, upd_ne asi, upd_ne as]
        exact e
    · rw [upd_ne ssi.symm, upd_ne nde, upd_ne ssi.symm, upd_same]
      rfl
    · rw [upd_ne sde.symm, upd_same]
      rfl
    · have bt : b ≠ t0 := ne_of_none e ht0
      have be : b ≠ en := ne_of_none e en0
      rw [at_ b hb (ne_of_none e de0) (ne_of_none e si0) (ne_of_none e nu0), upd_ne be, upd_ne bt]
      exact e
end
end OgW
/-! OgM0: how a machine stands in the heap. -/
namespace OgW
open PySem PySem.Spec PyProof.Rows L2 OgD Og OgT

/-! ### sizes along a run -/
def phi : List Task → Nat
  | [] => 0
  | .call _ _ :: T => 2 + phi T
  | .ev _ _ :: T => 1 + phi T
  | .ite _ _ _ :: T => 1 + phi T
  | .op _ :: T => 1 + phi T
  | .fin _ _ :: T => 1 + phi T
def nops : List Task → Nat
  | [] => 0
  | .op _ :: T => 1 + nops T
  | .call _ _ :: T => 1 + nops T
  | .ev _ _ :: T => nops T
  | .ite _ _ _ :: T => nops T
  | .fin _ _ :: T => nops T
theorem phi_len : ∀ T : List Task, T.length ≤ phi T
  | [] => Nat.le_refl _
  | t :: T => by
    have := phi_len T
    cases t <;> simp only [phi, List.length_cons] <;> omega
theorem phi_evs (n : VEnv) (tk : Task) (T : List Task) : ∀ l : List Val, phi (l.map (Task.ev · n) ++ tk :: T) = l.length + phi (tk :: T)
  | [] => by simp
  | a :: l => by
    show 1 + phi (l.map (Task.ev · n) ++ tk :: T) = _
    rw [phi_evs n tk T l, List.length_cons]
    omega
theorem nops_evs (n : VEnv) (tk : Task) (T : List Task) : ∀ l : List Val, nops (l.map (Task.ev · n) ++ tk :: T) = nops (tk :: T)
  | [] => rfl
  | a :: l => nops_evs n tk T l
/-- sizes by steps -/
structure Bd (S : MSt) : Prop where
  f : S.found.length ≤ S.steps
  t : phi S.todo ≤ 4 + 20 * S.steps
theorem evDo_bd {e : Val} {n : VEnv} {s : Nat} {F : List Val} {T : List Task} {S : MSt} (h : evDo e n s F T = some S) (hf : F.length ≤ s) (ht : phi T + 1 ≤ 4 + 20 * s) : Bd S ∧ nops S.todo ≤ nops T + 1 := by
  unfold evDo at h
  repeat' split at h
  all_goals first
    | cases h; done
    | (have e := Option.some.inj h
       subst e
       refine ⟨⟨?_, ?_⟩, ?_⟩
       · show _ ≤ s + 1
         first
           | (simp only [List.length_cons]; omega)
           | omega
       · show _ ≤ 4 + 20 * (s + 1)
         first
           | omega
           | (rw [phi_evs]; simp only [phi]; omega)
           | (simp only [phi]; omega)
       · first
           | (show _ ≤ nops T + 1; rw [nops_evs]; simp only [nops]; omega)
           | (simp only [nops]; omega))
    | cases h
theorem bd_step {keep : Bool} {P : List Fn} {S S' : MSt} (b : Bd S) (h : mStep keep P S = some S') : Bd S' := by
  obtain ⟨s, F, T⟩ := S
  obtain ⟨bf, bt⟩ := b
  cases T with
  | nil => cases h
  | cons t T =>
    cases t with
    | ev e n =>
      have bf : F.length ≤ s := bf
      have bt : 1 + phi T ≤ 4 + 20 * s := bt
      exact (evDo_bd (s := s) (F := F) (T := T) h bf (by omega)).1
    | ite a b n =>
      cases F with
      | nil => cases h
      | cons v F =>
        simp only [mStep] at h
        split at h
        · have e := Option.some.inj h
          subst e
          simp only [phi, List.length_cons] at bf bt ⊢
          exact ⟨by show F.length ≤ s; omega, by show 1 + phi T ≤ 4 + 20 * s; omega⟩
        · cases h
    | op k =>
      simp only [mStep] at h
      split at h
      · rename_i F' eF
        have e := Option.some.inj h
        subst e
        refine ⟨?_, by simp only [phi] at bt; show phi T ≤ 4 + 20 * s; omega⟩
        show F'.length ≤ s
        have : F'.length ≤ F.length := by
          unfold opDo at eF
          repeat' split at eF
          all_goals first
            | (have e := Option.some.inj eF; subst e; simp only [List.length_cons]; omega)
            | cases eF
        have bf : F.length ≤ s := bf
        omega
      · cases h
    | call f k =>
      simp only [mStep] at h
      split at h
      · unfold beginAt at h
        split at h
        · split at h
          · have e := Option.some.inj h
            subst e
            have bf : F.length ≤ s := bf
            have bt : 2 + phi T ≤ 4 + 20 * s := bt
            refine ⟨by show (F.drop k).length ≤ s; rw [List.length_drop]; omega, ?_⟩
            cases keep
            · show 1 + phi T ≤ 4 + 20 * s
              omega
            · show 1 + (1 + phi T) ≤ 4 + 20 * s
              omega
          · cases h
        · cases h
      · cases h
    | fin c k =>
      have e := Option.some.inj h
      subst e
      have bt : 1 + phi T ≤ 4 + 20 * s := bt
      exact ⟨bf, by show phi T ≤ 4 + 20 * s; omega⟩

/-! ### the machine in the heap -/
structure MA where
  dx : Addr
  st : Addr
  fu : Addr
  kp : Addr
  fo : Addr
  to : Addr
  D : SA
  y : Nat
  pls : List Addr
def mf (A : MA) (keep : Bool) (pv : V) (steps : Nat) : List (Str × V) :=
  [("store", .ref A.st), ("yes", .int A.y), ("functions", .ref A.fu), ("keeping", .bl keep), ("kept", .ref A.kp), ("pair", pv), ("steps", .int steps), ("found", .ref A.fo), ("todo", .ref A.to)]
theorem mf_st (A k p n) : (mf A k p n).lookup ("store" : Str) = some (.ref A.st) := rfl
theorem mf_ye (A k p n) : (mf A k p n).lookup ("yes" : Str) = some (.int A.y) := rfl
theorem mf_fu (A k p n) : (mf A k p n).lookup ("functions" : Str) = some (.ref A.fu) := rfl
theorem mf_ke (A k p n) : (mf A k p n).lookup ("keeping" : Str) = some (.bl k) := rfl
theorem mf_kp (A k p n) : (mf A k p n).lookup ("kept" : Str) = some (.ref A.kp) := rfl
theorem mf_pr (A k p n) : (mf A k p n).lookup ("pair" : Str) = some p := rfl
theorem mf_sp (A k p n) : (mf A k p n).lookup ("steps" : Str) = some (.int (n : Nat)) := rfl
theorem mf_fo (A k p n) : (mf A k p n).lookup ("found" : Str) = some (.ref A.fo) := rfl
theorem mf_to (A k p n) : (mf A k p n).lookup ("todo" : Str) = some (.ref A.to) := rfl
theorem mf_pair (A k p n q) : putF "pair" q (mf A k p n) = mf A k q n := rfl
theorem mf_steps (A : MA) (k : Bool) (p : V) (n m : Nat) : putF "steps" (.int m) (mf A k p n) = mf A k p m := rfl
theorem mf_no1 (A k p n) : (mf A k p n).lookup ("begin" : Str) = none := rfl
theorem mf_no2 (A k p n) : (mf A k p n).lookup ("evaluate" : Str) = none := rfl
theorem mf_no3 (A k p n) : (mf A k p n).lookup ("do" : Str) = none := rfl
theorem mf_no4 (A k p n) : (mf A k p n).lookup ("is_done" : Str) = none := rfl
theorem mf_no5 (A k p n) : (mf A k p n).lookup ("go_on" : Str) = none := rfl
theorem sf_put (D : SA) : (sf D).lookup ("put" : Str) = none := rfl
theorem sf_items (D : SA) : (sf D).lookup ("items_of" : Str) = none := rfl
theorem sf_first (D : SA) : (sf D).lookup ("first" : Str) = none := rfl
theorem sf_rest (D : SA) : (sf D).lookup ("rest" : Str) = none := rfl
theorem sf_pair (D : SA) : (sf D).lookup ("pair_up" : Str) = none := rfl

/-- tuples and dicts of numbers stay -/
def Kq (H H' : Hp) : Prop := KT0 H H' ∧ ∀ a kvs, H a = some (.dK kvs) → H' a = some (.dK kvs)
theorem Kq.trans {H H1 H2 : Hp} (a : Kq H H1) (b : Kq H1 H2) : Kq H H2 := ⟨fun c xs e => b.1 c xs (a.1 c xs e), fun c xs e => b.2 c xs (a.2 c xs e)⟩
theorem Kq.same {H H' : Hp} (s : Same H H') : Kq H H' := ⟨fun a xs e => s a _ e, fun a xs e => s a _ e⟩
theorem Kq.refl (H : Hp) : Kq H H := ⟨fun _ _ e => e, fun _ _ e => e⟩
theorem Kq.lst {H : Hp} {l : Addr} {xs ys : List V} (e : H l = some (.lst xs)) : Kq H (upd H l (.lst ys)) := ⟨kt_lst e, fun a kvs q => (upd_ne (ne_of q e (by intro z; cases z))).trans q⟩
theorem Kq.ins {H : Hp} {l C dx : Addr} {fs gs : List (Str × V)} (e : H l = some (.ins C dx fs)) : Kq H (upd H l (.ins C dx gs)) := ⟨fun a kvs q => (upd_ne (ne_of q e (by intro z; cases z))).trans q, fun a kvs q => (upd_ne (ne_of q e (by intro z; cases z))).trans q⟩
def EnvR (H : Hp) (E : List Ent) (n : VEnv) (d : Addr) : Prop := ∃ kvs : List (Key × V), H d = some (.dK kvs) ∧ Paired (fun (q : Str × Val) (p : Key × V) => ∃ i j : Nat, p = (.inl (i : Int), .int j) ∧ Den E (.w q.1) i ∧ Den E q.2 j) n kvs
def CallR (H : Hp) (E : List Ent) (c : Call) (a : Addr) : Prop := ∃ (na : Addr) (i : Nat) (ns : List Nat), H a = some (.tup [.int i, .ref na]) ∧ H na = some (.tup (ns.map vi)) ∧ Den E (.w c.f) i ∧ Dens E c.args ns
def TaskR (H : Hp) (E : List Ent) : Task → V → Prop
  | .ev e n, v => ∃ (a d : Addr) (i : Nat), v = .ref a ∧ H a = some (.tup [.str "eval", .int i, .ref d]) ∧ Den E e i ∧ EnvR H E n d
  | .ite x y n, v => ∃ (a d : Addr) (i j : Nat), v = .ref a ∧ H a = some (.tup [.str "if", .int i, .int j, .ref d]) ∧ Den E x i ∧ Den E y j ∧ EnvR H E n d
  | .op k, v => ∃ a : Addr, v = .ref a ∧ H a = some (.tup [.str "do", .str k])
  | .call f n, v => ∃ (a : Addr) (i : Nat), v = .ref a ∧ H a = some (.tup [.str "call", .int i, .int (n : Nat)]) ∧ Den E (.w f) i
  | .fin c _, v => ∃ a ca : Addr, v = .ref a ∧ H a = some (.tup [.str "end", .ref ca]) ∧ CallR H E c ca
theorem EnvR.keeps {H H' : Hp} {E E' : List Ent} {n : VEnv} {d : Addr} (k : Kq H H') (x : Ext E E') (h : EnvR H E n d) : EnvR H' E' n d := by
  obtain ⟨kvs, e, p⟩ := h
  refine ⟨kvs, k.2 _ _ e, Paired.mapP p fun _ _ z => ?_⟩
  obtain ⟨i, j, a, b, c⟩ := z
  exact ⟨i, j, a, b.ext x, c.ext x⟩
theorem CallR.keeps {H H' : Hp} {E E' : List Ent} {c : Call} {a : Addr} (k : Kq H H') (x : Ext E E') (h : CallR H E c a) : CallR H' E' c a := by
  obtain ⟨na, i, ns, h1, h2, h3, h4⟩ := h
  exact ⟨na, i, ns, k.1 _ _ h1, k.1 _ _ h2, h3.ext x, h4.ext x⟩
theorem TaskR.keeps {H H' : Hp} {E E' : List Ent} (k : Kq H H') (x : Ext E E') : ∀ {t : Task} {v : V}, TaskR H E t v → TaskR H' E' t v
  | .ev _ _, _, ⟨a, d, i, h1, h2, h3, h4⟩ => ⟨a, d, i, h1, k.1 _ _ h2, h3.ext x, h4.keeps k x⟩
  | .ite _ _ _, _, ⟨a, d, i, j, h1, h2, h3, h4, h5⟩ => ⟨a, d, i, j, h1, k.1 _ _ h2, h3.ext x, h4.ext x, h5.keeps k x⟩
  | .op _, _, ⟨a, h1, h2⟩ => ⟨a, h1, k.1 _ _ h2⟩
  | .call _ _, _, ⟨a, i, h1, h2, h3⟩ => ⟨a, i, h1, k.1 _ _ h2, h3.ext x⟩
  | .fin _ _, _, ⟨a, ca, h1, h2, h3⟩ => ⟨a, ca, h1, k.1 _ _ h2, h3.keeps k x⟩
/-- the functions -/
def FunR (H : Hp) (E : List Ent) (pls : List Addr) (g : Fn) (p : Key × V) : Prop := ∃ (i b : Nat) (a pl : Addr) (ns : List Nat), p = (.inl (i : Int), .ref a) ∧ Den E (.w g.name) i ∧ H a = some (.tup [.ref pl, .int b]) ∧ H pl = some (.lst (ns.map vi)) ∧
  Dens E (g.ps.map .w) ns ∧ Den E g.body b ∧ pl ∈ pls
def keyC (i : Nat) (ns : List Nat) : NestedKey := .tup [.num i, .tup (ns.map fun (n : Nat) => .num (n : Int))]
/-- what the kept calls are -/
def KeptR (H : Hp) (E : List Ent) (T : List Task) (q : Call × Addr) (p : NestedKey × V) : Prop := ∃ (i : Nat) (ns : List Nat), p = (keyC i ns, .ref q.2) ∧ Den E (.w q.1.f) i ∧ Dens E q.1.args ns ∧ H q.2 = some (.lst ((openAt q.1 T).map vi).reverse)
/-- the lists of the machine that change, but for those of the kept calls -/
def MA.ls (A : MA) : List Addr := [A.fo, A.to, A.D.en, A.D.si, A.D.de]
structure KeptAt (w : World) (H : Hp) (A : MA) (E : List Ent) (T : List Task) (kl : List (Call × Addr)) : Prop where
  dm : ∃ kvs, DM w H A.kp kvs ∧ Paired (KeptR H E T) kl kvs
  all : ∀ c, (∀ q ∈ kl, q.1 ≠ c) → openAt c T = []
  nd1 : (kl.map (·.1)).Nodup
  nd2 : (kl.map (·.2)).Nodup
  off : ∀ q ∈ kl, q.2 ∉ A.ls ∧ q.2 ∉ A.pls
def PairV (H : Hp) : Option (Nat × Nat) → V → Prop
  | none, v => v = .non
  | some (a, b), v => ∃ p : Addr, v = .ref p ∧ H p = some (.tup [.int a, .int b])
/-- at m stands a machine; H0: what stood ahead of it -/
structure MachAt (K : PySem.W.Frag) (w : World) (H0 H : Hp) (m : Addr) (A : MA) (P : List Fn) (keep : Bool) (E : List Ent) (S : MSt) (pr : Option (Nat × Nat)) (kl : List (Call × Addr)) : Prop where
  ob : ∃ pv, H m = some (.ins (CM K) A.dx (mf A keep pv S.steps)) ∧ PairV H pr pv
  st : StoreAt K w H A.st A.D E
  ye : Den E (.w "yes") A.y
  fu : ∃ kvs, H A.fu = some (.dK kvs) ∧ Paired (FunR H E A.pls) P kvs
  fo : ∃ ns, H A.fo = some (.lst (ns.map vi).reverse) ∧ Dens E S.found ns
  to : ∃ vs, H A.to = some (.lst vs.reverse) ∧ Paired (TaskR H E) S.todo vs
  kp : KeptAt w H A E S.todo kl
  nd : A.ls.Nodup
  off : ∀ p ∈ A.pls, p ∉ A.ls
  plo : ∀ p ∈ A.pls, ∃ xs, H p = some (.lst xs)
  nk : A.kp ≠ A.D.nu
  ms : m ≠ A.st
  fr : Same H0 H
  new : H0 m = none ∧ H0 A.kp = none ∧ H0 A.D.nu = none ∧ (∀ l ∈ A.ls, H0 l = none) ∧ ∀ q ∈ kl, H0 q.2 = none
end OgW
/-! OgM1: what a change leaves of a machine. -/
namespace OgW
open PySem PySem.Spec PyProof.Rows L2 OgD Og OgT
section
variable {K : PySem.W.Frag} {w : World} {H0 H H2 : Hp} {m : Addr} {A : MA} {P : List Fn} {keep : Bool} {E E2 : List Ent} {S : MSt} {pr : Option (Nat × Nat)} {kl : List (Call × Addr)} {F' : List Val} {ns' : List Nat} {T' : List Task} {vs' : List V}
theorem PairV.keeps {H H' : Hp} (t : KT0 H H') {pr : Option (Nat × Nat)} {v : V} (h : PairV H pr v) : PairV H' pr v := by
  cases pr with
  | none => exact h
  | some p =>
    obtain ⟨q, e, g⟩ := h
    exact ⟨q, e, t _ _ g⟩
theorem FunR.keeps {H H' : Hp} {E E' : List Ent} {pls : List Addr} (k : Kq H H') (x : Ext E E') (hp : ∀ p ∈ pls, ∀ o, H p = some o → H' p = some o) {g : Fn} {p : Key × V} (h : FunR H E pls g p) : FunR H' E' pls g p := by
  obtain ⟨i, b, a, pl, ns, h1, h2, h3, h4, h5, h6, h7⟩ := h
  exact ⟨i, b, a, pl, ns, h1, h2.ext x, k.1 _ _ h3, hp _ h7 _ h4, h5.ext x, h6.ext x, h7⟩
theorem KeptAt.keeps {H H' : Hp} {E E' : List Ent} {T T' : List Task} (z : KeptAt w H A E T kl) (k : Kq H H') (x : Ext E E') (hd : ∀ o, H A.kp = some o → H' A.kp = some o) (hl : ∀ q ∈ kl, ∀ o, H q.2 = some o → H' q.2 = some o) (ht : ∀ c, openAt c T' = openAt c T) : KeptAt w H' A E' T' kl := by
  obtain ⟨⟨kvs, d, p⟩, al, n1, n2, off⟩ := z
  refine ⟨⟨kvs, d.keeps hd k.1, ?_⟩, fun c h => (ht c).trans (al c h), n1, n2, off⟩
  clear d al n1 n2 off
  induction p with
  | nil => exact .nil
  | @cons q r qs rs h t ih =>
    refine .cons ?_ (ih fun q hq => hl q (List.mem_cons_of_mem _ hq))
    obtain ⟨i, ns, h1, h2, h3, h4⟩ := h
    exact ⟨i, ns, h1, h2.ext x, h3.ext x, by rw [ht]; exact hl q List.mem_cons_self _ h4⟩
theorem MA.mem (A : MA) : A.fo ∈ A.ls ∧ A.to ∈ A.ls ∧ A.D.en ∈ A.ls ∧ A.D.si ∈ A.ls ∧ A.D.de ∈ A.ls := by
  unfold MA.ls
  refine ⟨?_, ?_, ?_, ?_, ?_⟩ <;> simp
theorem ls_ne (nd : A.ls.Nodup) : A.fo ≠ A.to ∧ A.fo ≠ A.D.en ∧ A.fo ≠ A.D.si ∧ A.fo ≠ A.D.de ∧ A.to ≠ A.D.en ∧ A.to ≠ A.D.si ∧ A.to ≠ A.D.de := by
  unfold MA.ls at nd
  simp only [List.nodup_cons, List.mem_cons, not_or, List.not_mem_nil, not_false_eq_true, and_true] at nd
  obtain ⟨⟨a, b, c, d⟩, ⟨e, f, g⟩, _⟩ := nd
  exact ⟨a, b, c, d, e, f, g⟩
/-- a list of the machine's own, but not of its store, changes -/
theorem MachAt.store_other (Z : MachAt K w H0 H m A P keep E S pr kl) {l : Addr} {xs ys : List V} (el : H l = some (.lst xs)) (n1 : l ≠ A.D.en) (n2 : l ≠ A.D.si) (n3 : l ≠ A.D.de) : StoreAt K w (upd H l (.lst ys)) A.st A.D E := by
  have ns : l ≠ A.st := fun e => by
    rw [e, Z.st.ob] at el
    cases el
  have nn : l ≠ A.D.nu := fun e => by
    obtain ⟨rows, q⟩ := Z.st.nuO
    rw [e, q] at el
    cases el
  refine Z.st.keeps (fun b o q hb => (upd_ne ?_).trans q) (kt_lst el)
  rcases hb with rfl | rfl | rfl | rfl | rfl
  · exact ns.symm
  · exact n1.symm
  · exact nn.symm
  · exact n2.symm
  · exact n3.symm
theorem MachAt.kpO (Z : MachAt K w H0 H m A P keep E S pr kl) : ∃ rows, H A.kp = some (mdO w A.kp rows) := by
  obtain ⟨⟨kvs, ⟨rows, e, _⟩, _⟩, _⟩ := Z.kp
  exact ⟨rows, e⟩
theorem MachAt.kl_lst (Z : MachAt K w H0 H m A P keep E S pr kl) : ∀ q ∈ kl, ∃ xs, H q.2 = some (.lst xs) := by
  obtain ⟨kvs, p⟩ : ∃ kvs, Paired (KeptR H E S.todo) kl kvs := let ⟨kvs, _, p⟩ := Z.kp.dm; ⟨kvs, p⟩
  clear Z
  induction p with
  | nil =>
    intro q hq
    cases hq
  | @cons a r qs rs h t ih =>
    intro q hq
    rcases List.mem_cons.mp hq with e | hq
    · subst e
      obtain ⟨i, ns, _, _, _, h4⟩ := h
      exact ⟨_, h4⟩
    · exact ih q hq
/-- the numbers found change -/
theorem MachAt.found (Z : MachAt K w H0 H m A P keep E S pr kl) (d : Dens E F' ns') : MachAt K w H0 (upd H A.fo (.lst (ns'.map vi).reverse)) m A P keep E { S with found := F' } pr kl := by
  obtain ⟨ns, ef, _⟩ := Z.fo
  obtain ⟨a1, a2, a3, a4, a5, a6, a7⟩ := ls_ne Z.nd
  have kq : Kq H (upd H A.fo (.lst (ns'.map vi).reverse)) := Kq.lst ef
  obtain ⟨pv, e1, e2⟩ := Z.ob
  obtain ⟨rows, e3⟩ := Z.kpO
  have keepb : ∀ b o, b ≠ A.fo → H b = some o → upd H A.fo (.lst (ns'.map vi).reverse) b = some o := fun b o hb e => (upd_ne hb).trans e
  refine ⟨⟨pv, keepb _ _ (ne_of e1 ef (by intro z; cases z)) e1, e2.keeps kq.1⟩, Z.store_other ef a2 a3 a4, Z.ye, ?_, ⟨ns', upd_same, d⟩, ?_, ?_, Z.nd, Z.off, fun p hp => let ⟨xs, e⟩ := Z.plo p hp; ⟨xs, keepb _ _ (fun z => Z.off p hp (z ▸ A.mem.1)) e⟩, Z.nk, Z.ms, fun b o e => ?_, Z.new⟩
  · obtain ⟨kvs, q, p⟩ := Z.fu
    exact ⟨kvs, kq.2 _ _ q, Paired.mapP p fun _ _ z => z.keeps kq (Ext.refl E) fun pl hp o e => keepb _ _ (fun z => Z.off pl hp (z ▸ A.mem.1)) e⟩
  · obtain ⟨vs, q, p⟩ := Z.to
    exact ⟨vs, keepb _ _ a1.symm q, Paired.mapP p fun _ _ z => z.keeps kq (Ext.refl E)⟩
  · exact Z.kp.keeps kq (Ext.refl E) (fun o e => keepb _ _ (ne_of e3 ef (by intro z; cases z)) e) (fun q hq o e => keepb _ _ (fun z => (Z.kp.off q hq).1 (z ▸ A.mem.1)) e) fun _ => rfl
  · exact keepb b o (fun z => by rw [z, Z.new.2.2.2.1 _ A.mem.1] at e; cases e) (Z.fr b o e)
/-- the tasks change, the open calls do not -/
theorem MachAt.todo (Z : MachAt K w H0 H m A P keep E S pr kl) (p' : Paired (TaskR H E) T' vs') (ho : ∀ c, openAt c T' = openAt c S.todo) : MachAt K w H0 (upd H A.to (.lst vs'.reverse)) m A P keep E { S with todo := T' } pr kl := by
  obtain ⟨vs, et, _⟩ := Z.to
  obtain ⟨a1, a2, a3, a4, a5, a6, a7⟩ := ls_ne Z.nd
  have kq : Kq H (upd H A.to (.lst vs'.reverse)) := Kq.lst et
  obtain ⟨pv, e1, e2⟩ := Z.ob
  obtain ⟨rows, e3⟩ := Z.kpO
  have keepb : ∀ b o, b ≠ A.to → H b = some o → upd H A.to (.lst vs'.reverse) b = some o := fun b o hb e => (upd_ne hb).trans e
  refine ⟨⟨pv, keepb _ _ (ne_of e1 et (by intro z; cases z)) e1, e2.keeps kq.1⟩, Z.store_other et a5 a6 a7, Z.ye, ?_, ?_, ⟨vs', upd_same, Paired.mapP p' fun _ _ z => z.keeps kq (Ext.refl E)⟩, ?_, Z.nd, Z.off, fun p hp => let ⟨xs, e⟩ := Z.plo p hp; ⟨xs, keepb _ _ (fun z => Z.off p hp (z ▸ A.mem.2.1)) e⟩, Z.nk, Z.ms, fun b o e => ?_, Z.new⟩
  · obtain ⟨kvs, q, p⟩ := Z.fu
    exact ⟨kvs, kq.2 _ _ q, Paired.mapP p fun _ _ z => z.keeps kq (Ext.refl E) fun pl hp o e => keepb _ _ (fun z => Z.off pl hp (z ▸ A.mem.2.1)) e⟩
  · obtain ⟨ns, q, d⟩ := Z.fo
    exact ⟨ns, keepb _ _ a1 q, d⟩
  · exact Z.kp.keeps kq (Ext.refl E) (fun o e => keepb _ _ (ne_of e3 et (by intro z; cases z)) e) (fun q hq o e => keepb _ _ (fun z => (Z.kp.off q hq).1 (z ▸ A.mem.2.1)) e) ho
  · exact keepb b o (fun z => by rw [z, Z.new.2.2.2.1 _ A.mem.2.1] at e; cases e) (Z.fr b o e)
/-- the store has grown -/
theorem MachAt.store (Z : MachAt K w H0 H m A P keep E S pr kl) (S2 : StoreAt K w H2 A.st A.D E2) (x : Ext E E2) (k : Kp A.D H H2) : MachAt K w H0 H2 m A P keep E2 S pr kl := by
  obtain ⟨a1, a2, a3, a4, a5, a6, a7⟩ := ls_ne Z.nd
  have kq : Kq H H2 := ⟨Z.st.kt k, fun a kvs e => Z.st.kp k e (fun _ z => by cases z) fun _ z => by cases z⟩
  obtain ⟨pv, e1, e2⟩ := Z.ob
  obtain ⟨rows, e3⟩ := Z.kpO
  obtain ⟨nrows, e4⟩ := Z.st.nuO
  obtain ⟨evs, e5⟩ := Z.st.enO
  obtain ⟨zs, e6, _⟩ := Z.st.si
  obtain ⟨ys, e7, _⟩ := Z.st.de
  have lstK : ∀ {l : Addr} {xs : List V}, H l = some (.lst xs) → l ≠ A.D.en → l ≠ A.D.si → l ≠ A.D.de → H2 l = some (.lst xs) := fun e n1 n2 n3 => k _ _ e n1 (ne_of e e4 (by intro z; cases z)) n2 n3
  have kpK : H2 A.kp = some (mdO w A.kp rows) := k _ _ e3 (ne_of e3 e5 (by intro z; cases z)) Z.nk (ne_of e3 e6 (by intro z; cases z)) (ne_of e3 e7 (by intro z; cases z))
  refine ⟨⟨pv, Z.st.kp k e1 (fun _ z => by cases z) (fun _ z => by cases z), e2.keeps kq.1⟩, S2, Z.ye.ext x, ?_, ?_, ?_, ?_, Z.nd, Z.off, fun p hp => let ⟨xs, e⟩ := Z.plo p hp; ⟨xs, lstK e (fun z => Z.off p hp (z ▸ A.mem.2.2.1)) (fun z => Z.off p hp (z ▸ A.mem.2.2.2.1)) (fun z => Z.off p hp (z ▸ A.mem.2.2.2.2))⟩, Z.nk, Z.ms, fun b o e => ?_, Z.new⟩
  · obtain ⟨kvs, q, p⟩ := Z.fu
    refine ⟨kvs, kq.2 _ _ q, ?_⟩
    refine Paired.mapP p fun g r z => ?_
    obtain ⟨i, b, a, pl, ns, h1, h2, h3, h4, h5, h6, h7⟩ := z
    have no := Z.off pl h7
    exact ⟨i, b, a, pl, ns, h1, h2.ext x, kq.1 _ _ h3, lstK h4 (fun z => no (z ▸ A.mem.2.2.1)) (fun z => no (z ▸ A.mem.2.2.2.1)) (fun z => no (z ▸ A.mem.2.2.2.2)), h5.ext x, h6.ext x, h7⟩
  · obtain ⟨ns, q, d⟩ := Z.fo
    exact ⟨ns, lstK q a2 a3 a4, d.ext x⟩
  · obtain ⟨vs, q, p⟩ := Z.to
    exact ⟨vs, lstK q a5 a6 a7, Paired.mapP p fun _ _ z => z.keeps kq x⟩
  · refine Z.kp.keeps kq x (fun o e => by rw [e3] at e; cases e; exact kpK) (fun q hq o e => ?_) fun _ => rfl
    obtain ⟨xs, el⟩ := Z.kl_lst q hq
    rw [el] at e
    cases e
    have no := (Z.kp.off q hq).1
    exact lstK el (fun z => no (z ▸ A.mem.2.2.1)) (fun z => no (z ▸ A.mem.2.2.2.1)) (fun z => no (z ▸ A.mem.2.2.2.2))
  · obtain ⟨_, _, n3, n4, _⟩ := Z.new
    refine k b o (Z.fr b o e) ?_ ?_ ?_ ?_
    · intro z; rw [z, n4 _ A.mem.2.2.1] at e; cases e
    · intro z; rw [z, n3] at e; cases e
    · intro z; rw [z, n4 _ A.mem.2.2.2.1] at e; cases e
    · intro z; rw [z, n4 _ A.mem.2.2.2.2] at e; cases e
/-- something new was laid -/
theorem MachAt.same (Z : MachAt K w H0 H m A P keep E S pr kl) (k : Same H H2) : MachAt K w H0 H2 m A P keep E S pr kl := by
  have kq : Kq H H2 := Kq.same k
  obtain ⟨pv, e1, e2⟩ := Z.ob
  refine ⟨⟨pv, k _ _ e1, e2.keeps kq.1⟩, Z.st.same k, Z.ye, ?_, ?_, ?_, ?_, Z.nd, Z.off, fun p hp => let ⟨xs, e⟩ := Z.plo p hp; ⟨xs, k _ _ e⟩, Z.nk, Z.ms, Z.fr.trans k, Z.new⟩
  · obtain ⟨kvs, q, p⟩ := Z.fu
    exact ⟨kvs, k _ _ q, Paired.mapP p fun _ _ z => z.keeps kq (Ext.refl E) fun pl hp o e => k _ _ e⟩
  · obtain ⟨ns, q, d⟩ := Z.fo
    exact ⟨ns, k _ _ q, d⟩
  · obtain ⟨vs, q, p⟩ := Z.to
    exact ⟨vs, k _ _ q, Paired.mapP p fun _ _ z => z.keeps kq (Ext.refl E)⟩
  · exact Z.kp.keeps kq (Ext.refl E) (fun o e => k _ _ e) (fun q hq o e => k _ _ e) fun _ => rfl
/-- the machine's own attributes change: its steps, its pair -/
theorem MachAt.attr (Z : MachAt K w H0 H m A P keep E S pr kl) {pv : V} {n : Nat} {pr' : Option (Nat × Nat)} (hp : PairV H pr' pv) : MachAt K w H0 (upd H m (.ins (CM K) A.dx (mf A keep pv n))) m A P keep E { S with steps := n } pr' kl := by
  obtain ⟨pv0, e1, e2⟩ := Z.ob
  have kq : Kq H (upd H m (.ins (CM K) A.dx (mf A keep pv n))) := Kq.ins e1
  have keepb : ∀ {b : Addr} {o : HO}, H b = some o → (∀ C dx fs, o ≠ .ins C dx fs) → upd H m (.ins (CM K) A.dx (mf A keep pv n)) b = some o := fun e h => (upd_ne (ne_of e e1 (h _ _ _))).trans e
  obtain ⟨rows, e3⟩ := Z.kpO
  obtain ⟨nrows, e4⟩ := Z.st.nuO
  obtain ⟨evs, e5⟩ := Z.st.enO
  obtain ⟨zs, e6, _⟩ := Z.st.si
  obtain ⟨ys, e7, _⟩ := Z.st.de
  refine ⟨⟨pv, upd_same, hp.keeps kq.1⟩, Z.st.keeps (fun b o q hb => ?_) kq.1, Z.ye, ?_, ?_, ?_, ?_, Z.nd, Z.off, fun p hp => let ⟨xs, e⟩ := Z.plo p hp; ⟨xs, keepb e (fun _ _ _ z => by cases z)⟩, Z.nk, Z.ms, fun b o e => ?_, Z.new⟩
  · rcases hb with rfl | rfl | rfl | rfl | rfl
    · exact (upd_ne Z.ms.symm).trans q
    · rw [e5] at q; cases q; exact keepb e5 (fun _ _ _ z => by cases z)
    · rw [e4] at q; cases q; exact keepb e4 (fun _ _ _ z => by cases z)
    · rw [e6] at q; cases q; exact keepb e6 (fun _ _ _ z => by cases z)
    · rw [e7] at q; cases q; exact keepb e7 (fun _ _ _ z => by cases z)
  · obtain ⟨kvs, q, p⟩ := Z.fu
    refine ⟨kvs, kq.2 _ _ q, Paired.mapP p fun g r z => ?_⟩
    obtain ⟨i, b, a, pl, ns, h1, h2, h3, h4, h5, h6, h7⟩ := z
    exact ⟨i, b, a, pl, ns, h1, h2, kq.1 _ _ h3, keepb h4 (fun _ _ _ z => by cases z), h5, h6, h7⟩
  · obtain ⟨ns, q, d⟩ := Z.fo
    exact ⟨ns, keepb q (fun _ _ _ z => by cases z), d⟩
  · obtain ⟨vs, q, p⟩ := Z.to
    exact ⟨vs, keepb q (fun _ _ _ z => by cases z), Paired.mapP p fun _ _ z => z.keeps kq (Ext.refl E)⟩
  · refine Z.kp.keeps kq (Ext.refl E) (fun o e => by rw [e3] at e; cases e; exact keepb e3 (fun _ _ _ z => by cases z)) (fun q hq o e => ?_) fun _ => rfl
    obtain ⟨xs, el⟩ := Z.kl_lst q hq
    rw [el] at e
    cases e
    exact keepb el (fun _ _ _ z => by cases z)
  · exact (upd_ne (fun z => by rw [z, Z.new.1] at e; cases e)).trans (Z.fr b o e)
end
end OgW
/-! OgM2: Machine.do. -/
namespace OgW
open PySem PySem.Spec PyProof.Rows L2 OgD Og OgT
section
variable {P : Program} {w : World} {K : PySem.W.Frag} {mg : Str → Option Value} {base : Heap}
def spDo (K : PySem.W.Frag) (w : World) : Sp := fun vs H Q _ => ∃ (H0 : Hp) (m : Addr) (A : MA) (Pf : List Fn) (keep : Bool) (E : List Ent) (s : Nat) (F F' : List Val) (T : List Task) (pr : Option (Nat × Nat)) (kl : List (Call × Addr)) (k : Str), vs = [.ref m, .str k] ∧
  MachAt K w H0 H m A Pf keep E ⟨s, F, T⟩ pr kl ∧ opDo k F = some F' ∧ E.length < 1000000 ∧ F.length < 1000000 ∧ k ∈ plainW ∧
  ∀ (H' : Hp) (E' : List Ent), MachAt K w H0 H' m A Pf keep E' ⟨s, F', T⟩ pr kl → Ext E E' → E'.length ≤ E.length + 1 → Q .non H'
theorem sc_do : FnScope ["self", "word", "second", "first"] ["self", "word"] (defScope s_Machine_do) := ⟨rfl, rfl, rfl, by decide +kernel, rfl, by decide +kernel, by decide +kernel⟩
theorem dec_str2 {a b : Str} (h : a ≠ b) : decide (V.str a = V.str b) = false := decide_eq_false fun e => h (by injection e)
theorem dec_strT (a : Str) : decide (V.str a = V.str a) = true := decide_eq_true rfl
theorem opDo_nil (k : Str) : opDo k [] = none := by simp [opDo]
theorem ok_do {f : Addr} {fd : FuncData} (F : FnS K s_Machine_do "do" "Machine.do" f fd) (T : Txt K mg) (gW : Mth P w K mg base (CS K) "is_word" 1 ["self", "number"] (spIsWord K w)) (gF : Mth P w K mg base (CS K) "first" 2 ["self", "number"] (spFirst K w))
    (gR : Mth P w K mg base (CS K) "rest" 2 ["self", "number"] (spRest K w)) (gP : Mth P w K mg base (CS K) "pair_up" 2 ["self", "item", "items"] (spPair K w)) : FnOk P w K mg base CX0 3 f fd ["self", "word"] (spDo K w) := by
  obtain ⟨fW, fdW, GW, mW, bW⟩ := gW
  obtain ⟨fF, fdF, GF, mF, bF⟩ := gF
  obtain ⟨fR, fdR, GR, mR, bR⟩ := gR
  obtain ⟨fP, fdP, GP, mP, bP⟩ := gP
  refine ok0 F sc_do (fun vs H Q E h => ?_) (fun cdv A0 outer s0 H vs Q E0 hr h => ?_)
  · obtain ⟨H0, m, A, Pf, keep, E, s, F, F', T, pr, kl, k, rfl, _⟩ := h
    rfl
  · obtain ⟨H0, m, A, Pf, keep, E, s, Fd, F', Td, pr, kl, k, rfl, Z, op, lE, lF, pk, k'⟩ := h
    refine ⟨_, (pss_cons (ps_set (i := 2) sc_do.nd rfl (.inl rfl) (pe_bm0 PySem.F.plainAttrs_list PySem.F.slot_list_pop PySem.F.type_list_pop mt_pop (pe_fld (pv 0) rfl)))
      (pss_one (ps_if (pt_cmpR op_eq (pv 1) pe_str (nomark _))
      (pss_one (ps_expr (pe_bm PySem.F.plainAttrs_list PySem.F.slot_list_append PySem.F.type_list_append mt_append (pe_fld (pv 0) rfl) (pa_cons (pe_meth (pe_fld (pv 0) rfl) T.clS mF GF hr bF .nil pass0 (pa_cons (pv 2) pa_nil)) pa_nil))))
      (pss_one (ps_if (pt_cmpR op_eq (pv 1) pe_str (nomark _))
      (pss_one (ps_expr (pe_bm PySem.F.plainAttrs_list PySem.F.slot_list_append PySem.F.type_list_append mt_append (pe_fld (pv 0) rfl) (pa_cons (pe_meth (pe_fld (pv 0) rfl) T.clS mR GR hr bR .nil pass0 (pa_cons (pv 2) pa_nil)) pa_nil))))
      (pss_one (ps_if (pt_cmpR op_eq (pv 1) pe_str (nomark _))
      (pss_one (ps_expr (pe_bm PySem.F.plainAttrs_list PySem.F.slot_list_append PySem.F.type_list_append mt_append (pe_fld (pv 0) rfl) (pa_cons (pe_ifExp (PW.pt (pw_and (pt_cmpR op_ne (pv 2) (pe_gi (by rfl) T.empty) (nomark _)) (pw_and1 (pt_val (pe_meth (pe_fld (pv 0) rfl) T.clS mW GW (hr.mono (by decide)) bW .nil pass0 (pa_cons (pv 2) pa_nil)))))) (pe_fld (pv 0) rfl) (pe_gi (by rfl) T.empty)) pa_nil))))
      (pss_cons (ps_set (i := 3) sc_do.nd rfl (.inl rfl) (pe_bm0 PySem.F.plainAttrs_list PySem.F.slot_list_pop PySem.F.type_list_pop mt_pop (pe_fld (pv 0) rfl)))
      (pss_one (ps_if (pt_cmpR op_eq (pv 1) pe_str (nomark _))
      (pss_one (ps_expr (pe_bm PySem.F.plainAttrs_list PySem.F.slot_list_append PySem.F.type_list_append mt_append (pe_fld (pv 0) rfl) (pa_cons (pe_ifExp (pt_cmpR op_eq (pv 3) (pv 2) (nomark _)) (pe_fld (pv 0) rfl) (pe_gi (by rfl) T.empty)) pa_nil))))
      (pss_one (ps_expr (pe_bm PySem.F.plainAttrs_list PySem.F.slot_list_append PySem.F.type_list_append mt_append (pe_fld (pv 0) rfl) (pa_cons (pe_meth (pe_fld (pv 0) rfl) T.clS mP GP hr bP .nil pass0 (pa_cons (pv 3) (pa_cons (pv 2) pa_nil))) pa_nil)))))))))))))), ?_⟩
    have l6 := line6
    -- pop the last number found
    have pop : ∀ {H : Hp} {E : List Ent} {v : Val} {R : List Val}, MachAt K w H0 H m A Pf keep E ⟨s, v :: R, Td⟩ pr kl → ∃ (n : Nat) (ns : List Nat) (pv : V), H m = some (.ins (CM K) A.dx (mf A keep pv s)) ∧ H A.fo = some (.lst (vi n :: ns.map vi).reverse) ∧ Den E v n ∧ Dens E R ns ∧
        MachAt K w H0 (upd H A.fo (.lst (ns.map vi).reverse)) m A Pf keep E ⟨s, R, Td⟩ pr kl := fun {H E v R} Z => by
      obtain ⟨pv, e1, _⟩ := Z.ob
      obtain ⟨ns, e2, d⟩ := Z.fo
      cases d with
      | cons d t => exact ⟨_, _, pv, e1, e2, d, t, Z.found (F' := R) t⟩
    have push : ∀ {H : Hp} {E : List Ent} {v : Val} {R : List Val} {n : Nat}, MachAt K w H0 H m A Pf keep E ⟨s, R, Td⟩ pr kl → Den E v n → R.length < 1000000 → ∃ xs, H A.fo = some (.lst xs) ∧ xs.length < sizeLine ∧ MachAt K w H0 (upd H A.fo (.lst (xs ++ [vi n]))) m A Pf keep E ⟨s, v :: R, Td⟩ pr kl := fun {H E v R n} Z d lR => by
      obtain ⟨ns, e2, dR⟩ := Z.fo
      have len : ns.length = R.length := (Paired.length dR).symm
      refine ⟨_, e2, by rw [List.length_reverse, List.length_map]; omega, ?_⟩
      rw [rev_push]
      exact Z.found (F' := v :: R) (ns' := n :: ns) (.cons d dR)
    cases Fd with
    | nil =>
      rw [opDo_nil] at op
      cases op
    | cons v R =>
      obtain ⟨n, ns, pv, e1, e2, dn, dR, Z1⟩ := pop Z
      have lR : R.length < 999999 := by simp only [List.length_cons] at lF; omega
      refine ⟨_, rfl, m, CM K, A.dx, _, _, rfl, e1, T.clM, T.m8, mf_fo A keep pv s, .inl ⟨rfl, _, SqL.of e2⟩, A.fo, _, _, rfl, rfl, e2, rev_pop, ?_⟩
      rw [rev_drop]
      generalize upd H A.fo (.lst (ns.map vi).reverse) = H1 at Z1 ⊢
      obtain ⟨pv1, b1, _⟩ := Z1.ob
      refine ⟨_, rfl, rfl, _, rfl, ?_⟩
      by_cases kh : k = "head"
      · subst kh
        rw [dec_strT]
        have op : some (v.hd :: R) = some F' := op
        have op := Option.some.inj op
        subst op
        obtain ⟨xs0, f0, _, _⟩ := push (v := v) Z1 dn (by omega)
        refine iteT ⟨_, rfl, m, CM K, A.dx, _, _, rfl, b1, T.clM, T.m8, mf_fo A keep pv1 s, .inl ⟨rfl, _, SqL.of f0⟩, _, rfl, m, CM K, A.dx, _, _, rfl, b1, T.clM, T.m1, mf_st A keep pv1 s, A.st, A.D.dx, _, rfl, Z1.st.ob, sf_first A.D, _, rfl, A.st, A.D, E, v, n, rfl, Z1.st, dn, fun j dj => ?_⟩
        obtain ⟨xs, f1, f2, Z2⟩ := push Z1 dj (by omega)
        exact ⟨A.fo, xs, _, rfl, rfl, f1, f2, k' _ E Z2 (Ext.refl E) (Nat.le_succ _)⟩
      · rw [dec_str2 kh]
        refine iteF ⟨_, rfl, rfl, _, rfl, ?_⟩
        by_cases kt : k = "tail"
        · subst kt
          rw [dec_strT]
          have op : some (v.tl :: R) = some F' := op
          have op := Option.some.inj op
          subst op
          obtain ⟨xs0, f0, _, _⟩ := push (v := v) Z1 dn (by omega)
          refine iteT ⟨_, rfl, m, CM K, A.dx, _, _, rfl, b1, T.clM, T.m8, mf_fo A keep pv1 s, .inl ⟨rfl, _, SqL.of f0⟩, _, rfl, m, CM K, A.dx, _, _, rfl, b1, T.clM, T.m1, mf_st A keep pv1 s, A.st, A.D.dx, _, rfl, Z1.st.ob, sf_rest A.D, _, rfl, A.st, A.D, E, v, n, rfl, Z1.st, dn, fun j dj => ?_⟩
          obtain ⟨xs, f1, f2, Z2⟩ := push Z1 dj (by omega)
          exact ⟨A.fo, xs, _, rfl, rfl, f1, f2, k' _ E Z2 (Ext.refl E) (Nat.le_succ _)⟩
        · rw [dec_str2 kt]
          refine iteF ⟨_, rfl, rfl, _, rfl, ?_⟩
          by_cases kw : k = "word"
          · subst kw
            rw [dec_strT]
            have op : some (ofB v.isW :: R) = some F' := op
            have op := Option.some.inj op
            subst op
            obtain ⟨xs0, f0, _, _⟩ := push (v := v) Z1 dn (by omega)
            refine iteT ⟨_, rfl, m, CM K, A.dx, _, _, rfl, b1, T.clM, T.m8, mf_fo A keep pv1 s, .inl ⟨rfl, _, SqL.of f0⟩, ?_⟩
            have den0 : ∀ {x : Val}, Den E x n → x ≠ .nil → n ≠ 0 := fun {x} d h z => h (d.inj (show Den E .nil n from z))
            have yesIt : ∃ xs, H1 A.fo = some (.lst xs) ∧ xs.length < sizeLine ∧ Q .non (upd H1 A.fo (.lst (xs ++ [vi A.y]))) ∨ v.isW = false := by
              cases hv : v.isW with
              | false => exact ⟨[], .inr rfl⟩
              | true =>
                obtain ⟨xs, f1, f2, Z2⟩ := push (v := .w "yes") Z1 Z1.ye (by omega)
                rw [hv] at k'
                exact ⟨xs, .inl ⟨f1, f2, k' _ E Z2 (Ext.refl E) (Nat.le_succ _)⟩⟩
            have noIt : v.isW = false → ∃ xs, H1 A.fo = some (.lst xs) ∧ xs.length < sizeLine ∧ Q .non (upd H1 A.fo (.lst (xs ++ [vi 0]))) := fun hv => by
              obtain ⟨xs, f1, f2, Z2⟩ := push (v := .nil) Z1 (show Den E .nil 0 from rfl) (by omega)
              rw [hv] at k'
              exact ⟨xs, f1, f2, k' _ E Z2 (Ext.refl E) (Nat.le_succ _)⟩
            refine ⟨_, rfl, rfl, _, rfl, ?_⟩
            cases v with
            | nil =>
              have dn : n = 0 := dn
              subst dn
              obtain ⟨xs, f1, f2, q⟩ := noIt rfl
              exact iteF (iteF ⟨A.fo, xs, _, rfl, rfl, f1, f2, q⟩)
            | w z =>
              have en : (!decide (V.int (n : Int) = V.int 0)) = true := by rw [dec_n0 (den0 dn (by intro z; cases z))]; rfl
              rw [en]
              refine iteT ⟨_, rfl, m, CM K, A.dx, _, _, rfl, b1, T.clM, T.m1, mf_st A keep pv1 s, A.st, A.D.dx, _, rfl, Z1.st.ob, sf_is A.D, _, rfl, A.st, A.D, E, _, n, rfl, Z1.st, dn, _, rfl, ?_⟩
              obtain ⟨xs, ⟨f1, f2, q⟩ | h⟩ := yesIt
              · exact iteT ⟨_, rfl, m, CM K, A.dx, _, _, rfl, b1, T.clM, T.m2, mf_ye A keep pv1 s, A.fo, xs, _, rfl, rfl, f1, f2, q⟩
              · cases h
            | cons h t =>
              have en : (!decide (V.int (n : Int) = V.int 0)) = true := by rw [dec_n0 (den0 dn (by intro z; cases z))]; rfl
              rw [en]
              refine iteT ⟨_, rfl, m, CM K, A.dx, _, _, rfl, b1, T.clM, T.m1, mf_st A keep pv1 s, A.st, A.D.dx, _, rfl, Z1.st.ob, sf_is A.D, _, rfl, A.st, A.D, E, _, n, rfl, Z1.st, dn, _, rfl, ?_⟩
              obtain ⟨xs, f1, f2, q⟩ := noIt rfl
              exact iteF ⟨A.fo, xs, _, rfl, rfl, f1, f2, q⟩
          · rw [dec_str2 kw]
            refine iteF ?_
            -- two values
            cases R with
            | nil =>
              have : opDo k [v] = none := by simp [opDo, kh, kt, kw]
              rw [this] at op
              cases op
            | cons a R =>
              obtain ⟨na, ns2, pv2, c1, c2, da, dR2, Z2⟩ := pop Z1
              have lR2 : R.length < 999998 := by simp only [List.length_cons] at lR; omega
              refine ⟨_, rfl, m, CM K, A.dx, _, _, rfl, c1, T.clM, T.m8, mf_fo A keep pv2 s, .inl ⟨rfl, _, SqL.of c2⟩, A.fo, _, _, rfl, rfl, c2, rev_pop, ?_⟩
              rw [rev_drop]
              generalize upd H1 A.fo (.lst (ns2.map vi).reverse) = H3 at Z2 ⊢
              obtain ⟨pv3, b3, _⟩ := Z2.ob
              obtain ⟨xs0, g0, _, _⟩ := push (v := v) Z2 dn (by omega)
              refine ⟨_, rfl, rfl, _, rfl, ?_⟩
              by_cases ks : k = "same"
              · subst ks
                rw [dec_strT]
                have op : (if a.dep ≤ 16 ∧ v.dep ≤ 16 then some (ofB (decide (a = v)) :: R) else none) = some F' := op
                by_cases hd : a.dep ≤ 16 ∧ v.dep ≤ 16
                · rw [if_pos hd] at op
                  have op := Option.some.inj op
                  subst op
                  refine iteT ⟨_, rfl, m, CM K, A.dx, _, _, rfl, b3, T.clM, T.m8, mf_fo A keep pv3 s, .inl ⟨rfl, _, SqL.of g0⟩, _, rfl, _, rfl, rfl, _, rfl, ?_⟩
                  by_cases e : a = v
                  · subst e
                    have en := Den.fn Z2.st.nd da dn
                    subst en
                    rw [decide_eq_true (rfl : V.int (na : Int) = V.int na)]
                    rw [decide_eq_true (rfl : a = a)] at k'
                    obtain ⟨xs, f1, f2, Z3⟩ := push (v := .w "yes") Z2 Z2.ye (by omega)
                    exact iteT ⟨_, rfl, m, CM K, A.dx, _, _, rfl, b3, T.clM, T.m2, mf_ye A keep pv3 s, A.fo, xs, _, rfl, rfl, f1, f2, k' _ E Z3 (Ext.refl E) (Nat.le_succ _)⟩
                  · have ne : ¬ (V.int (na : Int) = V.int n) := fun z => by
                      have z : na = n := by injection z with z; omega
                      subst z
                      exact e (da.inj dn)
                    rw [decide_eq_false ne]
                    rw [decide_eq_false e] at k'
                    obtain ⟨xs, f1, f2, Z3⟩ := push (v := .nil) Z2 (show Den E .nil 0 from rfl) (by omega)
                    exact iteF ⟨A.fo, xs, _, rfl, rfl, f1, f2, k' _ E Z3 (Ext.refl E) (Nat.le_succ _)⟩
                · rw [if_neg hd] at op
                  cases op
              · rw [dec_str2 ks]
                have kj : k = "join" := by
                  have pk : k ∈ (["same", "word", "head", "tail", "join"] : List Str) := pk
                  simp only [List.mem_cons, List.not_mem_nil, or_false] at pk
                  rcases pk with e | e | e | e | e
                  · exact absurd e ks
                  · exact absurd e kw
                  · exact absurd e kh
                  · exact absurd e kt
                  · exact e
                subst kj
                have op : some (a.jn v :: R) = some F' := op
                have op := Option.some.inj op
                subst op
                refine iteF ⟨_, rfl, m, CM K, A.dx, _, _, rfl, b3, T.clM, T.m8, mf_fo A keep pv3 s, .inl ⟨rfl, _, SqL.of g0⟩, _, rfl, m, CM K, A.dx, _, _, rfl, b3, T.clM, T.m1, mf_st A keep pv3 s, A.st, A.D.dx, _, rfl, Z2.st.ob, sf_pair A.D, _, rfl, _, rfl, A.st, A.D, E, a, v, na, n, rfl, Z2.st, da, dn, lE, fun H4 E4 j S4 x4 l4 d4 k4 => ?_⟩
                obtain ⟨xs, f1, f2, Z3⟩ := push (Z2.store S4 x4 k4) d4 (by omega)
                exact ⟨A.fo, xs, _, rfl, rfl, f1, f2, k' _ E4 Z3 x4 l4⟩
end
end OgW
/-! OgZip: zip of a list and a tuple. -/
namespace OgZ
open PySem PySem.Spec PyProof.Rows L2
/-- items of the list at a and of the tuple at b, side by side -/
def ItLT (K : PySem.W.Frag) (a b : Addr) : It :=
  ⟨fun i H => ∃ l t : List V, SqL K H a l ∧ SqT K H b t ∧ i < l.length ∧ i < t.length,
   fun i H v H' => ∃ p x y, v = .ref p ∧ H p = none ∧ H' = upd H p (.tup [x, y]) ∧ (∀ l, SqL K H a l → l[i]? = some x) ∧ ∀ t, SqT K H b t → t[i]? = some y,
   fun i H => ∃ l t : List V, SqL K H a l ∧ SqT K H b t ∧ i ≤ l.length ∧ i ≤ t.length ∧ (i = l.length ∨ i = t.length)⟩
/-- the five cells of a zip, and what it goes along -/
structure Cells (z p q i j a b : Addr) : Prop where
  sep : ZipSep2 z p q i j [i, a] [j, b]
  na : a ≠ i
  nb : b ≠ j
def zst (z p q i j a b : Addr) (n : Nat) (h : Heap) : Prop := IsZip h z p q .none ∧ IsTupOf2 h p (.ref i) (.ref j) ∧ (∃ x y, IsTupOf2 h q x y) ∧ h.IsListIter i a n ∧ h.IsTupleIter j b n
theorem five {c z p q i j : Addr} : c ∈ [z, p, q, i, j] ↔ c = z ∨ c = p ∨ c = q ∨ c = i ∨ c = j := by simp
theorem turnLT {P : Program} {w : World} {K : PySem.W.Frag} {ts : List Expr} {kk : Nat} {tp : Pos} {a b z p q i j : Addr} (C : Cells z p q i j a b) :
    Turn P w K (.Tuple ts kk tp) (ItLT K a b) [z, p, q, i, j] z (zst z p q i j a b) where
  mem := by simp
  obj := fun n h st c hc => by
    obtain ⟨g1, g2, ⟨x, y, g3⟩, ⟨o1, e1, _, d1⟩, ⟨o2, e2, _, d2⟩⟩ := st
    rcases five.mp hc with rfl | rfl | rfl | rfl | rfl
    · exact ⟨_, g1, fun v r => nomatch r⟩
    · exact ⟨_, g2, fun v r => nomatch r⟩
    · exact ⟨_, g3, fun v r => nomatch r⟩
    · exact ⟨o1, e1, fun v r => by rw [d1] at r; cases r⟩
    · exact ⟨o2, e2, fun v r => by rw [d2] at r; cases r⟩
  keep := fun n h h' st k => by
    obtain ⟨g1, g2, ⟨x, y, g3⟩, g4, g5⟩ := st
    exact ⟨k z (five.mpr (.inl rfl)) _ g1, k p (five.mpr (.inr (.inl rfl))) _ g2, ⟨x, y, k q (five.mpr (.inr (.inr (.inl rfl)))) _ g3⟩, g4.at fun o e => k i (five.mpr (.inr (.inr (.inr (.inl rfl))))) o e, g5.at fun o e => k j (five.mpr (.inr (.inr (.inr (.inr rfl))))) o e⟩
  item := by
    intro X eP ew eK hc n pins s σ H E I hf st hg
    subst eP ew eK
    obtain ⟨g1, g2, ⟨x0, y0, g3⟩, g4, g5⟩ := st
    obtain ⟨l, t, ql, qt, n1, n2⟩ := hg
    obtain ⟨us, rl, isl, _⟩ := I.list ql
    obtain ⟨vs, rt, ist, _⟩ := I.tuple qt
    have hh := I.ok.hd hc
    have zl : z < s.heap.objs.size := Heap.lt_size g1
    have s1 := rl.length
    have s2 := rt.length
    have dl := Draws.list (prog := X.prog) (w := X.w) (A := X.A.in1) hh i a C.na us.toArray
    have dt := Draws.tuple (prog := X.prog) (w := X.w) (A := X.A.in1) hh j b C.nb vs.toArray
    refine wpAny_pyNext_zipD2_item (i := n) C.sep dl dt g1 g2 g3 ⟨g4, isl.isList⟩ ⟨g5, ist⟩ (by rw [List.size_toArray]; omega) (by rw [List.size_toArray]; omega) fun u v h' tk pu pv z1 q1 st1 st2 new sz kp => ?_
    obtain ⟨x, hx, rx⟩ : ∃ x, l[n]? = some x ∧ RelV x u := by
      obtain ⟨u', hu, ru⟩ := rl.get (List.getElem?_eq_getElem n1)
      have e : us[n]? = some u := by simpa using pu
      rw [hu] at e
      cases e
      exact ⟨_, List.getElem?_eq_getElem n1, ru⟩
    obtain ⟨y, hy, ry⟩ : ∃ y, t[n]? = some y ∧ RelV y v := by
      obtain ⟨u', hu, ru⟩ := rt.get (List.getElem?_eq_getElem n2)
      have e : vs[n]? = some v := by simpa using pv
      rw [hu] at e
      cases e
      exact ⟨_, List.getElem?_eq_getElem n2, ru⟩
    refine ⟨_, rfl, wpAny_letOwnedTupleGo_zip (s := { s with heap := h', toks := tk }) z1 fun h2 z2 sb => ?_⟩
    have new2 : h2.get? s.heap.objs.size = some { cls := .type "tuple", data := .seq #[u, v] } := (sb.2 _ (Nat.ne_of_gt zl)).trans new
    have ok : ObjOk X.prog X.w (upd H s.heap.objs.size (.tup [x, y])) h2 s.heap.objs.size (.tup [x, y]) := ⟨by show 2 ≤ sizeLine; decide, [u, v], .cons rx (.cons ry .nil), ⟨_, new2, rfl, _, rfl⟩⟩
    have I1 : L2.Inv X pins σ (upd H s.heap.objs.size (.tup [x, y])) { s with heap := h2, toks := tk } := by
      refine I.turnedNew (t' := tk) (ch := [z, p, q, i, j]) (fun c o hb e => ?_) hf (Nat.le_refl _) ok
      have nb : ∀ {d}, d ∈ [z, p, q, i, j] → c ≠ d := fun hd e => hb (e ▸ hd)
      exact (sb.2 c (nb (five.mpr (.inl rfl)))).trans (kp c o (nb (five.mpr (.inl rfl))) (nb (five.mpr (.inr (.inr (.inl rfl))))) (nb (five.mpr (.inr (.inr (.inr (.inl rfl)))))) (nb (five.mpr (.inr (.inr (.inr (.inr rfl)))))) e)
    have S := C.sep
    refine ⟨.ref s.heap.objs.size, _, I1, rfl, ⟨_, x, y, rfl, I.hok.fresh (Nat.le_refl _), rfl, fun l' q' => by rw [I.list_inj q' ql]; exact hx, fun t' q' => by rw [I.tuple_inj q' qt]; exact hy⟩, ⟨z2, ?_, ⟨u, v, ?_⟩, ?_, ?_⟩, fun c hc => ?_⟩
    · exact (sb.2 p S.TIz).trans (kp p _ S.TIz S.TITO S.TIi1 S.TIi2 g2)
    · exact (sb.2 q S.TOz).trans q1
    · exact st1.1.at fun o e => (sb.2 i S.zi1.symm).trans e
    · exact st2.1.at fun o e => (sb.2 j S.zi2.symm).trans e
    · have lt : c < s.heap.objs.size := by
        rcases five.mp hc with rfl | rfl | rfl | rfl | rfl
        · exact zl
        · exact Heap.lt_size g2
        · exact Heap.lt_size g3
        · obtain ⟨_, e, _⟩ := g4; exact Heap.lt_size e
        · obtain ⟨_, e, _⟩ := g5; exact Heap.lt_size e
      rw [upd_ne (Nat.ne_of_lt lt)]
      exact (hf c hc).1
  done := by
    intro X eP ew eK hc n pins s σ H E I hf st hg
    subst eP ew eK
    obtain ⟨g1, g2, ⟨x0, y0, g3⟩, g4, g5⟩ := st
    obtain ⟨l, t, ql, qt, n1, n2, n3⟩ := hg
    obtain ⟨us, rl, isl, _⟩ := I.list ql
    obtain ⟨vs, rt, ist, _⟩ := I.tuple qt
    have hh := I.ok.hd hc
    have s1 := rl.length
    have s2 := rt.length
    have dl := Draws.list (prog := X.prog) (w := X.w) (A := X.A.in1) hh i a C.na us.toArray
    have dt := Draws.tuple (prog := X.prog) (w := X.w) (A := X.A.in1) hh j b C.nb vs.toArray
    refine wpAny_pyNext_zipD2_end (i := n) C.sep dl dt g1 g2 g3 ⟨g4, isl.isList⟩ ⟨g5, ist⟩ (by rw [List.size_toArray]; omega) (by rw [List.size_toArray]; omega) (by rw [List.size_toArray, List.size_toArray]; omega) fun h' tk kp => ?_
    refine ⟨rfl, I.turnedL (t' := tk) (ch := [z, p, q, i, j]) (fun c o hb e => ?_) hf⟩
    have nb : ∀ {d}, d ∈ [z, p, q, i, j] → c ≠ d := fun hd e => hb (e ▸ hd)
    exact kp c o (nb (five.mpr (.inl rfl))) (nb (five.mpr (.inr (.inr (.inl rfl))))) (nb (five.mpr (.inr (.inr (.inr (.inl rfl)))))) (nb (five.mpr (.inr (.inr (.inr (.inr rfl)))))) e
  self := fun A n s Q E st h => wpAny_pyIter_zip st.1 h
def iLT (K : PySem.W.Frag) (ta : TA) : TI := fun σ H R => ta σ H fun vs H1 => ∃ a b l t, vs = [.ref a, .ref b] ∧ SqL K H1 a l ∧ SqT K H1 b t ∧ R (ItLT K a b) H1
theorem pi_zipLT {X : Cx} {e f : Expr} {ta : TA} {zp pos tp : Pos} {ts : List Expr} {kk : Nat} (hg : Gl X "zip") (hm : X.mg "zip" = none) (ha : PA X [e, f] ta) (hs : starEach [e, f] X.env = (false, eval e X.env) :: starEach [f] X.env := by rfl)
    (hl : (backTo pos (starEach [f] X.env)).any (·.1) = false := by rfl) : PI X (.Tuple ts kk tp) (.Call (.Name "zip" zp) [e, f] [] pos) (iLT X.K ta) := by
  refine ⟨fun pins s σ H R I h => Call_ (ld_blt I hg hm PyProof.Rows.boot_zip (PyProof.Rows.callWith_type1 (thn (ha.run pos pins s σ H _ I h) fun us s1 ⟨vs, H1, I1, r1, a, b, l, t, ex, ql, qt, q⟩ => ?_) hs hl))⟩
  subst ex
  obtain ⟨u1, u2, rfl, r1, r2⟩ := vals2 r1
  cases r1
  cases r2
  obtain ⟨us, rl, isl, _⟩ := I1.list ql
  obtain ⟨ws, rt, ist, _⟩ := I1.tuple qt
  obtain ⟨ob, hob, _⟩ := id ist
  have la : a < s1.heap.objs.size := isl.lt
  have lb : b < s1.heap.objs.size := Heap.lt_size hob
  refine zip_begins2 (begins_list a us.toArray) (begins_tuple b ws.toArray) isl.isList ist fun h' z1 p1 q1 i1 j1 sz kp => wpAny_pyIter_zip z1 ?_
  have C : Cells (s1.heap.objs.size + 4) (s1.heap.objs.size + 2) (s1.heap.objs.size + 3) s1.heap.objs.size (s1.heap.objs.size + 1) a b :=
    ⟨zip_sep2 (fp1 := [a]) (fp2 := [b]) (fun c hc => by rw [List.mem_singleton.mp hc]; exact la) (fun c hc => by rw [List.mem_singleton.mp hc]; exact lb), Nat.ne_of_lt la, Nat.ne_of_lt (Nat.lt_succ_of_lt lb)⟩
  refine ⟨s1.heap.objs.size + 4, [s1.heap.objs.size + 4, s1.heap.objs.size + 2, s1.heap.objs.size + 3, s1.heap.objs.size, s1.heap.objs.size + 1], _, _, H1, rfl, I1.kept (t' := s1.toks) kp, turnLT C, ⟨z1, p1, ⟨_, _, q1⟩, ⟨_, i1, rfl, rfl⟩, ⟨_, j1, rfl, rfl⟩⟩, fun c hc => ?_, q⟩
  have le : s1.heap.objs.size ≤ c := by
    rcases five.mp hc with e | e | e | e | e
    · rw [e]; exact Nat.le_add_right _ _
    · rw [e]; exact Nat.le_add_right _ _
    · rw [e]; exact Nat.le_add_right _ _
    · rw [e]; exact Nat.le_refl _
    · rw [e]; exact Nat.le_add_right _ _
  exact I1.fpOk le (I1.hok.fresh le)
end OgZ
/-! OgM3: a call that is kept opens; the dict of its names. -/
namespace OgW
open PySem PySem.Spec PyProof.Rows L2 OgD Og OgT
section
variable {K : PySem.W.Frag} {w : World} {H0 H H2 : Hp} {m : Addr} {A : MA} {P : List Fn} {keep : Bool} {E : List Ent} {s : Nat} {F : List Val} {T : List Task} {pr : Option (Nat × Nat)} {kl : List (Call × Addr)}
theorem keyC_inj {i j : Nat} {ns ms : List Nat} (h : keyC i ns = keyC j ms) : i = j ∧ ns = ms := by
  simp only [keyC, NestedKey.tup.injEq, List.cons.injEq, NestedKey.num.injEq, and_true] at h
  obtain ⟨a, b⟩ := h
  refine ⟨by omega, ?_⟩
  clear a
  induction ns generalizing ms with
  | nil =>
    cases ms with
    | nil => rfl
    | cons _ _ => cases b
  | cons x ns ih =>
    cases ms with
    | nil => cases b
    | cons y ms =>
      simp only [List.map_cons, List.cons.injEq, NestedKey.num.injEq] at b
      rw [ih b.2, show x = y by omega]
theorem Dens.inj {E : List Ent} : ∀ {l m : List Val} {ns : List Nat}, Dens E l ns → Dens E m ns → l = m
  | _, _, _, .nil, .nil => rfl
  | _, _, _, .cons a b, .cons c d => by rw [a.inj c, Dens.inj b d]
theorem Dens.fn {E : List Ent} (nd : E.Nodup) : ∀ {l : List Val} {ns ms : List Nat}, Dens E l ns → Dens E l ms → ns = ms
  | _, _, _, .nil, .nil => rfl
  | _, _, _, .cons a b, .cons c d => by rw [a.fn nd c, Dens.fn nd b d]
theorem CallR.keyV {c : Call} {ca : Addr} {na : Addr} {i : Nat} {ns : List Nat} (h1 : H ca = some (.tup [.int i, .ref na])) (h2 : H na = some (.tup (ns.map vi))) : KeyV H (keyC i ns) (.ref ca) := by
  refine .tup h1 (.cons (.num i) (.cons (.tup h2 ?_) .nil))
  clear h1 h2
  induction ns with
  | nil => exact .nil
  | cons n ns ih => exact .cons (.num n) ih
theorem keyC_dep (i : Nat) (ns : List Nat) : (keyC i ns).depth ≤ 8 := by
  have : ∀ l : List Nat, NestedKey.depthAll (l.map fun (n : Nat) => NestedKey.num (n : Int)) = 0 := fun l => by
    induction l with
    | nil => rfl
    | cons a l ih =>
      show max 0 (NestedKey.depthAll _) = 0
      rw [ih]
      rfl
  show max 0 (max (NestedKey.depthAll (ns.map fun (n : Nat) => NestedKey.num (n : Int)) + 1) 0) + 1 ≤ 8
  rw [this]
  decide
theorem keyC_num (i : Nat) (ns : List Nat) : ∀ k, keyC i ns ≠ .num k := fun k h => by cases h
/-- what is kept under a call -/
theorem kept_val (nd : E.Nodup) {c : Call} {i : Nat} {ns : List Nat} (d1 : Den E (.w c.f) i) (d2 : Dens E c.args ns) : ∀ {kl : List (Call × Addr)} {kvs : List (NestedKey × V)}, Paired (KeptR H E T) kl kvs →
    (∀ q ∈ kl, q.1 = c → (∀ r ∈ kl, r.1 = c → r = q) → valV kvs (keyC i ns) = some (.ref q.2) ∧ H q.2 = some (.lst ((openAt c T).map vi).reverse)) ∧ ((∀ q ∈ kl, q.1 ≠ c) → valV kvs (keyC i ns) = none)
  | _, _, .nil => ⟨fun q h => (by cases h), fun _ => rfl⟩
  | _, _, @Paired.cons _ _ _ a r qs rs h t => by
    obtain ⟨i', ns', e, g1, g2, g3⟩ := h
    obtain ⟨ih1, ih2⟩ := kept_val nd d1 d2 t
    subst e
    have hne : a.1 ≠ c → valV ((keyC i' ns', V.ref a.2) :: rs) (keyC i ns) = valV rs (keyC i ns) := fun h => valV_neg (p := (keyC i' ns', V.ref a.2)) fun z => by
      obtain ⟨e1, e2⟩ := keyC_inj z
      subst e1 e2
      refine h ?_
      have h1 := g1.inj d1
      have h2 := Dens.inj g2 d2
      obtain ⟨⟨f, args⟩, l⟩ := a
      cases c
      cases h1
      cases h2
      rfl
    have hpos : a.1 = c → valV ((keyC i' ns', V.ref a.2) :: rs) (keyC i ns) = some (.ref a.2) := fun h => by
      subst h
      have e1 := g1.fn nd d1
      have e2 := Dens.fn nd g2 d2
      subst e1 e2
      exact valV_pos (p := (keyC i' ns', V.ref a.2)) rfl
    refine ⟨fun q hq hc un => ?_, fun h => by rw [hne (h a List.mem_cons_self)]; exact ih2 fun q hq => h q (List.mem_cons_of_mem _ hq)⟩
    by_cases ha : a.1 = c
    · have e := un a List.mem_cons_self ha
      subst e
      exact ⟨hpos ha, by subst ha; exact g3⟩
    · rcases List.mem_cons.mp hq with e | hq
      · subst e
        exact absurd hc ha
      · rw [hne ha]
        exact ih1 q hq hc fun r hr => un r (List.mem_cons_of_mem _ hr)
theorem un_of : ∀ {kl : List (Call × Addr)}, (kl.map (·.1)).Nodup → ∀ {q r : Call × Addr}, q ∈ kl → r ∈ kl → r.1 = q.1 → r = q
  | [], _, _, _, h, _, _ => by cases h
  | a :: l, n, q, r, hq, hr, e => by
    obtain ⟨n1, n2⟩ := List.nodup_cons.mp n
    rcases List.mem_cons.mp hq with rfl | hq2
    · rcases List.mem_cons.mp hr with rfl | hr
      · rfl
      · exact absurd (List.mem_map.mpr ⟨r, hr, e⟩) n1
    · rcases List.mem_cons.mp hr with rfl | hr
      · exact absurd (show r.1 ∈ l.map (·.1) from List.mem_map.mpr ⟨q, hq2, e.symm⟩) n1
      · exact un_of n2 hq2 hr e
theorem un_of2 : ∀ {kl : List (Call × Addr)}, (kl.map (·.2)).Nodup → ∀ {q r : Call × Addr}, q ∈ kl → r ∈ kl → r.2 = q.2 → r = q
  | [], _, _, _, h, _, _ => by cases h
  | a :: l, n, q, r, hq, hr, e => by
    obtain ⟨n1, n2⟩ := List.nodup_cons.mp n
    rcases List.mem_cons.mp hq with rfl | hq2
    · rcases List.mem_cons.mp hr with rfl | hr
      · rfl
      · exact absurd (List.mem_map.mpr ⟨r, hr, e⟩) n1
    · rcases List.mem_cons.mp hr with rfl | hr
      · exact absurd (show r.2 ∈ l.map (·.2) from List.mem_map.mpr ⟨q, hq2, e.symm⟩) n1
      · exact un_of2 n2 hq2 hr e
/-- a kept call's list changes, and the tasks with it: what stays -/
theorem MachAt.keptTodo {T' : List Task} {vs' : List V} {c : Call} {l : Addr} (Z : MachAt K w H0 H m A P keep E ⟨s, F, T⟩ pr kl) (hq : (c, l) ∈ kl) (k2 : ∀ b o, b ≠ l → H b = some o → H2 b = some o) (el : H2 l = some (.lst ((openAt c T').map vi).reverse))
    (p' : Paired (TaskR H2 E) T' vs') (ho : ∀ d, d ≠ c → openAt d T' = openAt d T) : MachAt K w H0 (upd H2 A.to (.lst vs'.reverse)) m A P keep E ⟨s, F, T'⟩ pr kl := by
  obtain ⟨xs0, ex0⟩ := Z.kl_lst _ hq
  have ex0 : H l = some (.lst xs0) := ex0
  obtain ⟨nl1, nl2⟩ := Z.kp.off _ hq
  have kq : Kq H H2 := ⟨fun a xs e => k2 a _ (ne_of e ex0 (by intro z; cases z)) e, fun a xs e => k2 a _ (ne_of e ex0 (by intro z; cases z)) e⟩
  obtain ⟨a1, a2, a3, a4, a5, a6, a7⟩ := ls_ne Z.nd
  obtain ⟨vs, et, _⟩ := Z.to
  have lto : A.to ≠ l := fun z => nl1 (z ▸ A.mem.2.1)
  have et2 : H2 A.to = some (.lst vs.reverse) := k2 _ _ lto et
  have kq2 : Kq H2 (upd H2 A.to (.lst vs'.reverse)) := Kq.lst et2
  have kq3 := kq.trans kq2
  have kb : ∀ b o, b ≠ l → b ≠ A.to → H b = some o → upd H2 A.to (.lst vs'.reverse) b = some o := fun b o n1 n2 e => (upd_ne n2).trans (k2 b o n1 e)
  obtain ⟨pv, e1, e2⟩ := Z.ob
  obtain ⟨rows, e3⟩ := Z.kpO
  obtain ⟨nrows, e4⟩ := Z.st.nuO
  have nel : ∀ {b o}, H b = some o → (∀ xs, o ≠ .lst xs) → b ≠ l ∧ b ≠ A.to := fun e h => ⟨ne_of e ex0 (h _), ne_of e et (h _)⟩
  refine ⟨⟨pv, kb _ _ (nel e1 (fun _ z => by cases z)).1 (nel e1 (fun _ z => by cases z)).2 e1, e2.keeps kq3.1⟩, Z.st.keeps (fun b o q hb => ?_) kq3.1, Z.ye, ?_, ?_, ⟨vs', upd_same, Paired.mapP p' fun _ _ z => z.keeps kq2 (Ext.refl E)⟩, ?_, Z.nd, Z.off, fun p hp => ?_, Z.nk, Z.ms, fun b o e => ?_, Z.new⟩
  · rcases hb with rfl | rfl | rfl | rfl | rfl
    · rw [Z.st.ob] at q
      cases q
      exact kb _ _ (nel Z.st.ob (fun _ z => by cases z)).1 (nel Z.st.ob (fun _ z => by cases z)).2 Z.st.ob
    · exact kb _ _ (fun z => nl1 (z ▸ A.mem.2.2.1)) a5.symm q
    · rw [e4] at q
      cases q
      exact kb _ _ (nel e4 (fun _ z => by cases z)).1 (nel e4 (fun _ z => by cases z)).2 e4
    · exact kb _ _ (fun z => nl1 (z ▸ A.mem.2.2.2.1)) a6.symm q
    · exact kb _ _ (fun z => nl1 (z ▸ A.mem.2.2.2.2)) a7.symm q
  · obtain ⟨kvs, q, p⟩ := Z.fu
    exact ⟨kvs, kq3.2 _ _ q, Paired.mapP p fun _ _ z => z.keeps kq3 (Ext.refl E) fun pl hp o e => kb _ _ (fun z => nl2 (z ▸ hp)) (fun z => Z.off pl hp (z ▸ A.mem.2.1)) e⟩
  · obtain ⟨ns, q, d⟩ := Z.fo
    exact ⟨ns, kb _ _ (fun z => nl1 (z ▸ A.mem.1)) a1 q, d⟩
  · obtain ⟨⟨kvs, dm, p⟩, al, n1, n2, off⟩ := Z.kp
    refine ⟨⟨kvs, dm.keeps (fun o e => by rw [e3] at e; cases e; exact kb _ _ (nel e3 (fun _ z => by cases z)).1 (nel e3 (fun _ z => by cases z)).2 e3) kq3.1, ?_⟩, fun d h => ?_, n1, n2, off⟩
    · have p2 : Paired (fun q r => q ∈ kl ∧ KeptR H E T q r) kl kvs := by
        have : ∀ {l1 : List (Call × Addr)} {r1 : List (NestedKey × V)}, Paired (KeptR H E T) l1 r1 → (∀ q ∈ l1, q ∈ kl) → Paired (fun q r => q ∈ kl ∧ KeptR H E T q r) l1 r1 := fun {l1 r1} h => by
          induction h with
          | nil => exact fun _ => .nil
          | cons a b ih => exact fun hh => .cons ⟨hh _ List.mem_cons_self, a⟩ (ih fun q hq => hh q (List.mem_cons_of_mem _ hq))
        exact this p fun q h => h
      refine Paired.mapP p2 fun q r z => ?_
      obtain ⟨hq', i, ns, h1, h2, h3, h4⟩ := z
      refine ⟨i, ns, h1, h2, h3, ?_⟩
      by_cases e : q.1 = c
      · have eq := un_of n1 hq hq' e
        subst eq
        exact (upd_ne lto.symm).trans el
      · have nel2 : q.2 ≠ l := fun z => e (by rw [un_of2 n2 hq hq' z])
        show upd H2 A.to (.lst vs'.reverse) q.2 = some (.lst ((openAt q.1 T').map vi).reverse)
        rw [ho _ e]
        exact kb _ _ nel2 (fun z => (off q hq').1 (z ▸ A.mem.2.1)) h4
    · show openAt d T' = []
      have nd : d ≠ c := fun z => h _ hq z.symm
      rw [ho _ nd]
      exact al d h
  · obtain ⟨xs, e⟩ := Z.plo p hp
    exact ⟨xs, kb _ _ (fun z => nl2 (z ▸ hp)) (fun z => Z.off p hp (z ▸ A.mem.2.1)) e⟩
  · refine kb b o (fun z => ?_) (fun z => ?_) (Z.fr b o e)
    · rw [z, Z.new.2.2.2.2 _ hq] at e
      cases e
    · rw [z, Z.new.2.2.2.1 _ A.mem.2.1] at e
      cases e
/-- a call never kept so far gets its list -/
theorem MachAt.keptNew {c : Call} {l : Addr} {i : Nat} {ns : List Nat} (Z : MachAt K w H0 H m A P keep E ⟨s, F, T⟩ pr kl) (hn : ∀ q ∈ kl, q.1 ≠ c) (fl : H l = none) (k2 : ∀ b, b ≠ A.kp → H2 b = upd H l (.lst []) b) (d1 : Den E (.w c.f) i) (d2 : Dens E c.args ns)
    {kvs : List (NestedKey × V)} (p : Paired (KeptR H E T) kl kvs) (dm : DM w H2 A.kp (kvs ++ [(keyC i ns, .ref l)])) : MachAt K w H0 H2 m A P keep E ⟨s, F, T⟩ pr (kl ++ [(c, l)]) := by
  obtain ⟨rows, e3⟩ := Z.kpO
  have lk : l ≠ A.kp := fun z => by rw [← z, fl] at e3; cases e3
  have kb : ∀ b o, b ≠ A.kp → H b = some o → H2 b = some o := fun b o n1 e => (k2 b n1).trans ((upd_ne (ne_of_none e fl)).trans e)
  have kq : Kq H H2 := ⟨fun a xs e => kb a _ (ne_of e e3 (by intro z; cases z)) e, fun a xs e => kb a _ (ne_of e e3 (by intro z; cases z)) e⟩
  have nel : ∀ {b o}, H b = some o → (∀ φ, o ≠ .ext φ) → H2 b = some o := fun e h => kb _ _ (ne_of e e3 (h _)) e
  obtain ⟨pv, e1, e2⟩ := Z.ob
  obtain ⟨nrows, e4⟩ := Z.st.nuO
  obtain ⟨evs, e5⟩ := Z.st.enO
  obtain ⟨zs, e6, _⟩ := Z.st.si
  obtain ⟨ys, e7, _⟩ := Z.st.de
  obtain ⟨fns, e8, fd⟩ := Z.fo
  obtain ⟨tvs, e9, tp⟩ := Z.to
  have lne : ∀ b ∈ A.ls, l ≠ b := fun b hb z => by
    subst z
    unfold MA.ls at hb
    simp only [List.mem_cons, List.not_mem_nil, or_false] at hb
    rcases hb with z | z | z | z | z
    · rw [z, e8] at fl; cases fl
    · rw [z, e9] at fl; cases fl
    · rw [z, e5] at fl; cases fl
    · rw [z, e6] at fl; cases fl
    · rw [z, e7] at fl; cases fl
  have lpl : l ∉ A.pls := fun hp => by
    obtain ⟨xs, e⟩ := Z.plo l hp
    rw [fl] at e
    cases e
  refine ⟨⟨pv, nel e1 (fun _ z => by cases z), e2.keeps kq.1⟩, Z.st.keeps (fun b o q hb => ?_) kq.1, Z.ye, ?_, ⟨fns, nel e8 (fun _ z => by cases z), fd⟩, ⟨tvs, nel e9 (fun _ z => by cases z), Paired.mapP tp fun _ _ z => z.keeps kq (Ext.refl E)⟩, ?_, Z.nd, Z.off, fun p hp => ?_, Z.nk, Z.ms, fun b o e => ?_, ?_⟩
  · rcases hb with rfl | rfl | rfl | rfl | rfl
    · rw [Z.st.ob] at q
      cases q
      exact nel Z.st.ob (fun _ z => by cases z)
    · rw [e5] at q; cases q; exact nel e5 (fun _ z => by cases z)
    · exact kb _ _ Z.nk.symm q
    · rw [e6] at q; cases q; exact nel e6 (fun _ z => by cases z)
    · rw [e7] at q; cases q; exact nel e7 (fun _ z => by cases z)
  · obtain ⟨kvs, q, p⟩ := Z.fu
    refine ⟨kvs, kq.2 _ _ q, Paired.mapP p fun _ _ z => z.keeps kq (Ext.refl E) fun pl hp o e => ?_⟩
    obtain ⟨xs, e'⟩ := Z.plo pl hp
    rw [e'] at e
    cases e
    exact nel e' (fun _ z => by cases z)
  · obtain ⟨_, al, n1, n2, off⟩ := Z.kp
    refine ⟨⟨_, dm, ?_⟩, fun d h => al d fun q hq => h q (List.mem_append_left _ hq), ?_, ?_, ?_⟩
    · refine Paired.snoc ?_ ⟨i, ns, rfl, d1, d2, ?_⟩
      · have p2 : Paired (fun q r => q ∈ kl ∧ KeptR H E T q r) kl kvs := by
          have : ∀ {l1 : List (Call × Addr)} {r1 : List (NestedKey × V)}, Paired (KeptR H E T) l1 r1 → (∀ q ∈ l1, q ∈ kl) → Paired (fun q r => q ∈ kl ∧ KeptR H E T q r) l1 r1 := fun {l1 r1} h => by
            induction h with
            | nil => exact fun _ => .nil
            | cons a b ih => exact fun hh => .cons ⟨hh _ List.mem_cons_self, a⟩ (ih fun q hq => hh q (List.mem_cons_of_mem _ hq))
          exact this p fun q h => h
        refine Paired.mapP p2 fun q r z => ?_
        obtain ⟨hq', i, ns, h1, h2, h3, h4⟩ := z
        exact ⟨i, ns, h1, h2, h3, nel h4 (fun _ z => by cases z)⟩
      · show H2 l = some (.lst ((openAt c T).map vi).reverse)
        rw [al c hn]
        exact (k2 l lk).trans upd_same
    · rw [List.map_append]
      refine List.nodup_append.mpr ⟨n1, by simp, fun a ha b hb => ?_⟩
      obtain ⟨q, hq, rfl⟩ := List.mem_map.mp ha
      have hb : b = c := by simpa using hb
      subst hb
      exact hn q hq
    · rw [List.map_append]
      refine List.nodup_append.mpr ⟨n2, by simp, fun a ha b hb z => ?_⟩
      obtain ⟨q, hq, rfl⟩ := List.mem_map.mp ha
      have hb : b = l := by simpa using hb
      subst hb
      obtain ⟨xs, e⟩ := Z.kl_lst q hq
      rw [z, fl] at e
      cases e
    · intro q hq
      rcases List.mem_append.mp hq with hq | hq
      · exact off q hq
      · have hq : q = (c, l) := by simpa using hq
        subst hq
        exact ⟨fun hb => lne l hb rfl, lpl⟩
  · obtain ⟨xs, e⟩ := Z.plo p hp
    exact ⟨xs, nel e (fun _ z => by cases z)⟩
  · exact kb b o (fun z => by rw [z, Z.new.2.1] at e; cases e) (Z.fr b o e)
  · obtain ⟨w1, w2, w3, w4, w5⟩ := Z.new
    refine ⟨w1, w2, w3, w4, fun q hq => ?_⟩
    rcases List.mem_append.mp hq with hq | hq
    · exact w5 q hq
    · have hq : q = (c, l) := by simpa using hq
      subst hq
      exact Same.free Z.fr fl
end
/-! ### the dict of names -/
/-- the first i names -/
def nmK (pn ns : List Nat) : List (Key × V) := (pn.zip ns).map fun q => ((.inl (q.1 : Int) : Key), V.int (q.2 : Int))
theorem nmK_none {n : Nat} : ∀ {pn ns : List Nat}, n ∉ pn → valV (nmK pn ns) (.inl (n : Int)) = none
  | [], _, _ => rfl
  | _ :: _, [], _ => rfl
  | a :: pn, b :: ns, h => by
    show valV ((Sum.inl (a : Int), V.int b) :: nmK pn ns) (.inl (n : Int)) = none
    rw [valV_neg (p := ((.inl (a : Int) : Key), V.int b)) fun z => h (by
      have z : (a : Int) = n := by injection z
      have z : a = n := by omega
      rw [z]
      exact List.mem_cons_self)]
    exact nmK_none fun z => h (List.mem_cons_of_mem _ z)
theorem nmK_snoc {i : Nat} {pn ns : List Nat} {a b : Nat} (h1 : pn[i]? = some a) (h2 : ns[i]? = some b) : nmK (pn.take (i + 1)) (ns.take (i + 1)) = nmK (pn.take i) (ns.take i) ++ [((.inl (a : Int) : Key), V.int (b : Int))] := by
  unfold nmK
  have e : ∀ (l : List Nat) (x : Nat), l[i]? = some x → l.take (i + 1) = l.take i ++ [x] := fun l x h => by rw [List.take_succ, h]; rfl
  have l1 := (List.getElem?_eq_some_iff.mp h1).1
  have l2 := (List.getElem?_eq_some_iff.mp h2).1
  rw [e pn a h1, e ns b h2, List.zip_append (by rw [List.length_take, List.length_take]; omega), List.map_append]
  rfl
theorem nmK_len (pn ns : List Nat) : (nmK pn ns).length ≤ pn.length := by
  unfold nmK
  rw [List.length_map, List.length_zip]
  omega
theorem nd_take {l : List Nat} (nd : l.Nodup) {i a : Nat} (h : l[i]? = some a) : a ∉ l.take i := fun m => by
  obtain ⟨j, hj, e⟩ := List.mem_iff_getElem.mp m
  rw [List.length_take] at hj
  rw [List.getElem_take] at e
  have li := (List.getElem?_eq_some_iff.mp h).1
  have e2 : l[j]? = some a := by rw [List.getElem?_eq_getElem (by omega), e]
  have := nd_ix nd h e2
  omega
theorem nmK_env {E : List Ent} : ∀ {ps : List Str} {pn : List Nat} {args : List Val} {ns : List Nat}, Dens E (ps.map .w) pn → Dens E args ns → ps.length = args.length →
    Paired (fun (q : Str × Val) (p : Key × V) => ∃ i j : Nat, p = (.inl (i : Int), .int j) ∧ Den E (.w q.1) i ∧ Den E q.2 j) (ps.zip args) (nmK pn ns)
  | [], pn, args, ns, h1, h2, h3 => by
    cases h1
    exact .nil
  | p :: ps, pn, args, ns, h1, h2, h3 => by
    cases h1 with
    | cons a b =>
      cases args with
      | nil => cases h3
      | cons v args =>
        cases h2 with
        | cons c d => exact .cons ⟨_, _, rfl, a, c⟩ (nmK_env b d (by simpa using h3))
theorem Dens.nodup {E : List Ent} {ps : List Str} {pn : List Nat} (d : Dens E (ps.map .w) pn) (n : ps.Nodup) : pn.Nodup := by
  induction ps generalizing pn with
  | nil =>
    cases d
    exact List.nodup_nil
  | cons p ps ih =>
    cases d with
    | cons a b =>
      obtain ⟨n1, n2⟩ := List.nodup_cons.mp n
      refine List.nodup_cons.mpr ⟨fun m => n1 ?_, ih b n2⟩
      clear ih n n2
      rename_i k l
      clear n1
      have : ∀ {ps : List Str} {l : List Nat}, Dens E (ps.map .w) l → k ∈ l → p ∈ ps := fun {ps} => by
        induction ps with
        | nil =>
          intro l d m
          cases d
          cases m
        | cons q ps ih =>
          intro l d m
          cases d with
          | cons x y =>
            rcases List.mem_cons.mp m with e | m
            · subst e
              have := a.inj x
              cases this
              exact List.mem_cons_self
            · exact List.mem_cons_of_mem _ (ih y m)
      exact this b m
/-- a function by its number -/
theorem fun_val {H : Hp} {E : List Ent} (nd : E.Nodup) {pls : List Addr} {f : Str} {i : Nat} (d : Den E (.w f) i) {g : Fn} : ∀ {Pf : List Fn} {kvs : List (Key × V)}, Paired (FunR H E pls) Pf kvs → fnOf Pf f = some g → ∃ v, valV kvs (.inl (i : Int)) = some v ∧ FunR H E pls g (.inl (i : Int), v)
  | _, _, .nil, h => by cases h
  | _, _, @Paired.cons _ _ _ a r qs rs h t, e => by
    obtain ⟨i', b, at', pl, ns, h1, h2, h3⟩ := h
    unfold fnOf at e
    by_cases ha : a.name = f
    · rw [if_pos ha] at e
      have e := Option.some.inj e
      subst e ha
      have ei := h2.fn nd d
      subst ei
      subst h1
      exact ⟨_, valV_pos (p := ((.inl (i' : Int) : Key), V.ref at')) rfl, i', b, at', pl, ns, rfl, h2, h3⟩
    · rw [if_neg ha] at e
      obtain ⟨v, q1, q2⟩ := fun_val nd d t e
      refine ⟨v, ?_, q2⟩
      subst h1
      rw [valV_neg (p := ((.inl (i' : Int) : Key), V.ref at')) fun z => ha ?_]
      · exact q1
      · have z : (i' : Int) = i := by injection z
        have z : i' = i := by omega
        subst z
        have := h2.inj d
        cases this
        rfl
end OgW
/-! OgM4: Machine.begin. -/
namespace OgW
open PySem PySem.Spec PyProof.Rows L2 OgD Og OgT
def prAt (keep : Bool) (c : Call) (s : Nat) (T : List Task) : Option (Nat × Nat) := match keep with
  | false => none
  | true => (match openAt c T with
    | k :: _ => some (k, s + 1)
    | [] => none)
section
variable {P : Program} {w : World} {K : PySem.W.Frag} {mg : Str → Option Value} {base : Heap}
def spBegin (K : PySem.W.Frag) (w : World) : Sp := fun vs H Q _ => ∃ (H0 : Hp) (m : Addr) (A : MA) (Pf : List Fn) (keep : Bool) (E : List Ent) (s : Nat) (F : List Val) (T : List Task) (kl : List (Call × Addr)) (f : Str) (args : List Val) (i : Nat) (na : Addr) (ns : List Nat) (g : Fn), vs = [.ref m, .int i, .ref na] ∧
  MachAt K w H0 H m A Pf keep E ⟨s, F, T⟩ none kl ∧ Den E (.w f) i ∧ H na = some (.tup (ns.map vi)) ∧ Dens E args ns ∧ fnOf Pf f = some g ∧ g.ps.length = args.length ∧ g.ps.Nodup ∧ g.ps.length ≤ 12 ∧ T.length < 1000000 ∧ kl.length < 1000000 ∧
  ∀ (H' : Hp) (kl' : List (Call × Addr)), MachAt K w H0 H' m A Pf keep E ⟨s, F, .ev g.body (g.ps.zip args) :: (if keep = true then .fin ⟨f, args⟩ (s + 1) :: T else T)⟩ (prAt keep ⟨f, args⟩ s T) kl' → kl'.length ≤ kl.length + 1 → Q .non H'
theorem sc_begin : FnScope ["self", "name", "numbers", "parameters", "body", "call", "names", "parameter", "number"] ["self", "name", "numbers"] (defScope s_Machine_begin) := ⟨rfl, rfl, rfl, by decide +kernel, rfl, by decide +kernel, by decide +kernel⟩
theorem openAt_len (c : Call) : ∀ T : List Task, (openAt c T).length ≤ T.length
  | [] => Nat.le_refl _
  | t :: T => by
    have := openAt_len c T
    cases t
    case fin c' k =>
      show (if c' = c then k :: openAt c T else openAt c T).length ≤ T.length + 1
      split
      · exact Nat.succ_le_succ this
      · exact Nat.le_succ_of_le this
    all_goals exact Nat.le_succ_of_le this
/-- the loop over the names, and the body's task -/
theorem begin_rest {m : Addr} {b : Nat} {A : MA} {H0 H : Hp} {Pf : List Fn} {keep : Bool} {E : List Ent} {s : Nat} {F : List Val} {T : List Task} {pr : Option (Nat × Nat)} {kl : List (Call × Addr)} {args : List Val} {na pl : Addr} {pn ns : List Nat} {g : Fn} {cl : Option V} {iv : V} {D : Ends}
    (T0 : Txt K mg) (Z : MachAt K w H0 H m A Pf keep E ⟨s, F, T⟩ pr kl) (hna : H na = some (.tup (ns.map vi))) (hpl : H pl = some (.lst (pn.map vi))) (dn : Dens E args ns) (dp : Dens E (g.ps.map .w) pn) (db : Den E g.body b) (len : g.ps.length = args.length) (nd : g.ps.Nodup) (l12 : g.ps.length ≤ 12) (lT : T.length < 1000001)
    (k : ∀ H', MachAt K w H0 H' m A Pf keep E ⟨s, F, .ev g.body (g.ps.zip args) :: T⟩ pr kl → ∀ σ, D.nx σ H') :
    (tSeq (tAsg tDNewK (gName 6)) (tSeq (tFor (OgZ.iLT K (tCons (tVar 3) (tCons (tVar 2) tNil))) (gTup K 2 (gCons (gName 7) (gCons (gName 8) gNil))) (sDPut (tVar 6) (tVar 7) (tVar 8)))
      (tDrop (tBM K "list" rAppend (tFld K (tVar 0) "todo") (tCons (tTup (tCons (tC (.str "eval")) (tCons (tVar 4) (tCons (tVar 6) tNil)))) tNil))))) D
      [some (.ref m), some iv, some (.ref na), some (.ref pl), some (.int b), cl, none, none, none] H := by
  have l6 := line6
  have lp : pn.length = g.ps.length := by rw [← Paired.length dp, List.length_map]
  have ln : ns.length = args.length := (Paired.length dn).symm
  have npn : pn.Nodup := dp.nodup nd
  refine fun d hd => ?_
  have hpl1 : upd H d (.dK []) pl = some (.lst (pn.map vi)) := Same.laid hd _ _ hpl
  have hna1 : upd H d (.dK []) na = some (.tup (ns.map vi)) := Same.laid hd _ _ hna
  refine ⟨_, rfl, _, rfl, pl, na, _, _, rfl, SqL.of hpl1, SqT.of hna1, ?_⟩
  refine ⟨fun i mm σ H' => mm = pn.length - i ∧ i ≤ pn.length ∧ ∃ x y, σ = [some (.ref m), some iv, some (.ref na), some (.ref pl), some (.int b), cl, some (.ref d), x, y] ∧ Same H H' ∧ H' d = some (.dK (nmK (pn.take i) (ns.take i))),
    ⟨_, rfl, Nat.zero_le _, none, none, rfl, Same.laid hd, upd_same⟩, ?_⟩
  rintro i mm σ H' ⟨rfl, hi, x, y, rfl, sm, hdk⟩
  have hpl2 := sm _ _ hpl
  have hna2 := sm _ _ hna
  by_cases hlt : i < pn.length
  · have hlt2 : i < ns.length := by omega
    refine .inr ⟨⟨_, _, SqL.of hpl2, SqT.of hna2, by rw [List.length_map]; exact hlt, by rw [List.length_map]; exact hlt2⟩, fun σ H'' => i + 1 ≤ pn.length ∧ ∃ x y, σ = [some (.ref m), some iv, some (.ref na), some (.ref pl), some (.int b), cl, some (.ref d), x, y] ∧ Same H H'' ∧ H'' d = some (.dK (nmK (pn.take (i + 1)) (ns.take (i + 1)))),
      fun σ' H'' q => ⟨pn.length - (i + 1), by omega, rfl, q⟩, fun v H'' q => ?_⟩
    obtain ⟨p, x', y', rfl, hp, rfl, f1, f2⟩ := q
    have e1 := f1 _ (SqL.of hpl2)
    have e2 := f2 _ (SqT.of hna2)
    rw [List.getElem?_map, List.getElem?_eq_getElem hlt] at e1
    rw [List.getElem?_map, List.getElem?_eq_getElem hlt2] at e2
    have e1 : vi pn[i] = x' := Option.some.inj e1
    have e2 : vi ns[i] = y' := Option.some.inj e2
    subst e1 e2
    have hd2 : upd H' p (.tup [vi pn[i], vi ns[i]]) d = some (.dK (nmK (pn.take i) (ns.take i))) := Same.laid hp _ _ hdk
    have no := nmK_none (ns := ns.take i) (nd_take npn (List.getElem?_eq_getElem hlt))
    refine ⟨p, _, rfl, SqT.of upd_same, rfl, _, _, rfl, _, _, rfl, rfl, ?_⟩
    refine ⟨_, rfl, _, rfl, _, rfl, d, _, rfl, .inl ⟨_, .inl (pn[i] : Int), hd2, rfl, ?_, rfl⟩, hlt, _, _, rfl, ?_, ?_⟩
    · have := nmK_len (pn.take i) (ns.take i)
      rw [List.length_take] at this
      omega
    · exact fun a o e => (upd_ne (ne_of_none e hd)).trans (Same.laid hp _ _ (sm _ _ e))
    · rw [upd_same, putK_new _ no, nmK_snoc (List.getElem?_eq_getElem hlt) (List.getElem?_eq_getElem hlt2)]
  · have ei : i = pn.length := by omega
    subst ei
    refine .inl ⟨⟨_, _, SqL.of hpl2, SqT.of hna2, by rw [List.length_map]; omega, by rw [List.length_map]; omega, .inl (by rw [List.length_map])⟩, ?_⟩
    rw [List.take_length, List.take_of_length_le (by omega)] at hdk
    have Z2 := Z.same sm
    obtain ⟨pv, e1, _⟩ := Z2.ob
    obtain ⟨tvs, e2, tp⟩ := Z2.to
    have lt : tvs.length < 1000001 := by rw [← Paired.length tp]; exact lT
    refine ⟨_, rfl, m, CM K, A.dx, _, _, rfl, e1, T0.clM, T0.m9, mf_to A keep pv s, .inl ⟨rfl, _, SqL.of e2⟩, _, rfl, _, rfl, (by show 3 ≤ sizeLine; omega), fun p hp => ⟨A.to, _, _, rfl, rfl, Same.laid hp _ _ e2, ?_, ?_⟩⟩
    · rw [List.length_reverse]
      omega
    · rw [rev_push]
      have Z3 := Z2.same (Same.laid (o := HO.tup [V.str "eval", V.int b, V.ref d]) hp)
      obtain ⟨tvs3, e3, tp3⟩ := Z3.to
      have et : tvs3.reverse = tvs.reverse := by
        have := Same.laid (o := HO.tup [V.str "eval", V.int b, V.ref d]) hp _ _ e2
        rw [this] at e3
        injection e3 with e3
        injection e3 with e3
        exact e3.symm
      have et : tvs3 = tvs := List.reverse_inj.mp et
      subst et
      exact k _ (Z3.todo (T' := .ev g.body (g.ps.zip args) :: T) (.cons ⟨p, d, b, rfl, upd_same, db, _, Same.laid hp _ _ hdk, nmK_env dp dn len⟩ tp3) fun _ => rfl) _
/-- a list for the call, if it has none -/
theorem begin_if {m : Addr} {A : MA} {H0 H : Hp} {Pf : List Fn} {keep : Bool} {E : List Ent} {s : Nat} {F : List Val} {T : List Task} {pr : Option (Nat × Nat)} {kl : List (Call × Addr)} {c : Call} {p na : Addr} {i : Nat} {ns : List Nat} {a1 a2 a3 a4 : Option V} {r : L2.St} {D : Ends}
    (T0 : Txt K mg) (Z : MachAt K w H0 H m A Pf keep E ⟨s, F, T⟩ pr kl) (hp : H p = some (.tup [.int i, .ref na])) (hna : H na = some (.tup (ns.map vi))) (di : Den E (.w c.f) i) (dn : Dens E c.args ns) (lk : kl.length < 1000000)
    (k : ∀ (H2 : Hp) (kl2 : List (Call × Addr)) (l : Addr), MachAt K w H0 H2 m A Pf keep E ⟨s, F, T⟩ pr kl2 → (c, l) ∈ kl2 → KT0 H H2 → (∀ q ∈ A.pls, ∀ o, H q = some o → H2 q = some o) → kl2.length ≤ kl.length + 1 → D.nx (some (.ref m) :: a1 :: a2 :: a3 :: a4 :: some (.ref p) :: r) H2) :
    (tIfS (tB (tMIn w true (tVar 5) (tFld K (tVar 0) "kept"))) (sMPut w (tFld K (tVar 0) "kept") (tVar 5) (tLst tNil)) tNext) D (some (.ref m) :: a1 :: a2 :: a3 :: a4 :: some (.ref p) :: r) H := by
  have l6 := line6
  obtain ⟨pv, e1, _⟩ := Z.ob
  obtain ⟨kvs, dm, pk⟩ := Z.kp.dm
  obtain ⟨v1, v2⟩ := kept_val Z.st.nd di dn pk
  have key := CallR.keyV hp hna (c := c)
  refine ⟨_, rfl, _, rfl, m, CM K, A.dx, _, _, rfl, e1, T0.clM, T0.m5, mf_kp A keep pv s, A.kp, kvs, keyC i ns, rfl, dm, key, keyC_dep i ns, keyC_num i ns, _, rfl, ?_⟩
  by_cases h : ∃ q ∈ kl, q.1 = c
  · obtain ⟨⟨c', l⟩, hq, e⟩ := h
    have e : c' = c := e
    subst e
    obtain ⟨x1, x2⟩ := v1 _ hq rfl fun r hr e => un_of Z.kp.nd1 hq hr e
    rw [x1]
    exact iteF (k H kl l Z hq (fun _ _ e => e) (fun _ _ _ e => e) (Nat.le_succ _))
  · have hn : ∀ q ∈ kl, q.1 ≠ c := fun q hq e => h ⟨q, hq, e⟩
    have no := v2 hn
    rw [no]
    refine iteT ⟨Nat.zero_le _, fun l hl => ?_⟩
    have Zl := Z.same (Same.laid (o := HO.lst []) hl)
    obtain ⟨pv2, b1, _⟩ := Zl.ob
    refine ⟨_, rfl, m, CM K, A.dx, _, _, rfl, b1, T0.clM, T0.m5, mf_kp A keep pv2 s, _, rfl, A.kp, kvs, keyC i ns, rfl, dm.keeps (fun o e => Same.laid hl _ _ e) (fun a xs e => Same.laid hl _ _ e), key.keeps (fun a xs e => Same.laid hl _ _ e), keyC_dep i ns, keyC_num i ns, ?_, fun H4 k4 m4 => ?_⟩
    · have := Paired.length pk
      omega
    · rw [putK_new _ no] at m4
      have Z4 := Z.keptNew hn hl k4 di dn pk m4
      · refine k H4 _ l Z4 (List.mem_append_right _ List.mem_cons_self) (fun a xs e => ?_) (fun q hq o e => ?_) (by rw [List.length_append]; exact Nat.le_refl _)
        · obtain ⟨rows, e3⟩ := Z.kpO
          exact (k4 a (ne_of e e3 (by intro z; cases z))).trans (Same.laid hl _ _ e)
        · obtain ⟨rows, e3⟩ := Z.kpO
          obtain ⟨xs, e5⟩ := Z.plo q hq
          exact (k4 q (ne_of e5 e3 (by intro z; cases z))).trans (Same.laid hl _ _ e)
/-- the call opens -/
theorem begin_open {m : Addr} {A : MA} {H0 H : Hp} {Pf : List Fn} {keep : Bool} {E : List Ent} {s : Nat} {F : List Val} {T : List Task} {pr : Option (Nat × Nat)} {kl : List (Call × Addr)} {c : Call} {p na l : Addr} {i : Nat} {ns : List Nat} {a1 a2 a3 a4 : Option V} {r : L2.St} {D : Ends}
    (T0 : Txt K mg) (Z : MachAt K w H0 H m A Pf keep E ⟨s, F, T⟩ pr kl) (hq : (c, l) ∈ kl) (hp : H p = some (.tup [.int i, .ref na])) (hna : H na = some (.tup (ns.map vi))) (di : Den E (.w c.f) i) (dn : Dens E c.args ns) (lT : T.length < 1000000)
    (k : ∀ (H2 : Hp), MachAt K w H0 H2 m A Pf keep E ⟨s, F, .fin c (s + 1) :: T⟩ pr kl → KT0 H H2 → (∀ q ∈ A.pls, ∀ o, H q = some o → H2 q = some o) → D.nx (some (.ref m) :: a1 :: a2 :: a3 :: a4 :: some (.ref p) :: r) H2) :
    (tSeq (tDrop (tBM K "list" rAppend (tMGet w (tFld K (tVar 0) "kept") (tVar 5)) (tCons (tOp (rI0 fun i j => .int (i + j)) (tFld K (tVar 0) "steps") (tC (.int 1))) tNil)))
      (tDrop (tBM K "list" rAppend (tFld K (tVar 0) "todo") (tCons (tTup (tCons (tC (.str "end")) (tCons (tVar 5) tNil))) tNil)))) D (some (.ref m) :: a1 :: a2 :: a3 :: a4 :: some (.ref p) :: r) H := by
  have l6 := line6
  obtain ⟨pv, e1, _⟩ := Z.ob
  obtain ⟨kvs, dm, pk⟩ := Z.kp.dm
  obtain ⟨x1, x2⟩ := (kept_val Z.st.nd di dn pk).1 _ hq rfl fun r hr e => un_of Z.kp.nd1 hq hr e
  have x1 : valV kvs (keyC i ns) = some (.ref l) := x1
  have x2 : H l = some (.lst ((openAt c T).map vi).reverse) := x2
  have key := CallR.keyV hp hna (c := c)
  have lo := openAt_len c T
  obtain ⟨vs, et, tp⟩ := Z.to
  obtain ⟨nl1, nl2⟩ := Z.kp.off _ hq
  have lt : vs.length = T.length := (Paired.length tp).symm
  have lto : A.to ≠ l := fun z => nl1 (z ▸ A.mem.2.1)
  have ml : m ≠ l := ne_of e1 x2 (by intro z; cases z)
  refine ⟨_, rfl, m, CM K, A.dx, _, _, rfl, e1, T0.clM, T0.m5, mf_kp A keep pv s, _, rfl, A.kp, kvs, keyC i ns, .ref l, rfl, dm, key, keyC_dep i ns, keyC_num i ns, x1, .inl ⟨rfl, _, SqL.of x2⟩, _, rfl, m, CM K, A.dx, _, _, rfl, e1, T0.clM, T0.m7, mf_sp A keep pv s, _, _, rfl, rfl, l, _, _, rfl, rfl, x2, ?_, ?_⟩
  · rw [List.length_reverse, List.length_map]
    omega
  refine ⟨_, rfl, m, CM K, A.dx, _, _, rfl, (upd_ne ml).trans e1, T0.clM, T0.m9, mf_to A keep pv s, .inl ⟨rfl, _, SqL.of ((upd_ne lto).trans et)⟩, _, rfl, (by show 2 ≤ sizeLine; omega), fun p2 hp2 => ?_⟩
  have kl2 : ∀ b o, b ≠ l → H b = some o → upd (upd H l (.lst (((openAt c T).map vi).reverse ++ [.int ((s : Int) + 1)]))) p2 (.tup [.str "end", .ref p]) b = some o := fun b o n e => Same.laid hp2 _ _ ((upd_ne n).trans e)
  refine ⟨A.to, _, _, rfl, rfl, kl2 _ _ lto et, by rw [List.length_reverse]; omega, ?_⟩
  rw [rev_push (v := V.ref p2) (ws := vs)]
  have kt : KT0 H (upd (upd H l (.lst (((openAt c T).map vi).reverse ++ [.int ((s : Int) + 1)]))) p2 (.tup [.str "end", .ref p])) := fun a xs e => kl2 a _ (ne_of e x2 (by intro z; cases z)) e
  have kq : Kq H (upd (upd H l (.lst (((openAt c T).map vi).reverse ++ [.int ((s : Int) + 1)]))) p2 (.tup [.str "end", .ref p])) := ⟨kt, fun a xs e => kl2 a _ (ne_of e x2 (by intro z; cases z)) e⟩
  refine k _ (Z.keptTodo (T' := .fin c (s + 1) :: T) hq kl2 ?_ (.cons ⟨p2, p, rfl, upd_same, na, i, ns, kt _ _ hp, kt _ _ hna, di, dn⟩ (Paired.mapP tp fun _ _ z => z.keeps kq (Ext.refl E))) fun d hd => ?_) (fun a xs e => (upd_ne (ne_of e et (by intro z; cases z))).trans (kt a xs e)) (fun q hq' o e => (upd_ne fun (z : q = A.to) => Z.off q hq' (z ▸ A.mem.2.1)).trans (kl2 q o (fun (z : q = l) => nl2 (z ▸ hq')) e))
  · rw [Same.laid hp2 _ _ upd_same]
    show some (HO.lst (((openAt c T).map vi).reverse ++ [vi (s + 1)])) = some (HO.lst ((if c = c then (s + 1) :: openAt c T else openAt c T).map vi).reverse)
    rw [if_pos rfl, rev_push]
    rfl
  · show (if c = d then (s + 1) :: openAt d T else openAt d T) = openAt d T
    rw [if_neg fun z => hd z.symm]
theorem ok_begin {f : Addr} {fd : FuncData} (F : FnS K s_Machine_begin "begin" "Machine.begin" f fd) (T0 : Txt K mg) : FnOk P w K mg base CX0 1 f fd ["self", "name", "numbers"] (spBegin K w) := by
  refine ok0 F sc_begin (fun vs H Q E h => ?_) (fun cdv A0 outer s0 H vs Q E0 hr h => ?_)
  · obtain ⟨H0, m, A, Pf, keep, E, s, F, T, kl, f, args, i, na, ns, g, rfl, _⟩ := h
    rfl
  · obtain ⟨H0, m, A, Pf, keep, E, s, Fd, T, kl, fn, args, i, na, ns, g, rfl, Z, di, hna, dn, fo, len, nd, l12, lT, lk, k⟩ := h
    refine ⟨_, (pss_cons (ps_asg (pe_dget (hu_of hr) (pe_fld (pv 0) rfl) (pv 1) (fun _ _ => rfl)) (pg_tup rfl (pgs_cons (pg_name (i := 3) sc_begin.nd rfl (.inl rfl)) (pgs_cons (pg_name (i := 4) sc_begin.nd rfl (.inl rfl)) pgs_nil))))
 (pss_cons (ps_if (pt_val (pe_fld (pv 0) rfl))
 (pss_cons (ps_set (i := 5) sc_begin.nd rfl (.inl rfl) (pe_tup (pa_cons (pv 1) (pa_cons (pv 2) pa_nil))))
 (pss_cons (ps_if (pt_cmp (pc_mnotin (hu10 hr) (pv 5) (pe_fld (pv 0) rfl)) rfl)
 (pss_one (ps_mput (hu10 hr) (pe_fld (pv 0) rfl) (pv 5) (pe_lst pa_nil) rfl))
 pss_nil)
 (pss_cons (ps_if (PW.pt (pw_and (pt_cmpR op_gt (pe_callB call_len_seq (by rfl) T0.len b_len (pa_cons (pe_mget (hu10 hr) (pe_fld (pv 0) rfl) (pv 5) (fun _ _ => rfl)) pa_nil)) pe_int (nomark _)) (pw_and1 (pt_cmp (pc_isN (pe_fld (pv 0) rfl)) rfl))))
 (pss_one (ps_fld (pv 0) (pe_tup (pa_cons (pe_ix ix_list (pe_mget (hu10 hr) (pe_fld (pv 0) rfl) (pv 5) (fun _ _ => rfl)) (pe_un un_neg pe_int) (fun _ _ => rfl)) (pa_cons (pe_op op_add (pe_fld (pv 0) rfl) pe_int) pa_nil))) rfl))
 pss_nil)
 (pss_cons (ps_expr (pe_bm PySem.F.plainAttrs_list PySem.F.slot_list_append PySem.F.type_list_append mt_append (pe_mget (hu10 hr) (pe_fld (pv 0) rfl) (pv 5) (fun _ _ => rfl)) (pa_cons (pe_op op_add (pe_fld (pv 0) rfl) pe_int) pa_nil)))
 (pss_one (ps_expr (pe_bm PySem.F.plainAttrs_list PySem.F.slot_list_append PySem.F.type_list_append mt_append (pe_fld (pv 0) rfl) (pa_cons (pe_tup (pa_cons pe_str (pa_cons (pv 5) pa_nil))) pa_nil))))))))
 pss_nil)
 (pss_cons (ps_set (i := 6) sc_begin.nd rfl (.inl rfl) pe_dnewK)
 (pss_cons (ps_for PassesOwn.never rfl (OgZ.pi_zipLT (by rfl) T0.zip (pa_cons (pv 3) (pa_cons (pv 2) pa_nil))) (pg_tup rfl (pgs_cons (pg_name (i := 7) sc_begin.nd rfl (.inl rfl)) (pgs_cons (pg_name (i := 8) sc_begin.nd rfl (.inl rfl)) pgs_nil)))
 (pss_one (ps_dput (hu_of hr) (pv 6) (pv 7) (pv 8) rfl)))
 (pss_one (ps_expr (pe_bm PySem.F.plainAttrs_list PySem.F.slot_list_append PySem.F.type_list_append mt_append (pe_fld (pv 0) rfl) (pa_cons (pe_tup (pa_cons pe_str (pa_cons (pv 4) (pa_cons (pv 6) pa_nil)))) pa_nil)))))))), ?_⟩
    have l6 := line6
    obtain ⟨pv0, e1, e2⟩ := Z.ob
    have e2 : pv0 = .non := e2
    subst e2
    obtain ⟨kvs, e3, p3⟩ := Z.fu
    obtain ⟨v3, e4, i', b, ta, pl, pn, eq, di', hta, hpl, dp, db, mpl⟩ := fun_val Z.st.nd di p3 fo
    have ev : v3 = .ref ta := by injection eq
    subst ev
    refine ⟨_, rfl, m, CM K, A.dx, _, _, rfl, e1, T0.clM, T0.m3, mf_fu A keep .non s, _, rfl, A.fu, _, rfl, .inl ⟨kvs, .inl (i : Int), .inl e3, rfl, e4.symm⟩, ta, _, rfl, SqT.of hta, rfl, _, _, rfl, _, _, rfl, rfl, ?_⟩
    refine ⟨_, rfl, m, CM K, A.dx, _, _, rfl, e1, T0.clM, T0.m4, mf_ke A keep .non s, _, rfl, ?_⟩
    cases keep with
    | false =>
      exact iteF (begin_rest T0 Z hna hpl dn dp db len nd l12 (by omega) fun H' Z' _ => k H' kl Z' (Nat.le_succ _))
    | true =>
      refine iteT ⟨_, rfl, _, rfl, (by show 2 ≤ sizeLine; omega), fun p hp => ?_⟩
      have Z1 := Z.same (Same.laid (o := HO.tup [V.int i, V.ref na]) hp)
      have hna1 := Same.laid (o := HO.tup [V.int i, V.ref na]) hp _ _ hna
      have hpl1 := Same.laid (o := HO.tup [V.int i, V.ref na]) hp _ _ hpl
      refine begin_if (K := K) (w := w) T0 Z1 upd_same hna1 (c := ⟨fn, args⟩) di dn lk fun H2 kl2 l Z2 hq kt kpl lkl => ?_
      have hp2 := kt _ _ (upd_same (H := H) (a := p) (o := HO.tup [V.int i, V.ref na]))
      have hna2 := kt _ _ hna1
      have hpl2 := kpl _ mpl _ hpl1
      obtain ⟨pv2, b1, b2⟩ := Z2.ob
      have b2 : pv2 = .non := b2
      subst b2
      obtain ⟨kvs2, dm2, pk2⟩ := Z2.kp.dm
      obtain ⟨x1, x2⟩ := (kept_val Z2.st.nd (c := ⟨fn, args⟩) di dn pk2).1 _ hq rfl fun r hr e => un_of Z2.kp.nd1 hq hr e
      have key := CallR.keyV hp2 hna2 (c := ⟨fn, args⟩)
      have x1 : valV kvs2 (keyC i ns) = some (.ref l) := x1
      have x2 : H2 l = some (.lst ((openAt ⟨fn, args⟩ T).map vi).reverse) := x2
      have b1 : H2 m = some (.ins (CM K) A.dx (mf A true .non s)) := b1
      refine ⟨_, rfl, m, CM K, A.dx, _, _, rfl, b1, T0.clM, T0.m5, mf_kp A true .non s, _, rfl, A.kp, kvs2, keyC i ns, .ref l, rfl, dm2, key, keyC_dep i ns, keyC_num i ns, x1, l, _, rfl, .inl (SqL.of x2), _, _, rfl, rfl, _, rfl, ?_⟩
      -- the rest, with the pair as it is
      have key2 : ∀ {H3 : Hp} {pr3 : Option (Nat × Nat)}, MachAt K w H0 H3 m A Pf true E ⟨s, Fd, T⟩ pr3 kl2 → KT0 H2 H3 → (∀ q ∈ A.pls, ∀ o, H2 q = some o → H3 q = some o) → pr3 = prAt true ⟨fn, args⟩ s T →
          MachAt K w H0 H3 m A Pf true E ⟨s, Fd, T⟩ (prAt true ⟨fn, args⟩ s T) kl2 ∧ H3 p = some (.tup [.int i, .ref na]) ∧ H3 na = some (.tup (ns.map vi)) ∧ H3 pl = some (.lst (pn.map vi)) := fun {H3 pr3} Z3 k3 k4 e => by
        subst e
        exact ⟨Z3, k3 _ _ hp2, k3 _ _ hna2, k4 _ mpl _ hpl2⟩
      have len2 : ((((openAt ⟨fn, args⟩ T).map vi).reverse).length : Int) = ((openAt ⟨fn, args⟩ T).length : Nat) := by rw [List.length_reverse, List.length_map]
      cases ho : openAt ⟨fn, args⟩ T with
      | nil =>
        rw [ho] at len2
        obtain ⟨Z3, hp3, hna3, hpl3⟩ := key2 Z2 (fun _ _ e => e) (fun _ _ _ e => e) (by simp only [prAt, ho])
        refine iteF (iteF ?_)
        refine begin_open T0 Z3 hq hp3 hna3 di dn lT fun H4 Z4 k4 k5 => ?_
        exact begin_rest T0 Z4 (k4 _ _ hna3) (k5 _ mpl _ hpl3) dn dp db len nd l12 (by simp only [List.length_cons]; omega) fun H' Z' _ => k H' kl2 Z' lkl
      | cons a0 l0 =>
        rw [ho] at x2
        have hd : decide ((0 : Int) < ((((a0 :: l0).map vi).reverse).length : Nat)) = true := decide_eq_true (by rw [List.length_reverse, List.length_map, List.length_cons]; omega)
        rw [hd]
        refine iteT ⟨_, rfl, m, CM K, A.dx, _, _, rfl, b1, T0.clM, T0.m6, mf_pr A true .non s, _, rfl, ?_⟩
        rw [decide_eq_true (rfl : V.non = V.non)]
        have at1 : atI ((a0 :: l0).map vi).reverse (-1) = some (vi a0) := by
          rw [List.map_cons, ← rev_push]
          exact atI_last _ _
        refine iteT ⟨_, rfl, m, CM K, A.dx, _, _, rfl, b1, T0.clM, T0.m5, mf_kp A true .non s, _, rfl, A.kp, kvs2, keyC i ns, .ref l, rfl, dm2, key, keyC_dep i ns, keyC_num i ns, x1, _, rfl, l, _, _, vi a0, rfl, rfl, SqL.of x2, at1,
          _, rfl, m, CM K, A.dx, _, _, rfl, b1, T0.clM, T0.m7, mf_sp A true .non s, _, _, rfl, rfl, (by show 2 ≤ sizeLine; omega), fun p2 hp3 => ?_⟩
        have Z3 := Z2.same (Same.laid (o := HO.tup [vi a0, .int ((s : Int) + 1)]) hp3)
        obtain ⟨pv4, c1, c2⟩ := Z3.ob
        have c2 : pv4 = .non := c2
        subst c2
        refine ⟨_, rfl, m, CM K, A.dx, _, rfl, c1, T0.clM, T0.m6, (by show 9 < 1000; decide), ?_⟩
        rw [mf_pair]
        have Z4 := Z3.attr (pv := .ref p2) (n := s) (pr' := some (a0, s + 1)) ⟨p2, rfl, upd_same⟩
        have kI : ∀ b o, upd H2 p2 (.tup [vi a0, .int ((s : Int) + 1)]) b = some o → (∀ C dx fs, o ≠ .ins C dx fs) → upd (upd H2 p2 (.tup [vi a0, .int ((s : Int) + 1)])) m (.ins (CM K) A.dx (mf A true (.ref p2) s)) b = some o := fun b o e h => (upd_ne (ne_of e c1 (h _ _ _))).trans e
        obtain ⟨Z5, hp5, hna5, hpl5⟩ := key2 Z4 (fun a xs e => kI _ _ (Same.laid hp3 _ _ e) (fun _ _ _ z => by cases z)) (fun q hq' o e => by
          obtain ⟨xs, e'⟩ := Z2.plo q hq'
          rw [e'] at e
          cases e
          exact kI _ _ (Same.laid hp3 _ _ e') (fun _ _ _ z => by cases z)) (by simp only [prAt, ho])
        refine begin_open T0 Z5 hq hp5 hna5 di dn lT fun H4 Z4 k4 k5 => ?_
        exact begin_rest T0 Z4 (k4 _ _ hna5) (k5 _ mpl _ hpl5) dn dp db len nd l12 (by simp only [List.length_cons]; omega) fun H' Z' _ => k H' kl2 Z' lkl
end
end OgW
/-! OgM5: Machine.evaluate, Machine.is_done. -/
namespace OgW
open PySem PySem.Spec PyProof.Rows L2 OgD Og OgT
section
variable {K : PySem.W.Frag} {w : World} {H0 H : Hp} {m : Addr} {A : MA} {P : List Fn} {keep : Bool} {E : List Ent} {s : Nat} {F : List Val} {T : List Task} {pr : Option (Nat × Nat)} {kl : List (Call × Addr)}
theorem MachAt.push {tk : Task} {v : V} (Z : MachAt K w H0 H m A P keep E ⟨s, F, T⟩ pr kl) (r : TaskR H E tk v) (ho : ∀ c, openAt c (tk :: T) = openAt c T) : ∃ xs, H A.to = some (.lst xs) ∧ xs.length = T.length ∧ MachAt K w H0 (upd H A.to (.lst (xs ++ [v]))) m A P keep E ⟨s, F, tk :: T⟩ pr kl := by
  obtain ⟨vs, e, p⟩ := Z.to
  refine ⟨_, e, by rw [List.length_reverse]; exact (Paired.length p).symm, ?_⟩
  rw [rev_push]
  exact Z.todo (T' := tk :: T) (.cons r p) ho
theorem MachAt.pushF {v : Val} {n : Nat} (Z : MachAt K w H0 H m A P keep E ⟨s, F, T⟩ pr kl) (d : Den E v n) : ∃ xs, H A.fo = some (.lst xs) ∧ xs.length = F.length ∧ MachAt K w H0 (upd H A.fo (.lst (xs ++ [vi n]))) m A P keep E ⟨s, v :: F, T⟩ pr kl := by
  obtain ⟨ns, e, p⟩ := Z.fo
  refine ⟨_, e, by rw [List.length_reverse, List.length_map]; exact (Paired.length p).symm, ?_⟩
  rw [rev_push]
  exact Z.found (F' := v :: F) (ns' := n :: ns) (.cons d p)
theorem EnvR.val {H : Hp} {E : List Ent} {n : VEnv} {d : Addr} (h : EnvR H E n d) (nd : E.Nodup) {x : Str} {i : Nat} (di : Den E (.w x) i) {v : Val} (hv : lk n x = some v) : ∃ kvs j, H d = some (.dK kvs) ∧ valV kvs (.inl (i : Int)) = some (.int (j : Nat)) ∧ Den E v j := by
  obtain ⟨kvs, e, p⟩ := h
  suffices ∃ j : Nat, valV kvs (.inl (i : Int)) = some (.int j) ∧ Den E v j from let ⟨j, a, b⟩ := this; ⟨kvs, j, e, a, b⟩
  clear e
  induction p with
  | nil => cases hv
  | @cons q r qs rs h t ih =>
    obtain ⟨i', j, rfl, d1, d2⟩ := h
    obtain ⟨y, u⟩ := q
    by_cases hy : y = x
    · subst hy
      have e := d1.fn nd di
      subst e
      have hv : (if y = y then some u else lk qs y) = some v := hv
      rw [if_pos rfl] at hv
      have hv := Option.some.inj hv
      subst hv
      exact ⟨j, valV_pos (p := ((.inl (i' : Int) : Key), V.int j)) rfl, d2⟩
    · have hv : (if y = x then some u else lk qs x) = some v := hv
      rw [if_neg hy] at hv
      obtain ⟨j', q1, q2⟩ := ih hv
      refine ⟨j', ?_, q2⟩
      rw [valV_neg (p := ((.inl (i' : Int) : Key), V.int j)) fun z => hy ?_]
      · exact q1
      · have z : (i' : Int) = i := by injection z
        have z : i' = i := by omega
        subst z
        have := d1.inj di
        cases this
        rfl
theorem cut1 (a : V) (l : List V) : cutV (a :: l) (some 1) none = l := by
  unfold cutV
  have e : HT.sIx (a :: l).length 0 (some 1) = 1 := by
    show _ = 1
    simp [HT.sIx]
  have e2 : HT.sIx (a :: l).length (a :: l).length none = l.length + 1 := by simp [HT.sIx]
  rw [e, e2]
  simp
end
section
variable {P : Program} {w : World} {K : PySem.W.Frag} {mg : Str → Option Value} {base : Heap}
def spDone (K : PySem.W.Frag) (w : World) : Sp := fun vs H Q _ => ∃ (H0 : Hp) (m : Addr) (A : MA) (Pf : List Fn) (keep : Bool) (E : List Ent) (S : MSt) (pr : Option (Nat × Nat)) (kl : List (Call × Addr)), vs = [.ref m] ∧ MachAt K w H0 H m A Pf keep E S pr kl ∧ ∀ b : Bool, (b = true ↔ S.todo = []) → Q (.bl b) H
theorem sc_done : FnScope ["self"] ["self"] (defScope s_Machine_is_done) := ⟨rfl, rfl, rfl, by decide +kernel, rfl, by decide +kernel, by decide +kernel⟩
theorem ok_done {f : Addr} {fd : FuncData} (F : FnS K s_Machine_is_done "is_done" "Machine.is_done" f fd) (T : Txt K mg) : FnOk P w K mg base CX0 1 f fd ["self"] (spDone K w) := by
  refine ok0 F sc_done (fun vs H Q E h => ?_) (fun cdv A0 outer s0 H vs Q E0 hr h => ?_)
  · obtain ⟨H0, m, A, Pf, keep, E, S, pr, kl, rfl, _⟩ := h
    rfl
  · obtain ⟨H0, m, A, Pf, keep, E, S, pr, kl, rfl, Z, k⟩ := h
    refine ⟨_, (pss_one (ps_ret (pe_cmpR op_eq (pe_callB call_len_seq (by rfl) T.len b_len (pa_cons (pe_fld (pv 0) rfl) pa_nil)) pe_int (nomark _)))), ?_⟩
    obtain ⟨pv0, e1, _⟩ := Z.ob
    obtain ⟨vs, e2, p⟩ := Z.to
    have le := Paired.length p
    refine ⟨_, rfl, m, CM K, A.dx, _, _, rfl, e1, T.clM, T.m9, mf_to A keep pv0 S.steps, A.to, _, rfl, .inl (SqL.of e2), rfl, ?_⟩
    refine k _ ?_
    rw [List.length_reverse, ← le]
    constructor
    · intro h
      have h := of_decide_eq_true h
      injection h with h
      have h : S.todo.length = 0 := by omega
      exact List.length_eq_zero_iff.mp h
    · intro h
      rw [h]
      rfl
theorem evDo_quote {t : Val} {n : VEnv} {s : Nat} {F : List Val} {T : List Task} {S : MSt} (h : evDo (.cons (.w "quote") t) n s F T = some S) : ∃ v, t = .cons v .nil ∧ S = ⟨s + 1, v :: F, T⟩ := by
  unfold evDo at h
  simp only [if_true] at h
  split at h
  · have e := Option.some.inj h
    exact ⟨_, rfl, e.symm⟩
  · cases h
theorem evDo_if {t : Val} {n : VEnv} {s : Nat} {F : List Val} {T : List Task} {S : MSt} (h : evDo (.cons (.w "if") t) n s F T = some S) : ∃ a b c, t = .cons a (.cons b (.cons c .nil)) ∧ S = ⟨s + 1, F, .ev a n :: .ite b c n :: T⟩ := by
  unfold evDo at h
  simp only [if_true] at h
  rw [if_neg (show ¬ ("if" : Str) = "quote" by decide)] at h
  split at h
  · have e := Option.some.inj h
    exact ⟨_, _, _, rfl, e.symm⟩
  · cases h
theorem evDo_other {k : Str} {t : Val} {n : VEnv} {s : Nat} {F : List Val} {T : List Task} {S : MSt} (h : evDo (.cons (.w k) t) n s F T = some S) (h1 : k ≠ "quote") (h2 : k ≠ "if") : t.items.length ≤ 12 ∧ S = ⟨s + 1, F, t.items.map (Task.ev · n) ++ (if k ∈ plainW then .op k else .call k t.items.length) :: T⟩ := by
  unfold evDo at h
  dsimp only at h
  rw [if_neg h1, if_neg h2] at h
  by_cases h3 : 12 < t.items.length
  · rw [if_pos h3] at h
    cases h
  · rw [if_neg h3] at h
    refine ⟨by omega, ?_⟩
    by_cases h4 : k ∈ plainW
    · rw [if_pos h4] at h
      rw [if_pos h4]
      exact (Option.some.inj h).symm
    · rw [if_neg h4] at h
      rw [if_neg h4]
      exact (Option.some.inj h).symm
theorem evDo_len {k : Str} {t : Val} {n : VEnv} {s : Nat} {F : List Val} {T : List Task} {S : MSt} (h : evDo (.cons (.w k) t) n s F T = some S) : t.items.length ≤ 12 := by
  by_cases h1 : k = "quote"
  · subst h1
    obtain ⟨v, rfl, _⟩ := evDo_quote h
    exact (by decide : 1 ≤ 12)
  · by_cases h2 : k = "if"
    · subst h2
      obtain ⟨a, b, c, rfl, _⟩ := evDo_if h
      exact (by decide : 3 ≤ 12)
    · exact (evDo_other h h1 h2).1
def spEval (K : PySem.W.Frag) (w : World) : Sp := fun vs H Q _ => ∃ (H0 : Hp) (m : Addr) (A : MA) (Pf : List Fn) (keep : Bool) (E : List Ent) (s : Nat) (e : Val) (n : VEnv) (F : List Val) (T : List Task) (S' : MSt) (pr : Option (Nat × Nat)) (kl : List (Call × Addr)) (i : Nat) (d : Addr), vs = [.ref m, .int i, .ref d] ∧
  MachAt K w H0 H m A Pf keep E ⟨s + 1, F, T⟩ pr kl ∧ Den E e i ∧ EnvR H E n d ∧ evDo e n s F T = some S' ∧ F.length < 900000 ∧ T.length < 900000 ∧ ∀ H', MachAt K w H0 H' m A Pf keep E S' pr kl → Q .non H'
theorem sc_eval : FnScope ["self", "expression", "names", "items", "word", "parts", "part"] ["self", "expression", "names"] (defScope s_Machine_evaluate) := ⟨rfl, rfl, rfl, by decide +kernel, rfl, by decide +kernel, by decide +kernel⟩
theorem inV_plain (k : Str) : inV (.str k) [.str "same", .str "word", .str "head", .str "tail", .str "join"] = decide (k ∈ plainW) := by
  have e : inV (.str k) [.str "same", .str "word", .str "head", .str "tail", .str "join"] = (plainW.any fun y => decide (y = k)) := rfl
  rw [e]
  by_cases h : k ∈ plainW
  · rw [decide_eq_true h]
    exact List.any_eq_true.mpr ⟨k, h, decide_eq_true rfl⟩
  · rw [decide_eq_false h]
    exact List.any_eq_false.mpr fun y hy z => h (of_decide_eq_true z ▸ hy)
theorem eval_rev {m : Addr} {A : MA} {H0 H : Hp} {Pf : List Fn} {keep : Bool} {E : List Ent} {s : Nat} {F : List Val} {Td : List Task} {pr : Option (Nat × Nat)} {kl : List (Call × Addr)} {n : VEnv} {d q : Addr} {ns : List Nat} {l : List Val} {x1 x3 x4 x6 : Option V} {D : Ends}
    (T : Txt K mg) (Z : MachAt K w H0 H m A Pf keep E ⟨s, F, Td⟩ pr kl) (hq : H q = some (.lst (ns.map vi))) (qto : q ≠ A.to) (en : EnvR H E n d) (dt : Dens E l ns) (l12 : l.length ≤ 12) (lT : Td.length < 900001)
    (k : ∀ H', MachAt K w H0 H' m A Pf keep E ⟨s, F, l.map (Task.ev · n) ++ Td⟩ pr kl → ∀ σ, D.nx σ H') :
    (tFor (iRev K (tCons (tVar 5) tNil)) (gName 6) (tDrop (tBM K "list" rAppend (tFld K (tVar 0) "todo") (tCons (tTup (tCons (tC (.str "eval")) (tCons (tVar 6) (tCons (tVar 2) tNil)))) tNil)))) D [some (.ref m), x1, some (.ref d), x3, x4, some (.ref q), x6] H := by
  have l6 := line6
  have ln : ns.length = l.length := (Paired.length dt).symm
  refine ⟨_, rfl, q, _, rfl, SqL.of hq, RT.for_Itv (K := K) (a := q) (xs := ns.map vi) (fun i σ' H5 => ∃ y6 : Option V, σ' = [some (.ref m), x1, some (.ref d), x3, x4, some (.ref q), y6] ∧ MachAt K w H0 H5 m A Pf keep E ⟨s, F, (l.drop (l.length - i)).map (Task.ev · n) ++ Td⟩ pr kl ∧ H5 q = some (.lst (ns.map vi)) ∧ EnvR H5 E n d)
    ⟨x6, rfl, ?_, hq, en⟩ (fun i σ' H5 z => by obtain ⟨_, _, _, z, _⟩ := z; exact SqL.of z) ?_ ?_⟩
  · rw [Nat.sub_zero, List.drop_length]
    exact Z
  · rintro i z σ' H5 hi hz ⟨y6, rfl, Z5, hq5, en5⟩
    rw [List.length_map, ln] at hi hz
    have hj : l.length - 1 - i < l.length := by omega
    obtain ⟨a, ha, da⟩ := paired_get dt (List.getElem?_eq_getElem hj)
    rw [List.getElem?_map, ha] at hz
    have hz : vi a = z := Option.some.inj hz
    subst hz
    obtain ⟨pv5, b5, _⟩ := Z5.ob
    obtain ⟨vs5, e5, _⟩ := Z5.to
    refine ⟨_, rfl, m, CM K, A.dx, _, _, rfl, b5, T.clM, T.m9, mf_to A keep pv5 s, .inl ⟨rfl, _, SqL.of e5⟩, _, rfl, _, rfl, (by show 3 ≤ sizeLine; omega), fun p hp => ?_⟩
    have Z6 := Z5.same (Same.laid (o := HO.tup [V.str "eval", vi a, .ref d]) hp)
    have en6 := en5.keeps (Kq.same (Same.laid (o := HO.tup [V.str "eval", vi a, .ref d]) hp)) (Ext.refl E)
    obtain ⟨xs, f1, f2, Z7⟩ := Z6.push (tk := .ev l[l.length - 1 - i] n) (v := .ref p) ⟨p, d, a, rfl, upd_same, da, en6⟩ fun _ => rfl
    have hl : ((l.drop (l.length - i)).map (Task.ev · n)).length ≤ 12 := by
      rw [List.length_map, List.length_drop]
      omega
    refine ⟨A.to, xs, _, rfl, rfl, f1, ?_, _, rfl, ?_, (upd_ne qto).trans (Same.laid hp _ _ hq5), en6.keeps (Kq.lst f1) (Ext.refl E)⟩
    · have f2 : xs.length = ((l.drop (l.length - i)).map (Task.ev · n) ++ Td).length := f2
      rw [List.length_append] at f2
      omega
    · have ed : l.drop (l.length - (i + 1)) = l[l.length - 1 - i] :: l.drop (l.length - i) := by
        have e1 : l.length - (i + 1) = l.length - 1 - i := by omega
        have e2 : l.length - i = l.length - 1 - i + 1 := by omega
        rw [e1, e2]
        exact List.drop_eq_getElem_cons hj
      rw [ed]
      exact Z7
  · rintro σ' H5 ⟨y6, rfl, Z5, hq5, en5⟩
    rw [List.length_map, ln, Nat.sub_self, List.drop_zero] at Z5
    exact k _ Z5 _
theorem ok_eval {f : Addr} {fd : FuncData} (F : FnS K s_Machine_evaluate "evaluate" "Machine.evaluate" f fd) (T : Txt K mg) (gW : Mth P w K mg base (CS K) "is_word" 1 ["self", "number"] (spIsWord K w)) (gI : Mth P w K mg base (CS K) "items_of" 1 ["self", "number"] (spItems K w)) : FnOk P w K mg base CX0 2 f fd ["self", "expression", "names"] (spEval K w) := by
  obtain ⟨fW, fdW, GW, mW, bW⟩ := gW
  obtain ⟨fI, fdI, GI, mI, bI⟩ := gI
  refine ok0 F sc_eval (fun vs H Q E h => ?_) (fun cdv A0 outer s0 H vs Q E0 hr h => ?_)
  · obtain ⟨H0, m, A, Pf, keep, E, s, e, n, Fd, Td, S', pr, kl, i, d, rfl, _⟩ := h
    rfl
  · obtain ⟨H0, m, A, Pf, keep, E, s, e, n, Fd, Td, S', pr, kl, i, d, rfl, Z, de, en, ed, lF, lT, k⟩ := h
    refine ⟨_, (pss_cons (ps_if (pt_val (pe_meth (pe_fld (pv 0) rfl) T.clS mW GW hr bW .nil pass0 (pa_cons (pv 1) pa_nil)))
 (pss_cons (ps_expr (pe_bm PySem.F.plainAttrs_list PySem.F.slot_list_append PySem.F.type_list_append mt_append (pe_fld (pv 0) rfl) (pa_cons (pe_dget (hu_of hr) (pv 2) (pv 1) (fun _ _ => rfl)) pa_nil)))
 (pss_one (ps_retN)))
 pss_nil)
 (pss_cons (ps_set (i := 3) sc_eval.nd rfl (.inl rfl) (pe_meth (pe_fld (pv 0) rfl) T.clS mI GI hr bI .nil pass0 (pa_cons (pv 1) pa_nil)))
 (pss_cons (ps_set (i := 4) sc_eval.nd rfl (.inl rfl) (pe_ix ix_list (pe_fld (pe_fld (pv 0) rfl) rfl) (pe_ix ix_list (pv 3) pe_int (fun _ _ => rfl)) (fun _ _ => rfl)))
 (pss_one (ps_if (pt_cmpR op_eq (pv 4) pe_str (nomark _))
 (pss_one (ps_expr (pe_bm PySem.F.plainAttrs_list PySem.F.slot_list_append PySem.F.type_list_append mt_append (pe_fld (pv 0) rfl) (pa_cons (pe_ix ix_list (pv 3) pe_int (fun _ _ => rfl)) pa_nil))))
 (pss_one (ps_if (pt_cmpR op_eq (pv 4) pe_str (nomark _))
 (pss_cons (ps_expr (pe_bm PySem.F.plainAttrs_list PySem.F.slot_list_append PySem.F.type_list_append mt_append (pe_fld (pv 0) rfl) (pa_cons (pe_tup (pa_cons pe_str (pa_cons (pe_ix ix_list (pv 3) pe_int (fun _ _ => rfl)) (pa_cons (pe_ix ix_list (pv 3) pe_int (fun _ _ => rfl)) (pa_cons (pv 2) pa_nil))))) pa_nil)))
 (pss_one (ps_expr (pe_bm PySem.F.plainAttrs_list PySem.F.slot_list_append PySem.F.type_list_append mt_append (pe_fld (pv 0) rfl) (pa_cons (pe_tup (pa_cons pe_str (pa_cons (pe_ix ix_list (pv 3) pe_int (fun _ _ => rfl)) (pa_cons (pv 2) pa_nil)))) pa_nil)))))
 (pss_cons (ps_set (i := 5) sc_eval.nd rfl (.inl rfl) (pe_slice sl_list (pv 3) (po_some pe_int) po_none))
 (pss_cons (ps_expr (pe_bm PySem.F.plainAttrs_list PySem.F.slot_list_append PySem.F.type_list_append mt_append (pe_fld (pv 0) rfl) (pa_cons (pe_ifExp (pt_cmpR op_in_seq (pv 4) (pe_glob (by rfl) T.gP (v := .ref (He.ga K "PLAIN")) rfl) (by with_unfolding_all rfl)) (pe_tup (pa_cons pe_str (pa_cons (pv 4) pa_nil))) (pe_tup (pa_cons pe_str (pa_cons (pe_ix ix_list (pv 3) pe_int (fun _ _ => rfl)) (pa_cons (pe_callB call_len_seq (by rfl) T.len b_len (pa_cons (pv 5) pa_nil)) pa_nil))))) pa_nil)))
 (pss_one (ps_for PassesOwn.never rfl (pi_reversed (by rfl) T.rev (pa_cons (pv 5) pa_nil)) (pg_name (i := 6) sc_eval.nd rfl (.inl rfl))
 (pss_one (ps_expr (pe_bm PySem.F.plainAttrs_list PySem.F.slot_list_append PySem.F.type_list_append mt_append (pe_fld (pv 0) rfl) (pa_cons (pe_tup (pa_cons pe_str (pa_cons (pv 6) (pa_cons (pv 2) pa_nil)))) pa_nil))))))))))))))), ?_⟩
    have l6 := line6
    obtain ⟨pv0, e1, _⟩ := Z.ob
    refine ⟨_, rfl, m, CM K, A.dx, _, _, rfl, e1, T.clM, T.m1, mf_st A keep pv0 (s + 1), A.st, A.D.dx, _, rfl, Z.st.ob, sf_is A.D, _, rfl, A.st, A.D, E, e, i, rfl, Z.st, de, _, rfl, ?_⟩
    cases e with
    | nil => cases ed
    | w x =>
      have ed : (match lk n x with
        | some v => some (⟨s + 1, v :: Fd, Td⟩ : MSt)
        | none => none) = some S' := ed
      cases hv : lk n x with
      | none =>
        rw [hv] at ed
        cases ed
      | some v =>
        rw [hv] at ed
        have ed := Option.some.inj ed
        subst ed
        obtain ⟨kvs, j, h1, h2, h3⟩ := en.val Z.st.nd de hv
        obtain ⟨xs, f1, f2, Z2⟩ := Z.pushF h3
        refine iteT ⟨_, rfl, m, CM K, A.dx, _, _, rfl, e1, T.clM, T.m8, mf_fo A keep pv0 (s + 1), .inl ⟨rfl, _, SqL.of f1⟩, _, rfl, _, rfl, d, _, rfl, .inl ⟨kvs, .inl (i : Int), .inl h1, rfl, h2.symm⟩, A.fo, xs, _, rfl, rfl, f1, by omega, ?_⟩
        exact k _ Z2
    | cons h t =>
      cases h with
      | nil => cases ed
      | cons _ _ => cases ed
      | w kw =>
        refine iteF ⟨_, rfl, m, CM K, A.dx, _, _, rfl, e1, T.clM, T.m1, mf_st A keep pv0 (s + 1), A.st, A.D.dx, _, rfl, Z.st.ob, sf_items A.D, _, rfl, A.st, A.D, E, _, i, rfl, Z.st, de, rfl, ?_, fun p ns hp dn => ?_⟩
        · have := evDo_len ed
          show t.items.length + 1 ≤ 1000000
          omega
        have Z1 := Z.same (Same.laid (o := HO.lst (ns.map vi)) hp)
        cases dn with
        | @cons _ a0 _ ns dk dt =>
        have dk : Den E (.w kw) a0 := dk
        obtain ⟨pv1, b1, _⟩ := Z1.ob
        obtain ⟨es, v0, c1, c2, c3⟩ := Z1.st.entry dk
        have c3 : v0 = .str kw := by
          rcases c3 with ⟨z, e, _, h⟩ | ⟨e, _⟩ | ⟨_, _, _, _, _, e, _⟩
          · cases e
            exact h
          · cases e
          · cases e
        subst c3
        have hp1 : upd H p (.lst ((a0 :: ns).map vi)) p = some (.lst ((a0 :: ns).map vi)) := upd_same
        have en1 := en.keeps (Kq.same (Same.laid (o := HO.lst ((a0 :: ns).map vi)) hp)) (Ext.refl E)
        have pto : p ≠ A.to := fun z => by
          obtain ⟨vs, e, _⟩ := Z.to
          rw [← z, hp] at e
          cases e
        generalize upd H p (.lst ((a0 :: ns).map vi)) = H1 at Z1 b1 c1 hp1 en1 ⊢
        refine ⟨_, rfl, m, CM K, A.dx, _, _, rfl, b1, T.clM, T.m1, mf_st A keep pv1 (s + 1), A.st, CS K, A.D.dx, _, _, rfl, Z1.st.ob, T.clS, T.s1, sf_en A.D, _, rfl, p, _, _, vi a0, rfl, rfl, SqL.of hp1, atI_nat (j := 0) rfl, A.D.en, es, _, _, rfl, rfl, SqL.of c1, atI_nat c2, ?_⟩
        refine ⟨_, rfl, rfl, _, rfl, ?_⟩
        by_cases kq : kw = "quote"
        · subst kq
          rw [dec_strT]
          obtain ⟨v, rfl, rfl⟩ := evDo_quote ed
          cases dt with
          | @cons _ a1 _ ns d1 dt =>
          obtain ⟨xs, f1, f2, Z2⟩ := Z1.pushF d1
          refine iteT ⟨_, rfl, m, CM K, A.dx, _, _, rfl, b1, T.clM, T.m8, mf_fo A keep pv1 (s + 1), .inl ⟨rfl, _, SqL.of f1⟩, _, rfl, p, _, _, vi a1, rfl, rfl, SqL.of hp1, atI_nat (j := 1) rfl, A.fo, xs, _, rfl, rfl, f1, by omega, k _ Z2⟩
        · rw [dec_str2 kq]
          refine iteF ⟨_, rfl, rfl, _, rfl, ?_⟩
          by_cases ki : kw = "if"
          · subst ki
            rw [dec_strT]
            obtain ⟨ea, eb, ec, rfl, rfl⟩ := evDo_if ed
            cases dt with
            | @cons _ a1 _ ns d1 dt =>
            cases dt with
            | @cons _ a2 _ ns d2 dt =>
            cases dt with
            | @cons _ a3 _ ns d3 dt =>
            obtain ⟨xs0, g1, _, _⟩ := Z1.pushF d1
            obtain ⟨vs, et, _⟩ := Z1.to
            refine iteT ⟨_, rfl, m, CM K, A.dx, _, _, rfl, b1, T.clM, T.m9, mf_to A keep pv1 (s + 1), .inl ⟨rfl, _, SqL.of et⟩, _, rfl, p, _, _, vi a2, rfl, rfl, SqL.of hp1, atI_nat (j := 2) rfl, _, rfl, p, _, _, vi a3, rfl, rfl, SqL.of hp1, atI_nat (j := 3) rfl, _, rfl, (by show 4 ≤ sizeLine; omega), fun q hq => ?_⟩
            have Z2 := Z1.same (Same.laid (o := HO.tup [V.str "if", vi a2, vi a3, .ref d]) hq)
            have en2 := en1.keeps (Kq.same (Same.laid (o := HO.tup [V.str "if", vi a2, vi a3, .ref d]) hq)) (Ext.refl E)
            obtain ⟨xs, f1, f2, Z3⟩ := Z2.push (tk := .ite eb ec n) (v := .ref q) ⟨q, d, a2, a3, rfl, upd_same, d2, d3, en2⟩ fun _ => rfl
            have hp2 := Same.laid (o := HO.tup [V.str "if", vi a2, vi a3, .ref d]) hq _ _ hp1
            refine ⟨A.to, xs, _, rfl, rfl, f1, by omega, ?_⟩
            have kq3 : Kq _ _ := Kq.lst (ys := xs ++ [V.ref q]) f1
            have en3 := en2.keeps kq3 (Ext.refl E)
            have hp3 := (upd_ne (o := HO.lst (xs ++ [V.ref q])) pto).trans hp2
            generalize upd (upd H1 q (HO.tup [V.str "if", vi a2, vi a3, .ref d])) A.to (.lst (xs ++ [V.ref q])) = H3 at Z3 en3 hp3 ⊢
            obtain ⟨pv3, b3, _⟩ := Z3.ob
            obtain ⟨vs3, et3, _⟩ := Z3.to
            refine ⟨_, rfl, m, CM K, A.dx, _, _, rfl, b3, T.clM, T.m9, mf_to A keep pv3 (s + 1), .inl ⟨rfl, _, SqL.of et3⟩, _, rfl, p, _, _, vi a1, rfl, rfl, SqL.of hp3, atI_nat (j := 1) rfl, _, rfl, (by show 3 ≤ sizeLine; omega), fun q2 hq2 => ?_⟩
            have Z4 := Z3.same (Same.laid (o := HO.tup [V.str "eval", vi a1, .ref d]) hq2)
            have en4 := en3.keeps (Kq.same (Same.laid (o := HO.tup [V.str "eval", vi a1, .ref d]) hq2)) (Ext.refl E)
            obtain ⟨xs4, f3, f4, Z5⟩ := Z4.push (tk := .ev ea n) (v := .ref q2) ⟨q2, d, a1, rfl, upd_same, d1, en4⟩ fun _ => rfl
            exact ⟨A.to, xs4, _, rfl, rfl, f3, by simp only [List.length_cons] at f4; omega, k _ Z5⟩
          · rw [dec_str2 ki]
            obtain ⟨l12, rfl⟩ := evDo_other ed kq ki
            refine iteF ⟨_, rfl, _, rfl, p, _, rfl, SqL.of hp1, fun q hq => ?_⟩
            rw [List.map_cons, cut1]
            have hq2 : upd H1 q (.lst (ns.map vi)) q = some (.lst (ns.map vi)) := upd_same
            have hp2 := Same.laid (o := HO.lst (ns.map vi)) hq _ _ hp1
            have Z2 := Z1.same (Same.laid (o := HO.lst (ns.map vi)) hq)
            have en2 := en1.keeps (Kq.same (Same.laid (o := HO.lst (ns.map vi)) hq)) (Ext.refl E)
            have qto : q ≠ A.to := fun z => by
              obtain ⟨vs, e, _⟩ := Z1.to
              rw [← z, hq] at e
              cases e
            generalize upd H1 q (.lst (ns.map vi)) = H2 at Z2 en2 hp2 hq2 ⊢
            obtain ⟨pv3, b3, _⟩ := Z2.ob
            obtain ⟨vs3, et3, _⟩ := Z2.to
            have lns : ns.length = t.items.length := (Paired.length dt).symm
            refine ⟨_, rfl, m, CM K, A.dx, _, _, rfl, b3, T.clM, T.m9, mf_to A keep pv3 (s + 1), .inl ⟨rfl, _, SqL.of et3⟩, _, rfl, _, _, rfl, .inr (T.plT H2), rfl, rfl, _, rfl, ?_⟩
            rw [inV_plain]
            by_cases hpw : kw ∈ plainW
            · rw [decide_eq_true hpw]
              rw [if_pos hpw] at k
              refine iteT ⟨_, rfl, (by show 2 ≤ sizeLine; omega), fun r hr2 => ?_⟩
              have Z4 := Z2.same (Same.laid (o := HO.tup [V.str "do", .str kw]) hr2)
              have en4 := en2.keeps (Kq.same (Same.laid (o := HO.tup [V.str "do", .str kw]) hr2)) (Ext.refl E)
              obtain ⟨xs4, f3, f4, Z5⟩ := Z4.push (tk := .op kw) (v := .ref r) ⟨r, rfl, upd_same⟩ fun _ => rfl
              refine ⟨A.to, xs4, _, rfl, rfl, f3, by omega, ?_⟩
              exact eval_rev T Z5 ((upd_ne qto).trans (Same.laid hr2 _ _ hq2)) qto (en4.keeps (Kq.lst f3) (Ext.refl E)) dt l12 (by simp only [List.length_cons]; omega) fun H' Z' _ => k H' Z'
            · rw [decide_eq_false hpw]
              rw [if_neg hpw] at k
              refine iteF ⟨_, rfl, p, _, _, vi a0, rfl, rfl, SqL.of hp2, atI_nat (j := 0) rfl, _, rfl, q, _, rfl, .inl (SqL.of hq2), (by show 3 ≤ sizeLine; omega), fun r hr2 => ?_⟩
              rw [List.length_map, lns]
              have Z4 := Z2.same (Same.laid (o := HO.tup [V.str "call", vi a0, .int (t.items.length : Nat)]) hr2)
              have en4 := en2.keeps (Kq.same (Same.laid (o := HO.tup [V.str "call", vi a0, .int (t.items.length : Nat)]) hr2)) (Ext.refl E)
              obtain ⟨xs4, f3, f4, Z5⟩ := Z4.push (tk := .call kw t.items.length) (v := .ref r) ⟨r, a0, rfl, upd_same, dk⟩ fun _ => rfl
              refine ⟨A.to, xs4, _, rfl, rfl, f3, by omega, ?_⟩
              exact eval_rev T Z5 ((upd_ne qto).trans (Same.laid hr2 _ _ hq2)) qto (en4.keeps (Kq.lst f3) (Ext.refl E)) dt l12 (by simp only [List.length_cons]; omega) fun H' Z' _ => k H' Z'
end
end OgW
/-! OgM6: Machine.go_on. -/
namespace OgW
open PySem PySem.Spec PyProof.Rows L2 OgD Og OgT
theorem paired_take {α β : Type} {R : α → β → Prop} {l : List α} {r : List β} (h : Paired R l r) : ∀ k : Nat, Paired R (l.take k) (r.take k) := by
  induction h with
  | nil =>
    intro k
    simp
    exact .nil
  | cons a b ih =>
    intro k
    cases k with
    | zero => exact .nil
    | succ k => exact .cons a (ih k)
theorem paired_rev {α β : Type} {R : α → β → Prop} {l : List α} {r : List β} (h : Paired R l r) : Paired R l.reverse r.reverse := by
  induction h with
  | nil => exact .nil
  | cons a b ih =>
    rw [List.reverse_cons, List.reverse_cons]
    exact Paired.snoc ih a
theorem upd_cm {H : Hp} {a b : Addr} {x y : HO} (h : a ≠ b) : upd (upd H a x) b y = upd (upd H b y) a x := by
  funext c
  by_cases e1 : c = a
  · subst e1
    rw [upd_ne h, upd_same, upd_same]
  · by_cases e2 : c = b
    · subst e2
      rw [upd_same, upd_ne e1, upd_same]
    · rw [upd_ne e2, upd_ne e1, upd_ne e1, upd_ne e2]
theorem fnOf_mem {f : Str} {g : Fn} : ∀ {P : List Fn}, fnOf P f = some g → g ∈ P
  | [], h => by cases h
  | a :: P, h => by
    unfold fnOf at h
    by_cases e : a.name = f
    · rw [if_pos e] at h
      have h := Option.some.inj h
      subst h
      exact List.mem_cons_self
    · rw [if_neg e] at h
      exact List.mem_cons_of_mem _ (fnOf_mem h)
def PGood (P : List Fn) : Prop := ∀ g ∈ P, g.ps.Nodup ∧ g.ps.length ≤ 12
theorem cut_last (l : List Nat) (k : Nat) (h : k ≤ l.length) : cutV (l.map vi).reverse (some (((l.map vi).reverse.length : Nat) - (k : Nat) : Int)) none = ((l.take k).reverse).map vi := by
  have e : ((((l.map vi).reverse.length : Nat) : Int) - (k : Nat)) = ((l.length - k : Nat) : Int) := by
    rw [List.length_reverse, List.length_map]
    omega
  rw [e]
  unfold cutV
  have e1 : HT.sIx (l.map vi).reverse.length 0 (some ((l.length - k : Nat) : Int)) = l.length - k := by
    rw [List.length_reverse, List.length_map, HT.sIx_nat]
    omega
  have e2 : HT.sIx (l.map vi).reverse.length (l.map vi).reverse.length none = l.length := by simp [HT.sIx]
  rw [e1, e2, ← List.map_reverse, ← List.map_drop, ← List.map_take]
  congr 1
  rw [List.drop_reverse, show l.length - (l.length - k) = k by omega]
  refine List.take_of_length_le ?_
  rw [List.length_reverse, List.length_take]
  omega
/-- the machine's bounds -/
structure Bnd (C lim : Nat) (E : List Ent) (kl : List (Call × Addr)) (S : MSt) : Prop where
  n : E.length + kl.length + nops S.todo ≤ C + S.steps
  b : Bd S
  s : S.steps ≤ lim
section
variable {P : Program} {w : World} {K : PySem.W.Frag} {mg : Str → Option Value} {base : Heap}
def spGo (K : PySem.W.Frag) (w : World) : Sp := fun vs H Q _ => ∃ (H0 : Hp) (m : Addr) (A : MA) (Pf : List Fn) (keep : Bool) (E : List Ent) (S S' : MSt) (pr pr' : Option (Nat × Nat)) (kl : List (Call × Addr)) (n lim C : Nat), vs = [.ref m, .int lim] ∧
  MachAt K w H0 H m A Pf keep E S pr kl ∧ PGood Pf ∧ GoesN keep Pf lim n S pr S' pr' ∧ Bnd C lim E kl S ∧ C ≤ 700000 ∧ lim ≤ 40000 ∧
  ∀ (H' : Hp) (E' : List Ent) (kl' : List (Call × Addr)), MachAt K w H0 H' m A Pf keep E' S' pr' kl' → Ext E E' → Bnd C lim E' kl' S' → Q .non H'
theorem opDo_mem {k : Str} {F F' : List Val} (h : opDo k F = some F') : k ∈ plainW := by
  unfold opDo at h
  by_cases h1 : k = "head"
  · subst h1; decide
  · rw [if_neg h1] at h
    by_cases h2 : k = "tail"
    · subst h2; decide
    · rw [if_neg h2] at h
      by_cases h3 : k = "word"
      · subst h3; decide
      · rw [if_neg h3] at h
        by_cases h4 : k = "same"
        · subst h4; decide
        · rw [if_neg h4] at h
          by_cases h5 : k = "join"
          · subst h5; decide
          · rw [if_neg h5] at h
            cases h
theorem sc_goon : FnScope ["self", "limit", "task", "chosen", "many", "numbers", "_"] ["self", "limit"] (defScope s_Machine_go_on) := ⟨rfl, rfl, rfl, by decide +kernel, rfl, by decide +kernel, by decide +kernel⟩
theorem ok_goon {f : Addr} {fd : FuncData} (F : FnS K s_Machine_go_on "go_on" "Machine.go_on" f fd) (T : Txt K mg) (gE : Mth P w K mg base (CM K) "evaluate" 2 ["self", "expression", "names"] (spEval K w)) (gD : Mth P w K mg base (CM K) "do" 3 ["self", "word"] (spDo K w))
    (gB : Mth P w K mg base (CM K) "begin" 1 ["self", "name", "numbers"] (spBegin K w)) : FnOk P w K mg base CX0 4 f fd ["self", "limit"] (spGo K w) := by
  obtain ⟨fE, fdE, GE, mE, bE⟩ := gE
  obtain ⟨fD, fdD, GD, mD, bD⟩ := gD
  obtain ⟨fB, fdB, GB, mB, bB⟩ := gB
  refine ok0 F sc_goon (fun vs H Q E h => ?_) (fun cdv A0 outer s0 H vs Q E0 hr h => ?_)
  · obtain ⟨H0, m, A, Pf, keep, E, S, S', pr, pr', kl, n, lim, C, rfl, _⟩ := h
    rfl
  · obtain ⟨H0, m, A, Pf, keep, E, S, S', pr, pr', kl, n, lim, C, rfl, Z, gp, gn, bn, hC, hL, k⟩ := h
    refine ⟨_, (pss_one (ps_while PassesOwn.never (PW.pt (pw_and (pt_cmpR op_gt (pe_callB call_len_seq (by rfl) T.len b_len (pa_cons (pe_fld (pv 0) rfl) pa_nil)) pe_int (nomark _)) (pw_and1 (pt_cmp (pc_isN (pe_fld (pv 0) rfl)) rfl))))
 (pss_cons (ps_set (i := 2) sc_goon.nd rfl (.inl rfl) (pe_bm0 PySem.F.plainAttrs_list PySem.F.slot_list_pop PySem.F.type_list_pop mt_pop (pe_fld (pv 0) rfl)))
 (pss_one (ps_if (pt_cmpR op_eq (pe_ix ix_tup (pv 2) pe_int (fun _ _ => rfl)) pe_str (nomark _))
 (pss_cons (ps_if (pt_cmpR op_eq (pe_fld (pv 0) rfl) (pv 1) (nomark _))
 (pss_cons (ps_expr (pe_bm PySem.F.plainAttrs_list PySem.F.slot_list_append PySem.F.type_list_append mt_append (pe_fld (pv 0) rfl) (pa_cons (pv 2) pa_nil)))
 (pss_one (ps_retN)))
 pss_nil)
 (pss_cons (ps_fld (pv 0) (pe_op op_add (pe_fld (pv 0) rfl) pe_int) rfl)
 (pss_one (ps_expr (pe_meth (pv 0) T.clM mE GE (hr.mono (by decide)) bE .nil pass0 (pa_cons (pe_ix ix_tup (pv 2) pe_int (fun _ _ => rfl)) (pa_cons (pe_ix ix_tup (pv 2) pe_int (fun _ _ => rfl)) pa_nil)))))))
 (pss_one (ps_if (pt_cmpR op_eq (pe_ix ix_tup (pv 2) pe_int (fun _ _ => rfl)) pe_str (nomark _))
 (pss_one (ps_expr (pe_meth (pv 0) T.clM mD GD hr bD .nil pass0 (pa_cons (pe_ix ix_tup (pv 2) pe_int (fun _ _ => rfl)) pa_nil))))
 (pss_one (ps_if (pt_cmpR op_eq (pe_ix ix_tup (pv 2) pe_int (fun _ _ => rfl)) pe_str (nomark _))
 (pss_cons (ps_set (i := 3) sc_goon.nd rfl (.inl rfl) (pe_ifExp (pt_cmpR op_eq (pe_bm0 PySem.F.plainAttrs_list PySem.F.slot_list_pop PySem.F.type_list_pop mt_pop (pe_fld (pv 0) rfl)) (pe_gi (by rfl) T.empty) (nomark _)) (pe_ix ix_tup (pv 2) pe_int (fun _ _ => rfl)) (pe_ix ix_tup (pv 2) pe_int (fun _ _ => rfl))))
 (pss_one (ps_expr (pe_bm PySem.F.plainAttrs_list PySem.F.slot_list_append PySem.F.type_list_append mt_append (pe_fld (pv 0) rfl) (pa_cons (pe_tup (pa_cons pe_str (pa_cons (pv 3) (pa_cons (pe_ix ix_tup (pv 2) pe_int (fun _ _ => rfl)) pa_nil)))) pa_nil)))))
 (pss_one (ps_if (pt_cmpR op_eq (pe_ix ix_tup (pv 2) pe_int (fun _ _ => rfl)) pe_str (nomark _))
 (pss_cons (ps_set (i := 4) sc_goon.nd rfl (.inl rfl) (pe_op op_sub (pe_callB call_len_seq (by rfl) T.len b_len (pa_cons (pe_fld (pv 0) rfl) pa_nil)) (pe_ix ix_tup (pv 2) pe_int (fun _ _ => rfl))))
 (pss_cons (ps_set (i := 5) sc_goon.nd rfl (.inl rfl) (pe_callTy call_tuple_of (by rfl) T.tup b_tuple (pa_cons (pe_slice sl_list (pe_fld (pv 0) rfl) (po_some (pv 4)) po_none) pa_nil)))
 (pss_cons (ps_for PassesOwn.never rfl (pi_tup (pv 5)) (pg_name (i := 6) sc_goon.nd rfl (.inl rfl))
 (pss_one (ps_expr (pe_bm0 PySem.F.plainAttrs_list PySem.F.slot_list_pop PySem.F.type_list_pop mt_pop (pe_fld (pv 0) rfl)))))
 (pss_one (ps_expr (pe_meth (pv 0) T.clM mB GB (hr.mono (by decide)) bB .nil pass0 (pa_cons (pe_ix ix_tup (pv 2) pe_int (fun _ _ => rfl)) (pa_cons (pv 5) pa_nil))))))))
 (pss_one (ps_expr (pe_bm0 PySem.F.plainAttrs_list PySem.F.slot_list_pop PySem.F.type_list_pop mt_pop (pe_mget (hu10 hr) (pe_fld (pv 0) rfl) (pe_ix ix_tup (pv 2) pe_int (fun _ _ => rfl)) (fun _ _ => rfl)))))))))))))))), ?_⟩
    have l6 := line6
    refine ⟨fun n σ H' => ∃ (S1 : MSt) (pr1 : Option (Nat × Nat)) (E1 : List Ent) (kl1 : List (Call × Addr)) (x2 x3 x4 x5 x6 : Option V), σ = [some (.ref m), some (.int lim), x2, x3, x4, x5, x6] ∧ MachAt K w H0 H' m A Pf keep E1 S1 pr1 kl1 ∧ GoesN keep Pf lim n S1 pr1 S' pr' ∧ Ext E E1 ∧ Bnd C lim E1 kl1 S1,
      ⟨n, S, pr, E, kl, none, none, none, none, none, rfl, Z, gn, Ext.refl E, bn⟩, ?_⟩
    rintro n σ H1 ⟨⟨s, Fd, Td⟩, pr1, E1, kl1, x2, x3, x4, x5, x6, rfl, Z, gn, xE, bn⟩
    obtain ⟨pv, e1, e2⟩ := Z.ob
    obtain ⟨tvs, et, pt⟩ := Z.to
    have lt := phi_len Td
    have bt : phi Td ≤ 4 + 20 * s := bn.b.t
    have bf : Fd.length ≤ s := bn.b.f
    have bs : s ≤ lim := bn.s
    have bc : E1.length + kl1.length + nops Td ≤ C + s := bn.n
    refine ⟨_, rfl, m, CM K, A.dx, _, _, rfl, e1, T.clM, T.m9, mf_to A keep pv s, A.to, _, rfl, .inl (SqL.of et), _, _, rfl, rfl, _, rfl, ?_⟩
    cases Td with
    | nil =>
      cases pt
      refine iteF (iteF ?_)
      cases n with
      | zero =>
        obtain ⟨_, rfl, rfl⟩ := gn
        exact k _ _ _ Z xE bn
      | succ n => exact absurd (.inl rfl) gn.1
    | cons t Td =>
    cases pt with
    | @cons _ v _ tvs tr pt =>
    have lt : Td.length + 1 ≤ 4 + 20 * s := Nat.le_trans lt bt
    have hd : decide ((0 : Int) < ((v :: tvs).reverse.length : Nat)) = true := decide_eq_true (by rw [List.length_reverse, List.length_cons]; omega)
    rw [hd]
    refine iteT ⟨_, rfl, m, CM K, A.dx, _, _, rfl, e1, T.clM, T.m6, mf_pr A keep pv s, _, rfl, ?_⟩
    cases pr1 with
    | some q =>
      obtain ⟨x, y⟩ := q
      obtain ⟨p, rfl, _⟩ := e2
      rw [decide_eq_false (show ¬ V.ref p = V.non from fun z => by cases z)]
      refine iteF ?_
      cases n with
      | zero =>
        obtain ⟨_, rfl, rfl⟩ := gn
        exact k _ _ _ Z xE bn
      | succ n => exact absurd (.inr (.inl (by intro z; cases z))) gn.1
    | none =>
    have e2 : pv = .non := e2
    subst e2
    rw [decide_eq_true (rfl : V.non = V.non)]
    refine iteT ⟨fun σ' H' => ∃ m', m' < n ∧ (∃ (S1 : MSt) (pr1 : Option (Nat × Nat)) (E1 : List Ent) (kl1 : List (Call × Addr)) (x2 x3 x4 x5 x6 : Option V), σ' = [some (.ref m), some (.int lim), x2, x3, x4, x5, x6] ∧ MachAt K w H0 H' m A Pf keep E1 S1 pr1 kl1 ∧ GoesN keep Pf lim m' S1 pr1 S' pr' ∧ Ext E E1 ∧ Bnd C lim E1 kl1 S1), fun _ _ h => h, ?_⟩
    refine ⟨_, rfl, m, CM K, A.dx, _, _, rfl, e1, T.clM, T.m9, mf_to A keep .non s, .inl ⟨rfl, _, SqL.of et⟩, A.to, _, _, rfl, rfl, et, rev_pop, ?_⟩
    rw [rev_drop]
    have kq1 : Kq H1 (upd H1 A.to (.lst tvs.reverse)) := Kq.lst et
    have hret : ∀ {σ : L2.St} {H2 : Hp} {S1 : MSt} {E2 : List Ent} {kl2 : List (Call × Addr)} {pr2 : Option (Nat × Nat)} {x2 x3 x4 x5 x6 : Option V} {S0 : MSt}, σ = [some (.ref m), some (.int lim), x2, x3, x4, x5, x6] → ¬ Stop lim S0 none → mStep keep Pf S0 = some S1 → GoesN keep Pf lim n S0 none S' pr' →
        pairOf keep S0 = pr2 → MachAt K w H0 H2 m A Pf keep E2 S1 pr2 kl2 → Ext E1 E2 → Bnd C lim E2 kl2 S1 → ∃ m', m' < n ∧ (∃ (S1 : MSt) (pr1 : Option (Nat × Nat)) (E1 : List Ent) (kl1 : List (Call × Addr)) (x2 x3 x4 x5 x6 : Option V), σ = [some (.ref m), some (.int lim), x2, x3, x4, x5, x6] ∧ MachAt K w H0 H2 m A Pf keep E1 S1 pr1 kl1 ∧ GoesN keep Pf lim m' S1 pr1 S' pr' ∧ Ext E E1 ∧ Bnd C lim E1 kl1 S1) := by
      intro σ H2 S1 E2 kl2 pr2 y2 y3 y4 y5 y6 S0 es ns st gn' ep hz x2' b2
      subst ep
      cases n with
      | zero => exact absurd gn'.1 ns
      | succ n =>
        obtain ⟨_, S1', st', g⟩ := gn'
        rw [st] at st'
        have st' := Option.some.inj st'
        subst st'
        exact ⟨n, Nat.lt_succ_self n, S1, _, E2, kl2, y2, y3, y4, y5, y6, es, hz, g, xE.trans x2', b2⟩
    have hstep : ¬ Stop lim ⟨s, Fd, t :: Td⟩ none → ∃ S1, mStep keep Pf ⟨s, Fd, t :: Td⟩ = some S1 := fun ns => by
      cases n with
      | zero => exact absurd gn.1 ns
      | succ n =>
        obtain ⟨_, S1', st', g⟩ := gn
        exact ⟨S1', st'⟩
    have nev : isEv ⟨s, Fd, t :: Td⟩ = false → ¬ Stop lim ⟨s, Fd, t :: Td⟩ none := fun h z => by
      rcases z with z | z | ⟨z, _⟩
      · cases z
      · exact z rfl
      · rw [h] at z
        cases z
    cases t with
    | ev e n' =>
      obtain ⟨a, d, i, rfl, ha, de, en⟩ := tr
      have Zp := Z.todo (T' := Td) pt fun _ => rfl
      have ha1 := kq1.1 _ _ ha
      have en1 := en.keeps kq1 (Ext.refl E1)
      have eto : upd H1 A.to (.lst tvs.reverse) A.to = some (.lst tvs.reverse) := upd_same
      have tk1 : TaskR (upd H1 A.to (.lst tvs.reverse)) E1 (.ev e n') (.ref a) := ⟨a, d, i, rfl, ha1, de, en1⟩
      generalize upd H1 A.to (.lst tvs.reverse) = H2 at Zp ha1 en1 eto tk1 ⊢
      obtain ⟨pv2, b2, b2'⟩ := Zp.ob
      have b2' : pv2 = .non := b2'
      subst b2'
      refine ⟨_, rfl, a, _, _, .str "eval", rfl, rfl, SqT.of ha1, atI_nat (j := 0) rfl, rfl, _, rfl, iteT ?_⟩
      refine ⟨_, rfl, m, CM K, A.dx, _, _, rfl, b2, T.clM, T.m7, mf_sp A keep .non s, _, rfl, rfl, _, rfl, ?_⟩
      by_cases hs : s = lim
      · subst hs
        rw [decide_eq_true rfl]
        obtain ⟨xs, f1, f2, Z3⟩ := Zp.push tk1 fun _ => rfl
        refine iteT ⟨_, rfl, m, CM K, A.dx, _, _, rfl, b2, T.clM, T.m9, mf_to A keep .non s, .inl ⟨rfl, _, SqL.of f1⟩, _, rfl, A.to, xs, _, rfl, rfl, f1, by omega, ?_⟩
        cases n with
        | zero =>
          obtain ⟨_, rfl, rfl⟩ := gn
          exact k _ _ _ Z3 xE bn
        | succ n => exact absurd (.inr (.inr ⟨rfl, rfl⟩)) gn.1
      · have ne : ¬ (V.int (s : Int) = V.int lim) := fun z => hs (by injection z with z; omega)
        rw [decide_eq_false ne]
        have ns : ¬ Stop lim ⟨s, Fd, .ev e n' :: Td⟩ none := fun z => by
          rcases z with z | z | ⟨_, z⟩
          · cases z
          · exact z rfl
          · exact hs z
        obtain ⟨S1, st⟩ := hstep ns
        have ed : evDo e n' s Fd Td = some S1 := st
        refine iteF ⟨_, rfl, m, CM K, A.dx, _, _, rfl, b2, T.clM, T.m7, mf_sp A keep .non s, _, _, rfl, rfl, _, rfl, m, CM K, A.dx, _, rfl, b2, T.clM, T.m7, (by show 9 < 1000; decide), ?_⟩
        have Z3 := Zp.attr (pv := .non) (n := s + 1) (pr' := none) rfl
        have es : putF "steps" (V.int ((s : Int) + 1)) (mf A keep .non s) = mf A keep .non (s + 1) := mf_steps A keep .non s (s + 1)
        refine ⟨_, rfl, m, A.dx, _, rfl, upd_same, mf_no2 A keep .non (s + 1), _, rfl, a, _, _, vi i, rfl, rfl, SqT.of ((upd_ne (ne_of ha1 b2 (by intro z; cases z))).trans ha1), atI_nat (j := 1) rfl, _, rfl, a, _, _, .ref d, rfl, rfl, SqT.of ((upd_ne (ne_of ha1 b2 (by intro z; cases z))).trans ha1), atI_nat (j := 2) rfl, ?_⟩
        refine ⟨H0, m, A, Pf, keep, E1, s, e, n', Fd, Td, S1, none, kl1, i, d, rfl, Z3, de, en1.keeps (Kq.ins b2) (Ext.refl E1), ed, by omega, by omega, fun H' Z' => ?_⟩
        obtain ⟨bb, nn⟩ := evDo_bd ed bf (by simp only [phi] at bt; omega)
        have s1 := evDo_steps ed
        have bc : E1.length + kl1.length + nops Td ≤ C + s := bc
        exact hret (pr2 := none) (E2 := E1) (kl2 := kl1) rfl ns st gn (by cases keep <;> rfl) Z' (Ext.refl E1) ⟨by omega, bb, by omega⟩
    | op kk =>
      obtain ⟨a, rfl, ha⟩ := tr
      have Zp := Z.todo (T' := Td) pt fun _ => rfl
      have ha1 := kq1.1 _ _ ha
      generalize upd H1 A.to (.lst tvs.reverse) = H2 at Zp ha1 ⊢
      obtain ⟨pv2, b2, _⟩ := Zp.ob
      refine ⟨_, rfl, a, _, _, .str "do", rfl, rfl, SqT.of ha1, atI_nat (j := 0) rfl, rfl, _, rfl, iteF ?_⟩
      refine ⟨_, rfl, a, _, _, .str "do", rfl, rfl, SqT.of ha1, atI_nat (j := 0) rfl, rfl, _, rfl, iteT ?_⟩
      have ns := nev rfl
      obtain ⟨S1, st⟩ := hstep ns
      have st2 : (match opDo kk Fd with
        | some F' => some (⟨s, F', Td⟩ : MSt)
        | none => none) = some S1 := st
      cases od : opDo kk Fd with
      | none =>
        rw [od] at st2
        cases st2
      | some F' =>
        rw [od] at st2
        have st2 := Option.some.inj st2
        subst st2
        have bc : E1.length + kl1.length + (1 + nops Td) ≤ C + s := bc
        refine ⟨_, rfl, m, A.dx, _, rfl, b2, mf_no3 A keep pv2 s, _, rfl, a, _, _, .str kk, rfl, rfl, SqT.of ha1, atI_nat (j := 1) rfl, ?_⟩
        refine ⟨H0, m, A, Pf, keep, E1, s, Fd, F', Td, none, kl1, kk, rfl, Zp, od, by omega, by omega, opDo_mem od, fun H' E' Z' x' l' => ?_⟩
        exact hret (pr2 := none) (E2 := E') (kl2 := kl1) rfl ns st gn (by cases keep <;> rfl) Z' x' ⟨by show E'.length + kl1.length + nops Td ≤ C + s; omega, bd_step bn.b st, bs⟩
    | ite x y n' =>
      obtain ⟨a, d, i, j, rfl, ha, dx, dy, en⟩ := tr
      have Zp := Z.todo (T' := Td) pt fun _ => rfl
      have ha1 := kq1.1 _ _ ha
      have en1 := en.keeps kq1 (Ext.refl E1)
      generalize upd H1 A.to (.lst tvs.reverse) = H2 at Zp ha1 en1 ⊢
      obtain ⟨pv2, b2, _⟩ := Zp.ob
      refine ⟨_, rfl, a, _, _, .str "if", rfl, rfl, SqT.of ha1, atI_nat (j := 0) rfl, rfl, _, rfl, iteF ?_⟩
      refine ⟨_, rfl, a, _, _, .str "if", rfl, rfl, SqT.of ha1, atI_nat (j := 0) rfl, rfl, _, rfl, iteF ?_⟩
      refine ⟨_, rfl, a, _, _, .str "if", rfl, rfl, SqT.of ha1, atI_nat (j := 0) rfl, rfl, _, rfl, iteT ?_⟩
      have ns := nev rfl
      obtain ⟨S1, st⟩ := hstep ns
      cases Fd with
      | nil => cases st
      | cons v Fd =>
      have st2 : (if v.dep ≤ 16 then some (⟨s, Fd, .ev (if v = .nil then y else x) n' :: Td⟩ : MSt) else none) = some S1 := st
      by_cases hv : v.dep ≤ 16
      · rw [if_pos hv] at st2
        have st2 := Option.some.inj st2
        subst st2
        have b1 := bd_step bn.b st
        obtain ⟨fns, ef, df⟩ := Zp.fo
        cases df with
        | @cons _ nv _ fns dv df =>
        have Zf := Zp.found (F' := Fd) df
        have kf : Kq H2 (upd H2 A.fo (.lst (fns.map vi).reverse)) := Kq.lst ef
        have ha2 := kf.1 _ _ ha1
        have en2 := en1.keeps kf (Ext.refl E1)
        refine ⟨_, rfl, m, CM K, A.dx, _, _, rfl, b2, T.clM, T.m8, mf_fo A keep pv2 s, .inl ⟨rfl, _, SqL.of ef⟩, A.fo, _, _, rfl, rfl, ef, rev_pop, rfl, _, rfl, ?_⟩
        rw [List.map_cons, rev_drop]
        generalize upd H2 A.fo (.lst (fns.map vi).reverse) = H3 at Zf ha2 en2 ⊢
        obtain ⟨pv3, b3, _⟩ := Zf.ob
        obtain ⟨vs3, et3, _⟩ := Zf.to
        have fin : ∀ (c : Nat) (e : Val), Den E1 e c → e = (if v = .nil then y else x) → ∀ p, H3 p = none → rAppend (.ref A.to) [.ref p] (upd H3 p (.tup [.str "eval", vi c, .ref d])) fun _ H' => ∃ m', m' < n ∧ (∃ (S1 : MSt) (pr1 : Option (Nat × Nat)) (E1 : List Ent) (kl1 : List (Call × Addr)) (z2 z3 z4 z5 z6 : Option V), [some (V.ref m), some (.int lim), some (.ref a), some (vi c), x4, x5, x6] = [some (.ref m), some (.int lim), z2, z3, z4, z5, z6] ∧ MachAt K w H0 H' m A Pf keep E1 S1 pr1 kl1 ∧ GoesN keep Pf lim m' S1 pr1 S' pr' ∧ Ext E E1 ∧ Bnd C lim E1 kl1 S1) := fun c e de ee p hp => by
          have Z4 := Zf.same (Same.laid (o := HO.tup [V.str "eval", vi c, .ref d]) hp)
          obtain ⟨xs, f1, f2, Z5⟩ := Z4.push (tk := .ev e n') (v := .ref p) ⟨p, d, c, rfl, upd_same, de, en2.keeps (Kq.same (Same.laid hp)) (Ext.refl E1)⟩ fun _ => rfl
          subst ee
          have f2 : xs.length = Td.length := f2
          refine ⟨A.to, xs, _, rfl, rfl, f1, by omega, ?_⟩
          obtain ⟨m', hm, S1', pr1', E1', kl1', y2, y3, y4, y5, y6, es, rest⟩ := hret (σ := [some (.ref m), some (.int lim), some (.ref a), some (vi c), x4, x5, x6]) (pr2 := none) (E2 := E1) (kl2 := kl1) rfl ns st gn (by cases keep <;> rfl) Z5 (Ext.refl E1) ⟨bc, b1, bs⟩
          exact ⟨m', hm, S1', pr1', E1', kl1', y2, y3, y4, y5, y6, es, rest⟩
        by_cases vn : v = .nil
        · subst vn
          have en0 : nv = 0 := dv
          subst en0
          refine iteT ⟨_, rfl, a, _, _, vi j, rfl, rfl, SqT.of ha2, atI_nat (j := 2) rfl, ?_⟩
          refine ⟨_, rfl, m, CM K, A.dx, _, _, rfl, b3, T.clM, T.m9, mf_to A keep pv3 s, .inl ⟨rfl, _, SqL.of et3⟩, _, rfl, _, rfl, a, _, _, .ref d, rfl, rfl, SqT.of ha2, atI_nat (j := 3) rfl, (by show 3 ≤ sizeLine; omega), fun p hp => fin j y dy (if_pos rfl).symm p hp⟩
        · have nz : nv ≠ 0 := fun z => vn (dv.inj (show Den E1 .nil nv from z))
          rw [dec_n0 nz]
          refine iteF ⟨_, rfl, a, _, _, vi i, rfl, rfl, SqT.of ha2, atI_nat (j := 1) rfl, ?_⟩
          refine ⟨_, rfl, m, CM K, A.dx, _, _, rfl, b3, T.clM, T.m9, mf_to A keep pv3 s, .inl ⟨rfl, _, SqL.of et3⟩, _, rfl, _, rfl, a, _, _, .ref d, rfl, rfl, SqT.of ha2, atI_nat (j := 3) rfl, (by show 3 ≤ sizeLine; omega), fun p hp => fin i x dx (if_neg vn).symm p hp⟩
      · rw [if_neg hv] at st2
        cases st2
    | call f kc =>
      obtain ⟨a, i, rfl, ha, di⟩ := tr
      have Zp := Z.todo (T' := Td) pt fun _ => rfl
      have ha1 := kq1.1 _ _ ha
      generalize upd H1 A.to (.lst tvs.reverse) = H2 at Zp ha1 ⊢
      obtain ⟨pv2, b2, b2'⟩ := Zp.ob
      refine ⟨_, rfl, a, _, _, .str "call", rfl, rfl, SqT.of ha1, atI_nat (j := 0) rfl, rfl, _, rfl, iteF ?_⟩
      refine ⟨_, rfl, a, _, _, .str "call", rfl, rfl, SqT.of ha1, atI_nat (j := 0) rfl, rfl, _, rfl, iteF ?_⟩
      refine ⟨_, rfl, a, _, _, .str "call", rfl, rfl, SqT.of ha1, atI_nat (j := 0) rfl, rfl, _, rfl, iteF ?_⟩
      refine ⟨_, rfl, a, _, _, .str "call", rfl, rfl, SqT.of ha1, atI_nat (j := 0) rfl, rfl, _, rfl, iteT ?_⟩
      have ns := nev rfl
      obtain ⟨S1, st⟩ := hstep ns
      have st2 : (if kc ≤ Fd.length then beginAt keep Pf ⟨f, (Fd.take kc).reverse⟩ s (Fd.drop kc) Td else none) = some S1 := st
      by_cases hk : kc ≤ Fd.length
      · rw [if_pos hk] at st2
        obtain ⟨fns, ef, df⟩ := Zp.fo
        have lf : fns.length = Fd.length := (Paired.length df).symm
        refine ⟨_, rfl, m, CM K, A.dx, _, _, rfl, b2, T.clM, T.m8, mf_fo A keep pv2 s, A.fo, _, rfl, .inl (SqL.of ef), _, rfl, a, _, _, .int (kc : Nat), rfl, rfl, SqT.of ha1, atI_nat (j := 2) rfl, _, _, rfl, rfl, ?_⟩
        refine ⟨_, rfl, m, CM K, A.dx, _, _, rfl, b2, T.clM, T.m8, mf_fo A keep pv2 s, _, rfl, _, rfl, A.fo, _, rfl, SqL.of ef, fun p hp => ?_⟩
        rw [cut_last fns kc (by omega)]
        have dnum : Dens E1 (Fd.take kc).reverse (fns.take kc).reverse := by
          exact paired_rev (paired_take df kc)
        have lnum : (fns.take kc).reverse.length = kc := by rw [List.length_reverse, List.length_take]; omega
        generalize (fns.take kc).reverse = nums at dnum lnum ⊢
        refine ⟨p, _, rfl, .inl ⟨SqL.of upd_same, fun q hq => ?_⟩⟩
        have Z4 := (Zp.same (Same.laid (o := HO.lst (nums.map vi)) hp)).same (Same.laid (o := HO.tup (nums.map vi)) hq)
        have ha4 := Same.laid (o := HO.tup (nums.map vi)) hq _ _ (Same.laid (o := HO.lst (nums.map vi)) hp _ _ ha1)
        have hq4 : upd (upd H2 p (.lst (nums.map vi))) q (.tup (nums.map vi)) q = some (.tup (nums.map vi)) := upd_same
        generalize upd (upd H2 p (.lst (nums.map vi))) q (.tup (nums.map vi)) = H4 at Z4 ha4 hq4 ⊢
        refine ⟨_, rfl, q, rfl, ⟨_, SqT.of hq4⟩, for_tup (K := K) (a := q) (xs := nums.map vi) (fun j σ' H5 => ∃ y6 : Option V, σ' = [some (.ref m), some (.int lim), some (.ref a), x3, some (.int (((fns.map vi).reverse.length : Nat) - (kc : Nat) : Int)), some (.ref q), y6] ∧ MachAt K w H0 H5 m A Pf keep E1 ⟨s, Fd.drop j, Td⟩ none kl1 ∧ H5 q = some (.tup (nums.map vi)) ∧ H5 a = some (.tup [.str "call", .int i, .int (kc : Nat)]))
          ⟨x6, rfl, Z4, hq4, ha4⟩ (fun j σ' H5 _ z => by obtain ⟨_, _, _, z, _⟩ := z; exact SqT.of z) ?_ ?_⟩
        · rintro j z σ' H5 hz ⟨y6, rfl, Z5, hq5, ha5⟩
          have hj : j < nums.length := by
            have := (List.getElem?_eq_some_iff.mp hz).1
            rw [List.length_map] at this
            exact this
          have hj2 : j < Fd.length := by omega
          have ed : Fd.drop j = Fd[j] :: Fd.drop (j + 1) := List.drop_eq_getElem_cons hj2
          rw [ed] at Z5
          obtain ⟨pv5, b5, _⟩ := Z5.ob
          obtain ⟨ns5, e5, d5⟩ := Z5.fo
          cases d5 with
          | @cons _ n0 _ ns5 d0 d5 =>
          have Z6 := Z5.found (F' := Fd.drop (j + 1)) d5
          have k5 : Kq H5 (upd H5 A.fo (.lst (ns5.map vi).reverse)) := Kq.lst e5
          refine ⟨_, rfl, m, CM K, A.dx, _, _, rfl, b5, T.clM, T.m8, mf_fo A keep pv5 s, .inl ⟨rfl, _, SqL.of e5⟩, A.fo, _, _, rfl, rfl, e5, rev_pop, ?_⟩
          rw [List.map_cons, rev_drop]
          exact ⟨_, rfl, Z6, k5.1 _ _ hq5, k5.1 _ _ ha5⟩
        · rintro σ' H5 ⟨y6, rfl, Z5, hq5, ha5⟩
          rw [List.length_map, lnum] at Z5
          obtain ⟨pv5, b5, _⟩ := Z5.ob
          refine ⟨_, rfl, m, A.dx, _, rfl, b5, mf_no1 A keep pv5 s, _, rfl, a, _, _, .int i, rfl, rfl, SqT.of ha5, atI_nat (j := 1) rfl, _, rfl, ?_⟩
          have st3 : (match fnOf Pf f with
            | some g => if g.ps.length = (Fd.take kc).reverse.length then some (⟨s, Fd.drop kc, .ev g.body (g.ps.zip (Fd.take kc).reverse) :: (if keep = true then .fin ⟨f, (Fd.take kc).reverse⟩ (s + 1) :: Td else Td)⟩ : MSt) else none
            | none => none) = some S1 := st2
          cases fo : fnOf Pf f with
          | none =>
            rw [fo] at st3
            cases st3
          | some g =>
            rw [fo] at st3
            have st3 : (if g.ps.length = (Fd.take kc).reverse.length then some (⟨s, Fd.drop kc, .ev g.body (g.ps.zip (Fd.take kc).reverse) :: (if keep = true then .fin ⟨f, (Fd.take kc).reverse⟩ (s + 1) :: Td else Td)⟩ : MSt) else none) = some S1 := st3
            by_cases hl : g.ps.length = (Fd.take kc).reverse.length
            · rw [if_pos hl] at st3
              have st3 := Option.some.inj st3
              subst st3
              obtain ⟨p1, p2⟩ := gp g (fnOf_mem fo)
              have bc : E1.length + kl1.length + (1 + nops Td) ≤ C + s := bc
              have b1 := bd_step bn.b st
              refine ⟨H0, m, A, Pf, keep, E1, s, Fd.drop kc, Td, kl1, f, (Fd.take kc).reverse, i, q, nums, g, rfl, Z5, di, hq5, dnum, fo, hl, p1, p2, by omega, by omega, fun H' kl' Z' l' => ?_⟩
              have ep : pairOf keep ⟨s, Fd, .call f kc :: Td⟩ = prAt keep ⟨f, (Fd.take kc).reverse⟩ s Td := by
                cases keep
                · rfl
                · have eb : beginsC ⟨s, Fd, .call f kc :: Td⟩ = some ⟨f, (Fd.take kc).reverse⟩ := if_pos hk
                  unfold pairOf
                  dsimp only
                  rw [eb]
                  rfl
              refine hret (E2 := E1) (kl2 := kl') rfl ns st gn ep Z' (Ext.refl E1) ⟨?_, b1, bs⟩
              have en : nops (.ev g.body (g.ps.zip (Fd.take kc).reverse) :: (if keep = true then .fin ⟨f, (Fd.take kc).reverse⟩ (s + 1) :: Td else Td)) = nops Td := by cases keep <;> rfl
              show E1.length + kl'.length + nops (.ev g.body (g.ps.zip (Fd.take kc).reverse) :: (if keep = true then .fin ⟨f, (Fd.take kc).reverse⟩ (s + 1) :: Td else Td)) ≤ C + s
              rw [en]
              omega
            · rw [if_neg hl] at st3
              cases st3
      · rw [if_neg hk] at st2
        cases st2
    | fin c k =>
      obtain ⟨a, ca, rfl, ha, na, i, ns', h1, h2, h3, h4⟩ := tr
      have hex : ∃ q ∈ kl1, q.1 = c := Classical.byContradiction fun hn => by
        have := Z.kp.all c fun q hq e => hn ⟨q, hq, e⟩
        have : (if c = c then k :: openAt c Td else openAt c Td) = [] := this
        rw [if_pos rfl] at this
        cases this
      obtain ⟨⟨c', l⟩, hq, e⟩ := hex
      have e : c' = c := e
      subst e
      obtain ⟨kvs, dm, pk⟩ := Z.kp.dm
      obtain ⟨x1, y1⟩ := (kept_val Z.st.nd h3 h4 pk).1 _ hq rfl fun r hr e => un_of Z.kp.nd1 hq hr e
      have x1 : valV kvs (keyC i ns') = some (.ref l) := x1
      have y1 : H1 l = some (.lst ((if c' = c' then k :: openAt c' Td else openAt c' Td).map vi).reverse) := y1
      rw [if_pos rfl] at y1
      obtain ⟨nl1, nl2⟩ := Z.kp.off _ hq
      have lto : A.to ≠ l := fun z => nl1 (z ▸ A.mem.2.1)
      obtain ⟨rows, e3⟩ := Z.kpO
      have ha1 := kq1.1 _ _ ha
      have g1 := kq1.1 _ _ h1
      have g2 := kq1.1 _ _ h2
      have dm1 := dm.keeps (H' := upd H1 A.to (.lst tvs.reverse)) (fun o e => by rw [e3] at e; cases e; exact (upd_ne (ne_of e3 et (by intro z; cases z))).trans e3) kq1.1
      have em : upd H1 A.to (.lst tvs.reverse) m = some (.ins (CM K) A.dx (mf A keep .non s)) := (upd_ne (ne_of e1 et (by intro z; cases z))).trans e1
      have el : upd H1 A.to (.lst tvs.reverse) l = some (.lst ((k :: openAt c' Td).map vi).reverse) := (upd_ne lto.symm).trans y1
      have key := CallR.keyV g1 g2 (c := c')
      refine ⟨_, rfl, a, _, _, .str "end", rfl, rfl, SqT.of ha1, atI_nat (j := 0) rfl, rfl, _, rfl, iteF ?_⟩
      refine ⟨_, rfl, a, _, _, .str "end", rfl, rfl, SqT.of ha1, atI_nat (j := 0) rfl, rfl, _, rfl, iteF ?_⟩
      refine ⟨_, rfl, a, _, _, .str "end", rfl, rfl, SqT.of ha1, atI_nat (j := 0) rfl, rfl, _, rfl, iteF ?_⟩
      refine ⟨_, rfl, a, _, _, .str "end", rfl, rfl, SqT.of ha1, atI_nat (j := 0) rfl, rfl, _, rfl, iteF ?_⟩
      refine ⟨_, rfl, m, CM K, A.dx, _, _, rfl, em, T.clM, T.m5, mf_kp A keep .non s, _, rfl, a, _, _, .ref ca, rfl, rfl, SqT.of ha1, atI_nat (j := 1) rfl, A.kp, kvs, keyC i ns', .ref l, rfl, dm1, key, keyC_dep i ns', keyC_num i ns', x1, .inl ⟨rfl, _, SqL.of el⟩, l, _, _, rfl, rfl, el, rev_pop, ?_⟩
      rw [List.map_cons, rev_drop, upd_cm lto]
      have ns := nev rfl
      obtain ⟨S1, st⟩ := hstep ns
      have st2 : some (⟨s, Fd, Td⟩ : MSt) = some S1 := st
      have st2 := Option.some.inj st2
      subst st2
      have Z2 := Z.keptTodo (H2 := upd H1 l (.lst ((openAt c' Td).map vi).reverse)) (T' := Td) hq (fun b o n e => (upd_ne n).trans e) upd_same (Paired.mapP pt fun _ _ z => z.keeps (Kq.lst y1) (Ext.refl E1)) fun d hd => by
        show openAt d Td = (if c' = d then k :: openAt d Td else openAt d Td)
        rw [if_neg fun z => hd z.symm]
      exact hret (pr2 := none) (E2 := E1) (kl2 := kl1) rfl ns st gn (by cases keep <;> rfl) Z2 (Ext.refl E1) ⟨bc, bd_step bn.b st, bs⟩
end
end OgW
/-! OgM7: a machine in the making. -/
namespace OgW
open PySem PySem.Spec PyProof.Rows L2 OgD Og OgT
structure MB (K : PySem.W.Frag) (w : World) (Hc H : Hp) (m dx sa : Addr) (D : SA) (E : List Ent) (fs : List (Str × V)) : Prop where
  ob : H m = some (.ins (CM K) dx fs)
  st : StoreAt K w H sa D E
  fr : ∀ b o, Hc b = some o → b ≠ m → H b = some o
  nw : Hc D.en = none ∧ Hc D.nu = none ∧ Hc D.si = none ∧ Hc D.de = none
  ms : m ≠ sa
structure FU (H : Hp) (D : SA) (E : List Ent) (fu : Addr) (pls : List Addr) (P : List Fn) : Prop where
  d : ∃ kvs, H fu = some (.dK kvs) ∧ Paired (FunR H E pls) P kvs
  l : ∀ p ∈ pls, (∃ xs, H p = some (.lst xs)) ∧ p ≠ D.en ∧ p ≠ D.si ∧ p ≠ D.de
section
variable {K : PySem.W.Frag} {w : World} {Hc H H2 : Hp} {m dx st : Addr} {D : SA} {E E2 : List Ent} {fs gs : List (Str × V)} {fu : Addr} {pls : List Addr} {P : List Fn}
theorem MB.same (B : MB K w Hc H m dx st D E fs) (k : Same H H2) : MB K w Hc H2 m dx st D E fs :=
  ⟨k _ _ B.ob, B.st.same k, fun b o e n => k _ _ (B.fr b o e n), B.nw, B.ms⟩
theorem MB.kt (B : MB K w Hc H m dx st D E fs) : (∃ gs, Hc m = some (.ins (CM K) dx gs)) → KT0 Hc H := fun ⟨gs, e⟩ a xs q => B.fr a _ q (ne_of q e (by intro z; cases z))
theorem MB.put (B : MB K w Hc H m dx st D E fs) (S2 : StoreAt K w H2 st D E2) (k : Kp D H H2) : MB K w Hc H2 m dx st D E2 fs := by
  obtain ⟨n1, n2, n3, n4⟩ := B.nw
  refine ⟨B.st.kp k B.ob (fun _ z => by cases z) (fun _ z => by cases z), S2, fun b o e n => k b o (B.fr b o e n) ?_ ?_ ?_ ?_, B.nw, B.ms⟩
  · intro z; rw [z, n1] at e; cases e
  · intro z; rw [z, n2] at e; cases e
  · intro z; rw [z, n3] at e; cases e
  · intro z; rw [z, n4] at e; cases e
theorem MB.attr (B : MB K w Hc H m dx st D E fs) : MB K w Hc (upd H m (.ins (CM K) dx gs)) m dx st D E gs := by
  obtain ⟨evs, e5⟩ := B.st.enO
  obtain ⟨rows, e4⟩ := B.st.nuO
  obtain ⟨zs, e6, _⟩ := B.st.si
  obtain ⟨ys, e7, _⟩ := B.st.de
  have kb : ∀ {b : Addr} {o : HO}, H b = some o → (∀ C dx fs, o ≠ .ins C dx fs) → upd H m (.ins (CM K) dx gs) b = some o := fun e h => (upd_ne (ne_of e B.ob (h _ _ _))).trans e
  refine ⟨upd_same, B.st.keeps (fun b o q hb => ?_) (Kq.ins B.ob).1, fun b o e n => (upd_ne n).trans (B.fr b o e n), B.nw, B.ms⟩
  rcases hb with rfl | rfl | rfl | rfl | rfl
  · exact (upd_ne B.ms.symm).trans q
  · rw [e5] at q; cases q; exact kb e5 (fun _ _ _ z => by cases z)
  · rw [e4] at q; cases q; exact kb e4 (fun _ _ _ z => by cases z)
  · rw [e6] at q; cases q; exact kb e6 (fun _ _ _ z => by cases z)
  · rw [e7] at q; cases q; exact kb e7 (fun _ _ _ z => by cases z)
theorem FU.keeps (U : FU H D E fu pls P) (k : Kq H H2) (x : Ext E E2) (hp : ∀ p ∈ pls, ∀ o, H p = some o → H2 p = some o) : FU H2 D E2 fu pls P := by
  obtain ⟨kvs, e, p⟩ := U.d
  exact ⟨⟨kvs, k.2 _ _ e, Paired.mapP p fun _ _ z => z.keeps k x hp⟩, fun p h => ⟨let ⟨xs, e⟩ := (U.l p h).1; ⟨xs, hp p h _ e⟩, (U.l p h).2⟩⟩
theorem FU.same (U : FU H D E fu pls P) (k : Same H H2) : FU H2 D E fu pls P := U.keeps (Kq.same k) (Ext.refl E) fun _ _ o e => k _ o e
theorem FU.put (U : FU H D E fu pls P) (S : StoreAt K w H st D E) (x : Ext E E2) (k : Kp D H H2) : FU H2 D E2 fu pls P := by
  refine U.keeps ⟨S.kt k, fun a kvs e => S.kp k e (fun _ z => by cases z) (fun _ z => by cases z)⟩ x fun p h o e => ?_
  obtain ⟨⟨xs, e'⟩, h1, h2, h3⟩ := U.l p h
  obtain ⟨rows, e4⟩ := S.nuO
  rw [e'] at e
  cases e
  exact k _ _ e' h1 (ne_of e' e4 (by intro z; cases z)) h2 h3
theorem FU.attr (U : FU H D E fu pls P) (B : MB K w Hc H m dx st D E fs) : FU (upd H m (.ins (CM K) dx gs)) D E fu pls P := by
  refine U.keeps (Kq.ins B.ob) (Ext.refl E) fun p h o e => ?_
  obtain ⟨⟨xs, e'⟩, _⟩ := U.l p h
  rw [e'] at e
  cases e
  exact (upd_ne (ne_of e' B.ob (by intro z; cases z))).trans e'
theorem fun_none {n : Nat} {f : Str} (d : Den E (.w f) n) : ∀ {P : List Fn} {kvs : List (Key × V)}, Paired (FunR H E pls) P kvs → f ∉ P.map (·.name) → valV kvs (.inl (n : Int)) = none
  | _, _, .nil, _ => rfl
  | _, _, @Paired.cons _ _ _ a r qs rs h t, no => by
    obtain ⟨i', b, at', pl, ns, h1, h2, h3⟩ := h
    subst h1
    rw [valV_neg (p := ((.inl (i' : Int) : Key), V.ref at')) fun z => no ?_]
    · exact fun_none d t fun m => no (List.mem_cons_of_mem _ m)
    · have z : (i' : Int) = n := by injection z
      have z : i' = n := by omega
      subst z
      have := h2.inj d
      cases this
      exact List.mem_cons_self
/-- one more function -/
theorem FU.more {g : Fn} {i b t pl : Addr} {ns : List Nat} (U : FU H D E fu pls P) (hno : g.name ∉ P.map (·.name)) (di : Den E (.w g.name) i) (ht : H t = some (.tup [.ref pl, .int (b : Nat)])) (hl : H pl = some (.lst (ns.map vi))) (dp : Dens E (g.ps.map .w) ns) (db : Den E g.body b)
    (n1 : pl ≠ D.en ∧ pl ≠ D.si ∧ pl ≠ D.de) : ∃ kvs, H fu = some (.dK kvs) ∧ kvs.length = P.length ∧ FU (upd H fu (.dK (putK kvs (.inl (i : Int)) (.ref t)))) D E fu (pls ++ [pl]) (P ++ [g]) := by
  obtain ⟨kvs, e, p⟩ := U.d
  refine ⟨kvs, e, (Paired.length p).symm, ?_⟩
  have no := fun_none di p hno
  rw [putK_new _ no]
  have kb : ∀ b o, H b = some o → (∀ kvs, o ≠ .dK kvs) → upd H fu (.dK (kvs ++ [((.inl (i : Int) : Key), V.ref t)])) b = some o := fun b o q h => (upd_ne (ne_of q e (h _))).trans q
  have up : ∀ {q : Fn} {r : Key × V}, FunR H E pls q r → FunR (upd H fu (.dK (kvs ++ [((.inl (i : Int) : Key), V.ref t)]))) E (pls ++ [pl]) q r := fun z => by
    obtain ⟨i', b', a', pl', ns', h1, h2, h3, h4, h5, h6, h7⟩ := z
    exact ⟨i', b', a', pl', ns', h1, h2, kb _ _ h3 (fun _ z => by cases z), kb _ _ h4 (fun _ z => by cases z), h5, h6, List.mem_append_left _ h7⟩
  refine ⟨⟨_, upd_same, Paired.snoc (Paired.mapP p fun _ _ z => up z) ⟨i, b, t, pl, ns, rfl, di, kb _ _ ht (fun _ z => by cases z), kb _ _ hl (fun _ z => by cases z), dp, db, List.mem_append_right _ List.mem_cons_self⟩⟩, fun p hp => ?_⟩
  rcases List.mem_append.mp hp with hp | hp
  · obtain ⟨⟨xs, e'⟩, r⟩ := U.l p hp
    exact ⟨⟨xs, kb _ _ e' (fun _ z => by cases z)⟩, r⟩
  · have hp : p = pl := by simpa using hp
    subst hp
    exact ⟨⟨_, kb _ _ hl (fun _ z => by cases z)⟩, n1⟩
/-- the store's lists are three -/
theorem StoreAt.three {H : Hp} {s : Addr} (S : StoreAt K w H s D E) : D.en ≠ D.si ∧ D.en ≠ D.de ∧ D.si ≠ D.de := by
  obtain ⟨vs, e5⟩ := S.enO
  obtain ⟨zs, e6, l6⟩ := S.si
  obtain ⟨ys, e7, l7⟩ := S.de
  refine ⟨fun z => ?_, fun z => ?_, S.ne⟩
  · rw [z, e6] at e5
    injection e5 with e5
    injection e5 with e5
    cases zs with
    | nil => cases e5
    | cons a zs => injection e5 with e5; cases e5
  · rw [z, e7] at e5
    injection e5 with e5
    injection e5 with e5
    cases ys with
    | nil => cases e5
    | cons a ys => injection e5 with e5; cases e5
theorem MB.free (B : MB K w Hc H m dx st D E fs) {b : Addr} (h : H b = none) : Hc b = none := by
  cases e : Hc b with
  | none => rfl
  | some o =>
    by_cases n : b = m
    · rw [n, B.ob] at h
      cases h
    · rw [B.fr b o e n] at h
      cases h
theorem MB.dk {kvs kvs' : List (Key × V)} (B : MB K w Hc H m dx st D E fs) (e : H fu = some (.dK kvs)) (n : Hc fu = none) : MB K w Hc (upd H fu (.dK kvs')) m dx st D E fs := by
  have kb : ∀ {b : Addr} {o : HO}, H b = some o → (∀ kvs, o ≠ .dK kvs) → upd H fu (.dK kvs') b = some o := fun q h => (upd_ne (ne_of q e (h _))).trans q
  obtain ⟨evs, e5⟩ := B.st.enO
  obtain ⟨rows, e4⟩ := B.st.nuO
  obtain ⟨zs, e6, _⟩ := B.st.si
  obtain ⟨ys, e7, _⟩ := B.st.de
  refine ⟨kb B.ob (fun _ z => by cases z), B.st.keeps (fun b o q hb => ?_) (fun a xs q => kb q fun _ z => by cases z), fun b o q nb => (upd_ne (ne_of_none q n)).trans (B.fr b o q nb), B.nw, B.ms⟩
  rcases hb with rfl | rfl | rfl | rfl | rfl
  · rw [B.st.ob] at q; cases q; exact kb B.st.ob (fun _ z => by cases z)
  · rw [e5] at q; cases q; exact kb e5 (fun _ z => by cases z)
  · rw [e4] at q; cases q; exact kb e4 (fun _ z => by cases z)
  · rw [e6] at q; cases q; exact kb e6 (fun _ z => by cases z)
  · rw [e7] at q; cases q; exact kb e7 (fun _ z => by cases z)
end
section
variable {K : PySem.W.Frag} {w : World} {H0 H H2 : Hp} {m : Addr} {A : MA} {P : List Fn} {keep : Bool} {E : List Ent} {S : MSt} {pr : Option (Nat × Nat)} {kl : List (Call × Addr)}
/-- a list of others changes -/
theorem MachAt.third {l : Addr} {xs ys : List V} (Z : MachAt K w H0 H m A P keep E S pr kl) (el : H l = some (.lst xs)) (n1 : l ∉ A.ls) (n2 : l ∉ A.pls) (n3 : ∀ q ∈ kl, q.2 ≠ l) (n4 : H0 l = none) : MachAt K w H0 (upd H l (.lst ys)) m A P keep E S pr kl := by
  have kq : Kq H (upd H l (.lst ys)) := Kq.lst el
  have kb : ∀ b o, b ≠ l → H b = some o → upd H l (.lst ys) b = some o := fun b o hb e => (upd_ne hb).trans e
  have nn : ∀ b ∈ A.ls, b ≠ l := fun b hb z => n1 (z ▸ hb)
  obtain ⟨pv, e1, e2⟩ := Z.ob
  obtain ⟨rows, e3⟩ := Z.kpO
  refine ⟨⟨pv, kb _ _ (ne_of e1 el (by intro z; cases z)) e1, e2.keeps kq.1⟩, Z.store_other el (nn _ A.mem.2.2.1).symm (nn _ A.mem.2.2.2.1).symm (nn _ A.mem.2.2.2.2).symm, Z.ye, ?_, ?_, ?_, ?_, Z.nd, Z.off, fun p hp => let ⟨xs, e⟩ := Z.plo p hp; ⟨xs, kb _ _ (fun z => n2 (z ▸ hp)) e⟩, Z.nk, Z.ms, fun b o e => kb b o (ne_of_none e n4) (Z.fr b o e), Z.new⟩
  · obtain ⟨kvs, q, p⟩ := Z.fu
    exact ⟨kvs, kq.2 _ _ q, Paired.mapP p fun _ _ z => z.keeps kq (Ext.refl E) fun pl hp o e => kb _ _ (fun z => n2 (z ▸ hp)) e⟩
  · obtain ⟨ns, q, d⟩ := Z.fo
    exact ⟨ns, kb _ _ (nn _ A.mem.1) q, d⟩
  · obtain ⟨vs, q, p⟩ := Z.to
    exact ⟨vs, kb _ _ (nn _ A.mem.2.1) q, Paired.mapP p fun _ _ z => z.keeps kq (Ext.refl E)⟩
  · exact Z.kp.keeps kq (Ext.refl E) (fun o e => kb _ _ (ne_of e3 el (by intro z; cases z)) (by rw [e3] at e; exact e3.trans e)) (fun q hq o e => kb _ _ (n3 q hq) e) fun _ => rfl
end
end OgW
/-! OgM8: Machine.__init__. -/
namespace OgW
open PySem PySem.Spec PyProof.Rows L2 OgD Og OgT
/-- the class at C is made by a def that keeps a promise -/
def Mkr (P : Program) (w : World) (K : PySem.W.Frag) (mg : Str → Option Value) (base : Heap) (C : Addr) (k : Nat) (ps : List Str) (sp : Sp) : Prop := ∃ f fd, FnOk P w K mg base CX0 k f fd ps sp ∧ Mk K C f ∧ Binds K fd ps []
section
variable {P : Program} {w : World} {K : PySem.W.Frag} {mg : Str → Option Value} {base : Heap}
def spMInit (K : PySem.W.Frag) (w : World) : Sp := fun vs H Q _ => ∃ (H0 : Hp) (m dx li : Addr) (vp : V) (Pf : List Fn) (g0 : Fn) (keep : Bool) (args : List Val) (avs : List V), vs = [.ref m, vp, .ref li, .bl keep] ∧
  H m = some (.ins (CM K) dx []) ∧ Same H0 H ∧ H0 m = none ∧ RepV K H (encP Pf) vp ∧ H li = some (.lst avs) ∧ Paired (fun x v => RepV K H x v) args avs ∧ PGood Pf ∧ (Pf.map (·.name)).Nodup ∧ (∃ r, Pf = g0 :: r) ∧ g0.name = "main" ∧ g0.ps.length = args.length ∧
  (encP Pf).size + sizes args ≤ 100000 ∧ Pf.length ≤ 1000 ∧
  ∀ (H' : Hp) (A : MA) (E : List Ent) (kl : List (Call × Addr)) (S : MSt), mStart keep Pf args = some S → MachAt K w H0 H' m A Pf keep E S none kl → E.length + kl.length ≤ (encP Pf).size + sizes args + 4 → Q .non H'
theorem sc_minit : FnScope ["self", "program", "inputs", "keeping", "function", "name", "parameters", "body", "main", "value"] ["self", "program", "inputs", "keeping"] (defScope s_Machine_init) := ⟨rfl, rfl, rfl, by decide +kernel, rfl, by decide +kernel, by decide +kernel⟩
theorem ok_minit {f : Addr} {fd : FuncData} (F : FunD K "__init__" "Machine.__init__" (defArgs s_Machine_init) (defBody s_Machine_init) (defScope s_Machine_init) [] [("keeping", .bl false)] f fd) (T : Txt K mg) (gS : Mkr P w K mg base (CS K) 1 ["self"] (spSInit K w)) (gP : Mth P w K mg base (CS K) "put" 2 ["self", "value"] (spPut K w)) (gI : Mth P w K mg base (CS K) "items_of" 1 ["self", "number"] (spItems K w))
    (gB : Mth P w K mg base (CM K) "begin" 1 ["self", "name", "numbers"] (spBegin K w)) : FnOk P w K mg base CX0 3 f fd ["self", "program", "inputs", "keeping"] (spMInit K w) := by
  obtain ⟨fS, fdS, GS, MS, bS⟩ := gS
  obtain ⟨fP, fdP, GP, mP, bP⟩ := gP
  obtain ⟨fI, fdI, GI, mI, bI⟩ := gI
  obtain ⟨fB, fdB, GB, mB, bB⟩ := gB
  refine ok0 F sc_minit (fun vs H Q E h => ?_) (fun cdv A0 outer s0 H vs Q E0 hr h => ?_)
  · obtain ⟨H0, m, dx, li, vp, Pf, g0, keep, args, avs, rfl, _⟩ := h
    rfl
  · obtain ⟨H0, m, dx, li, vp, Pf, g0, keep, args, avs, rfl, hm, s0H, m0, rp, hli, ra, gp, nd, ⟨rest, ep⟩, gn, lg, sz, lP, k⟩ := h
    refine ⟨_, (pss_cons (ps_fld (pv 0) (pe_make0 MS GS hr (by rfl) T.gS bS .nil pass0) rfl)
 (pss_cons (ps_fld (pv 0) (pe_meth (pe_fld (pv 0) rfl) T.clS mP GP hr bP .nil pass0 (pa_cons pe_str pa_nil)) rfl)
 (pss_cons (ps_fld (pv 0) pe_dnewK rfl)
 (pss_cons (ps_for PassesOwn.never rfl (pi_list (pe_meth (pe_fld (pv 0) rfl) T.clS mI GI (hr.mono (by decide)) bI .nil pass0 (pa_cons (pe_meth (pe_fld (pv 0) rfl) T.clS mP GP hr bP .nil pass0 (pa_cons (pv 1) pa_nil)) pa_nil))) (pg_name (i := 4) sc_minit.nd rfl (.inl rfl))
 (pss_cons (ps_asg (pe_meth (pe_fld (pv 0) rfl) T.clS mI GI (hr.mono (by decide)) bI .nil pass0 (pa_cons (pv 4) pa_nil)) (pg_unl rfl (pgs_cons (pg_name (i := 5) sc_minit.nd rfl (.inl rfl)) (pgs_cons (pg_name (i := 6) sc_minit.nd rfl (.inl rfl)) (pgs_cons (pg_name (i := 7) sc_minit.nd rfl (.inl rfl)) pgs_nil)))))
 (pss_one (ps_dput (hu_of hr) (pe_fld (pv 0) rfl) (pv 5) (pe_tup (pa_cons (pe_meth (pe_fld (pv 0) rfl) T.clS mI GI (hr.mono (by decide)) bI .nil pass0 (pa_cons (pv 6) pa_nil)) (pa_cons (pv 7) pa_nil))) rfl))))
 (pss_cons (ps_fld (pv 0) (pv 3) rfl)
 (pss_cons (ps_fld (pv 0) pe_mnew rfl)
 (pss_cons (ps_fld (pv 0) pe_non rfl)
 (pss_cons (ps_fld (pv 0) pe_int rfl)
 (pss_cons (ps_fld (pv 0) (pe_lst pa_nil) rfl)
 (pss_cons (ps_fld (pv 0) (pe_lst pa_nil) rfl)
 (pss_cons (ps_set (i := 8) sc_minit.nd rfl (.inl rfl) (pe_meth (pe_fld (pv 0) rfl) T.clS mP GP hr bP .nil pass0 (pa_cons (pe_ix ix_tup (pe_ix ix_tup (pv 1) pe_int (fun _ _ => rfl)) pe_int (fun _ _ => rfl)) pa_nil)))
 (pss_one (ps_expr (pe_meth (pv 0) T.clM mB GB (hr.mono (by decide)) bB .nil pass0 (pa_cons (pv 8) (pa_cons (pe_callTy call_tuple_of (by rfl) T.tup b_tuple (pa_cons (pe_lc (own := [("value", 9)]) (g := gName 9) (tt := tYes) (te := tMeth (CS K) "put" (spPut K w) [] L2.E0 (tFld K (tVar 0) "store") (tCons (tVar 9) tNil)) rfl sc_minit.nd (pi_list (pv 2)) (blkOk_by (N := ["self", "program", "inputs", "keeping", "function", "name", "parameters", "body", "main", "value"]) (sc := defScope s_Machine_init) (by decide +kernel)) (fun _ _ _ _ _ => pg_name (i := 9) sc_minit.nd rfl (Or.inl rfl)) (fun _ _ _ _ _ => pts_nil) (fun _ _ _ _ _ => by exact (pe_meth (pe_fld (pv 0) rfl) T.clS mP GP hr bP .nil pass0 (pa_cons (pv 9) pa_nil)))) pa_nil)) pa_nil)))))))))))))))), ?_⟩
    have l6 := line6
    refine fun s sdx hs hsdx nsd => ?_
    have hsm : m ≠ s := ne_of_none hm hs
    refine ⟨s, sdx, rfl, upd_same, fun H1 D S1 k1 w1 w2 w3 w4 => ⟨rfl, ?_⟩⟩
    have sHs : Same H (upd (upd H sdx (.own s)) s (.ins (CS K) sdx [])) := fun b o e => (upd_ne (ne_of_none e hs)).trans ((upd_ne (ne_of_none e hsdx)).trans e)
    have B1 : MB K w H H1 m dx s D [] [] := ⟨k1 _ _ (sHs _ _ hm) hsm, S1, fun b o e n => k1 b o (sHs _ _ e) (ne_of_none e hs), ⟨Same.free sHs w1, Same.free sHs w2, Same.free sHs w3, Same.free sHs w4⟩, hsm⟩
    refine ⟨_, rfl, m, CM K, dx, [], rfl, B1.ob, T.clM, T.m1, (by show 0 < 1000; decide), ?_⟩
    rw [show putF "store" (V.ref s) ([] : List (Str × V)) = ([("store", .ref s)] : List (Str × V)) from rfl]
    have B2 := B1.attr (gs := ([("store", .ref s)] : List (Str × V)))
    generalize upd H1 m (.ins (CM K) dx ([("store", .ref s)] : List (Str × V))) = H2 at B2 ⊢
    refine ⟨_, rfl, m, CM K, dx, _, _, rfl, B2.ob, T.clM, T.m1, rfl, s, D.dx, _, rfl, B2.st.ob, sf_put D, s, D, [], .w "yes", _, rfl, B2.st, rfl, (by show 0 + 1 ≤ 1000000; decide), fun H3 E3 y S3 x3 l3 d3 k3 => ?_⟩
    have B3 := B2.put S3 k3
    refine ⟨_, rfl, m, CM K, dx, _, rfl, B3.ob, T.clM, T.m2, (by show 1 < 1000; decide), ?_⟩
    rw [show putF "yes" (V.int (y : Nat)) ([("store", .ref s)] : List (Str × V)) = ([("store", .ref s), ("yes", .int y)] : List (Str × V)) from rfl]
    have B4 := B3.attr (gs := ([("store", .ref s), ("yes", .int y)] : List (Str × V)))
    generalize upd H3 m (.ins (CM K) dx ([("store", .ref s), ("yes", .int y)] : List (Str × V))) = H4 at B4 ⊢
    refine fun fu hfu => ?_
    have B5 := B4.same (Same.laid (o := HO.dK []) hfu)
    have fu0 := B4.free hfu
    have efu : upd H4 fu (.dK []) fu = some (.dK []) := upd_same
    refine ⟨_, rfl, m, CM K, dx, _, rfl, B5.ob, T.clM, T.m3, (by show 2 < 1000; decide), ?_⟩
    rw [show putF "functions" (V.ref fu) ([("store", .ref s), ("yes", .int y)] : List (Str × V)) = ([("store", .ref s), ("yes", .int y), ("functions", .ref fu)] : List (Str × V)) from rfl]
    have U5 : FU (upd H4 fu (.dK [])) D E3 fu [] [] := ⟨⟨[], upd_same, .nil⟩, fun p hp => by cases hp⟩
    have U6 := U5.attr (gs := ([("store", .ref s), ("yes", .int y), ("functions", .ref fu)] : List (Str × V))) B5
    have B6 := B5.attr (gs := ([("store", .ref s), ("yes", .int y), ("functions", .ref fu)] : List (Str × V)))
    generalize upd (upd H4 fu (.dK [])) m (.ins (CM K) dx ([("store", .ref s), ("yes", .int y), ("functions", .ref fu)] : List (Str × V))) = H6 at B6 U6 ⊢
    have kt6 := B6.kt ⟨_, hm⟩
    have l3 : E3.length ≤ 0 + 1 := l3
    -- the program put
    refine ⟨_, rfl, m, CM K, dx, _, _, rfl, B6.ob, T.clM, T.m1, rfl, s, D.dx, _, rfl, B6.st.ob, sf_items D, ?_⟩
    refine ⟨_, rfl, m, CM K, dx, _, _, rfl, B6.ob, T.clM, T.m1, rfl, s, D.dx, _, rfl, B6.st.ob, sf_put D, _, rfl, s, D, E3, encP Pf, vp, rfl, B6.st, rp.keeps kt6, by omega, fun H7 E7 np S7 x7 l7 d7 k7 => ?_⟩
    have U7 := U6.put B6.st x7 k7
    have B7 := B6.put S7 k7
    have d3' := d3.ext x7
    have iP : (encP Pf).items = Pf.map encF := items_listV _
    refine ⟨s, D, E7, encP Pf, np, rfl, S7, d7, listV_isW _, by rw [iP, List.length_map]; omega, fun l0 ns hl0 dn => ?_⟩
    rw [iP] at dn
    have lns : ns.length = Pf.length := by rw [← Paired.length dn, List.length_map]
    have B8 := B7.same (Same.laid (o := HO.lst (ns.map vi)) hl0)
    have U8 := U7.same (Same.laid (o := HO.lst (ns.map vi)) hl0)
    have el0 : upd H7 l0 (.lst (ns.map vi)) l0 = some (.lst (ns.map vi)) := upd_same
    generalize upd H7 l0 (.lst (ns.map vi)) = H8 at B8 U8 el0 ⊢
    refine ⟨l0, rfl, ⟨_, SqL.of el0⟩, for_list (K := K) (a := l0) (xs := ns.map vi) (fun i σ' H' => ∃ (x4 x5 x6 x7 : Option V) (pls : List Addr), σ' = [some (.ref m), some vp, some (.ref li), some (.bl keep), x4, x5, x6, x7, none, none] ∧ MB K w H H' m dx s D E7 ([("store", .ref s), ("yes", .int y), ("functions", .ref fu)] : List (Str × V)) ∧ FU H' D E7 fu pls (Pf.take i) ∧ H' l0 = some (.lst (ns.map vi)))
      ⟨none, none, none, none, [], rfl, B8, U8, el0⟩ (fun i σ' H' _ q => by obtain ⟨_, _, _, _, _, _, _, _, q⟩ := q; exact SqL.of q) ?_ ?_⟩
    · rintro i z σ' H' hz ⟨x4, x5, x6, x7, pls, rfl, B, U, el⟩
      have hi : i < Pf.length := by
        have := (List.getElem?_eq_some_iff.mp hz).1
        rw [List.length_map] at this
        omega
      have hg : (Pf.map encF)[i]? = some (encF Pf[i]) := by rw [List.getElem?_map, List.getElem?_eq_getElem hi]; rfl
      obtain ⟨a, ha, da⟩ := paired_get dn hg
      rw [List.getElem?_map, ha] at hz
      have hz : vi a = z := Option.some.inj hz
      subst hz
      obtain ⟨p1, p2⟩ := gp Pf[i] (List.getElem_mem hi)
      refine ⟨_, rfl, m, CM K, dx, _, _, rfl, B.ob, T.clM, T.m1, rfl, s, D.dx, _, rfl, B.st.ob, sf_items D, _, rfl, s, D, E7, encF Pf[i], a, rfl, B.st, da, rfl, (by show 3 ≤ 1000000; decide), fun l1 n3 hl1 d3 => ?_⟩
      cases d3 with
      | @cons _ ia _ n3 da1 d3 =>
      cases d3 with
      | @cons _ ib _ n3 db1 d3 =>
      cases d3 with
      | @cons _ ic _ n3 dc1 d3 =>
      cases d3
      have Ba := B.same (Same.laid (o := HO.lst ([ia, ib, ic].map vi)) hl1)
      have Ua := U.same (Same.laid (o := HO.lst ([ia, ib, ic].map vi)) hl1)
      have ela := Same.laid (o := HO.lst ([ia, ib, ic].map vi)) hl1 _ _ el
      refine ⟨l1, _, rfl, SqL.of upd_same, rfl, _, _, rfl, _, _, rfl, _, _, rfl, rfl, ?_⟩
      generalize upd H' l1 (.lst ([ia, ib, ic].map vi)) = Ha at Ba Ua ela ⊢
      have ips : (listV (Pf[i].ps.map .w)).items = Pf[i].ps.map .w := items_listV _
      refine ⟨_, rfl, m, CM K, dx, _, _, rfl, Ba.ob, T.clM, T.m1, rfl, s, D.dx, _, rfl, Ba.st.ob, sf_items D, _, rfl, s, D, E7, listV (Pf[i].ps.map .w), ib, rfl, Ba.st, db1, listV_isW _, by rw [ips, List.length_map]; omega, fun pl pn hpl dpn => ?_⟩
      rw [ips] at dpn
      have Bb := Ba.same (Same.laid (o := HO.lst (pn.map vi)) hpl)
      have Ub := Ua.same (Same.laid (o := HO.lst (pn.map vi)) hpl)
      have elb := Same.laid (o := HO.lst (pn.map vi)) hpl _ _ ela
      have epl : upd Ha pl (.lst (pn.map vi)) pl = some (.lst (pn.map vi)) := upd_same
      have npl : pl ≠ D.en ∧ pl ≠ D.si ∧ pl ≠ D.de := by
        obtain ⟨evs, e5⟩ := Ba.st.enO
        obtain ⟨zs, e6, _⟩ := Ba.st.si
        obtain ⟨ys, e7, _⟩ := Ba.st.de
        exact ⟨fun z => (by rw [z, e5] at hpl; cases hpl), fun z => (by rw [z, e6] at hpl; cases hpl), fun z => (by rw [z, e7] at hpl; cases hpl)⟩
      generalize upd Ha pl (.lst (pn.map vi)) = Hb at Bb Ub elb epl ⊢
      refine ⟨_, rfl, (by show 2 ≤ sizeLine; omega), fun t ht => ?_⟩
      have Bc := Bb.same (Same.laid (o := HO.tup [.ref pl, vi ic]) ht)
      have Uc := Ub.same (Same.laid (o := HO.tup [.ref pl, vi ic]) ht)
      have elc := Same.laid (o := HO.tup [.ref pl, vi ic]) ht _ _ elb
      have eplc := Same.laid (o := HO.tup [.ref pl, vi ic]) ht _ _ epl
      have etc : upd Hb t (.tup [.ref pl, vi ic]) t = some (.tup [.ref pl, vi ic]) := upd_same
      generalize upd Hb t (.tup [.ref pl, vi ic]) = Hc at Bc Uc elc eplc etc ⊢
      have hno : Pf[i].name ∉ (Pf.take i).map (·.name) := fun hm' => by
        obtain ⟨j, hj, ej⟩ := List.mem_iff_getElem.mp hm'
        rw [List.length_map, List.length_take] at hj
        rw [List.getElem_map, List.getElem_take] at ej
        have e1 : (Pf.map (·.name))[j]? = some Pf[i].name := by rw [List.getElem?_map, List.getElem?_eq_getElem (by omega)]; exact congrArg some ej
        have e2 : (Pf.map (·.name))[i]? = some Pf[i].name := by rw [List.getElem?_map, List.getElem?_eq_getElem hi]; rfl
        have := nd_ix nd e1 e2
        omega
      obtain ⟨kvs, q1, q2, q3⟩ := Uc.more hno da1 etc eplc dpn dc1 npl
      refine ⟨_, rfl, m, CM K, dx, _, _, rfl, Bc.ob, T.clM, T.m3, rfl, _, rfl, fu, _, rfl, .inl ⟨kvs, .inl (ia : Int), q1, rfl, ?_, rfl⟩, ?_⟩
      · rw [q2, List.length_take]
        omega
      · have etk : Pf.take (i + 1) = Pf.take i ++ [Pf[i]] := List.take_succ_eq_append_getElem hi
        refine ⟨_, _, _, _, pls ++ [pl], rfl, Bc.dk q1 fu0, ?_, (upd_ne (ne_of elc q1 (by intro z; cases z))).trans elc⟩
        rw [etk]
        exact q3
    · rintro σ' H9 ⟨x4, x5, x6, x7, pls, rfl, B9, U9, el9⟩
      rw [List.length_map, lns, List.take_length] at U9
      clear B8 U8 el0
      have fsz : ∀ n : Nat, n < 10 → n < 1000 := fun n h => by omega
      refine ⟨_, rfl, _, rfl, m, CM K, dx, _, rfl, B9.ob, T.clM, T.m4, (by show 3 < 1000; decide), ?_⟩
      rw [show putF "keeping" (V.bl keep) ([("store", .ref s), ("yes", .int y), ("functions", .ref fu)] : List (Str × V)) = ([("store", .ref s), ("yes", .int y), ("functions", .ref fu), ("keeping", .bl keep)] : List (Str × V)) from rfl]
      have Ua := U9.attr (gs := ([("store", .ref s), ("yes", .int y), ("functions", .ref fu), ("keeping", .bl keep)] : List (Str × V))) B9
      have Ba := B9.attr (gs := ([("store", .ref s), ("yes", .int y), ("functions", .ref fu), ("keeping", .bl keep)] : List (Str × V)))
      generalize upd H9 m (.ins (CM K) dx ([("store", .ref s), ("yes", .int y), ("functions", .ref fu), ("keeping", .bl keep)] : List (Str × V))) = Ha at Ba Ua ⊢
      clear B9 U9 el9
      refine fun kp Hb hkp kkp dkp => ?_
      have sab : Same Ha Hb := fun b o e => (kkp b (ne_of_none e hkp)).trans e
      have Bb := Ba.same sab
      have Ub := Ua.same sab
      have kp0 := Ba.free hkp
      have nk : kp ≠ D.nu := fun z => by
        obtain ⟨rows, e⟩ := Ba.st.nuO
        rw [z, e] at hkp
        cases hkp
      obtain ⟨krows, ekp, _⟩ := id dkp
      refine ⟨_, rfl, m, CM K, dx, _, rfl, Bb.ob, T.clM, T.m5, (by show 4 < 1000; decide), ?_⟩
      rw [show putF "kept" (V.ref kp) ([("store", .ref s), ("yes", .int y), ("functions", .ref fu), ("keeping", .bl keep)] : List (Str × V)) = ([("store", .ref s), ("yes", .int y), ("functions", .ref fu), ("keeping", .bl keep), ("kept", .ref kp)] : List (Str × V)) from rfl]
      have Uc := Ub.attr (gs := ([("store", .ref s), ("yes", .int y), ("functions", .ref fu), ("keeping", .bl keep), ("kept", .ref kp)] : List (Str × V))) Bb
      have Bc := Bb.attr (gs := ([("store", .ref s), ("yes", .int y), ("functions", .ref fu), ("keeping", .bl keep), ("kept", .ref kp)] : List (Str × V)))
      have dkp2 : DM w _ kp [] := dkp.keeps (H' := upd Hb m (.ins (CM K) dx ([("store", .ref s), ("yes", .int y), ("functions", .ref fu), ("keeping", .bl keep), ("kept", .ref kp)] : List (Str × V)))) (fun o e => (upd_ne (ne_of ekp Bb.ob (by intro z; cases z))).trans e) (Kq.ins Bb.ob).1
      generalize upd Hb m (.ins (CM K) dx ([("store", .ref s), ("yes", .int y), ("functions", .ref fu), ("keeping", .bl keep), ("kept", .ref kp)] : List (Str × V))) = Hc at Bc Uc dkp2 ⊢
      refine ⟨_, rfl, m, CM K, dx, _, rfl, Bc.ob, T.clM, T.m6, (by show 5 < 1000; decide), ?_⟩
      rw [show putF "pair" V.non ([("store", .ref s), ("yes", .int y), ("functions", .ref fu), ("keeping", .bl keep), ("kept", .ref kp)] : List (Str × V)) = ([("store", .ref s), ("yes", .int y), ("functions", .ref fu), ("keeping", .bl keep), ("kept", .ref kp), ("pair", .non)] : List (Str × V)) from rfl]
      obtain ⟨krows, ekp2, _⟩ := id dkp2
      have Ud := Uc.attr (gs := ([("store", .ref s), ("yes", .int y), ("functions", .ref fu), ("keeping", .bl keep), ("kept", .ref kp), ("pair", .non)] : List (Str × V))) Bc
      have Bd := Bc.attr (gs := ([("store", .ref s), ("yes", .int y), ("functions", .ref fu), ("keeping", .bl keep), ("kept", .ref kp), ("pair", .non)] : List (Str × V)))
      have dkp3 : DM w _ kp [] := dkp2.keeps (H' := upd Hc m (.ins (CM K) dx ([("store", .ref s), ("yes", .int y), ("functions", .ref fu), ("keeping", .bl keep), ("kept", .ref kp), ("pair", .non)] : List (Str × V)))) (fun o e => (upd_ne (ne_of ekp2 Bc.ob (by intro z; cases z))).trans e) (Kq.ins Bc.ob).1
      generalize upd Hc m (.ins (CM K) dx ([("store", .ref s), ("yes", .int y), ("functions", .ref fu), ("keeping", .bl keep), ("kept", .ref kp), ("pair", .non)] : List (Str × V))) = Hd at Bd Ud dkp3 ⊢
      refine ⟨_, rfl, m, CM K, dx, _, rfl, Bd.ob, T.clM, T.m7, (by show 6 < 1000; decide), ?_⟩
      rw [show putF "steps" (V.int 0) ([("store", .ref s), ("yes", .int y), ("functions", .ref fu), ("keeping", .bl keep), ("kept", .ref kp), ("pair", .non)] : List (Str × V)) = ([("store", .ref s), ("yes", .int y), ("functions", .ref fu), ("keeping", .bl keep), ("kept", .ref kp), ("pair", .non), ("steps", .int 0)] : List (Str × V)) from rfl]
      obtain ⟨krows, ekp3, _⟩ := id dkp3
      have Ue := Ud.attr (gs := ([("store", .ref s), ("yes", .int y), ("functions", .ref fu), ("keeping", .bl keep), ("kept", .ref kp), ("pair", .non), ("steps", .int 0)] : List (Str × V))) Bd
      have Be := Bd.attr (gs := ([("store", .ref s), ("yes", .int y), ("functions", .ref fu), ("keeping", .bl keep), ("kept", .ref kp), ("pair", .non), ("steps", .int 0)] : List (Str × V)))
      have dkp4 : DM w _ kp [] := dkp3.keeps (H' := upd Hd m (.ins (CM K) dx ([("store", .ref s), ("yes", .int y), ("functions", .ref fu), ("keeping", .bl keep), ("kept", .ref kp), ("pair", .non), ("steps", .int 0)] : List (Str × V)))) (fun o e => (upd_ne (ne_of ekp3 Bd.ob (by intro z; cases z))).trans e) (Kq.ins Bd.ob).1
      generalize upd Hd m (.ins (CM K) dx ([("store", .ref s), ("yes", .int y), ("functions", .ref fu), ("keeping", .bl keep), ("kept", .ref kp), ("pair", .non), ("steps", .int 0)] : List (Str × V))) = He at Be Ue dkp4 ⊢
      clear B7 B6 U7 U6 Ua Ba Ub Bb Uc Bc Ud Bd
      -- the lists found and todo
      refine ⟨Nat.zero_le _, fun fo hfo => ?_⟩
      have Bf := Be.same (Same.laid (o := HO.lst []) hfo)
      have Uf := Ue.same (Same.laid (o := HO.lst []) hfo)
      obtain ⟨krows, ekp4, _⟩ := id dkp4
      have dkp5 := dkp4.keeps (H' := upd He fo (.lst [])) (fun o e => Same.laid hfo _ _ e) (fun a xs e => Same.laid hfo _ _ e)
      have fo0 := Be.free hfo
      have efo : upd He fo (.lst []) fo = some (.lst []) := upd_same
      have nfo : fo ∉ pls ∧ fo ≠ D.en ∧ fo ≠ D.si ∧ fo ≠ D.de := by
        obtain ⟨evs, e5⟩ := Be.st.enO
        obtain ⟨zs, e6, _⟩ := Be.st.si
        obtain ⟨ys, e7, _⟩ := Be.st.de
        refine ⟨fun hp => ?_, fun z => (by rw [z, e5] at hfo; cases hfo), fun z => (by rw [z, e6] at hfo; cases hfo), fun z => (by rw [z, e7] at hfo; cases hfo)⟩
        obtain ⟨⟨xs, e⟩, _⟩ := Ue.l fo hp
        rw [hfo] at e
        cases e
      generalize upd He fo (.lst []) = Hf at Bf Uf dkp5 efo ⊢
      refine ⟨_, rfl, m, CM K, dx, _, rfl, Bf.ob, T.clM, T.m8, (by show 7 < 1000; decide), ?_⟩
      rw [show putF "found" (V.ref fo) ([("store", .ref s), ("yes", .int y), ("functions", .ref fu), ("keeping", .bl keep), ("kept", .ref kp), ("pair", .non), ("steps", .int 0)] : List (Str × V)) = ([("store", .ref s), ("yes", .int y), ("functions", .ref fu), ("keeping", .bl keep), ("kept", .ref kp), ("pair", .non), ("steps", .int 0), ("found", .ref fo)] : List (Str × V)) from rfl]
      obtain ⟨krows, ekp5, _⟩ := id dkp5
      have Ug := Uf.attr (gs := ([("store", .ref s), ("yes", .int y), ("functions", .ref fu), ("keeping", .bl keep), ("kept", .ref kp), ("pair", .non), ("steps", .int 0), ("found", .ref fo)] : List (Str × V))) Bf
      have Bg := Bf.attr (gs := ([("store", .ref s), ("yes", .int y), ("functions", .ref fu), ("keeping", .bl keep), ("kept", .ref kp), ("pair", .non), ("steps", .int 0), ("found", .ref fo)] : List (Str × V)))
      have dkp6 : DM w _ kp [] := dkp5.keeps (H' := upd Hf m (.ins (CM K) dx ([("store", .ref s), ("yes", .int y), ("functions", .ref fu), ("keeping", .bl keep), ("kept", .ref kp), ("pair", .non), ("steps", .int 0), ("found", .ref fo)] : List (Str × V)))) (fun o e => (upd_ne (ne_of ekp5 Bf.ob (by intro z; cases z))).trans e) (Kq.ins Bf.ob).1
      have efo2 := (upd_ne (o := HO.ins (CM K) dx ([("store", .ref s), ("yes", .int y), ("functions", .ref fu), ("keeping", .bl keep), ("kept", .ref kp), ("pair", .non), ("steps", .int 0), ("found", .ref fo)] : List (Str × V))) (ne_of efo Bf.ob (by intro z; cases z))).trans efo
      generalize upd Hf m (.ins (CM K) dx ([("store", .ref s), ("yes", .int y), ("functions", .ref fu), ("keeping", .bl keep), ("kept", .ref kp), ("pair", .non), ("steps", .int 0), ("found", .ref fo)] : List (Str × V))) = Hg at Bg Ug dkp6 efo2 ⊢
      refine ⟨Nat.zero_le _, fun tod hto => ?_⟩
      have Bh := Bg.same (Same.laid (o := HO.lst []) hto)
      have Uh := Ug.same (Same.laid (o := HO.lst []) hto)
      obtain ⟨krows, ekp6, _⟩ := id dkp6
      have dkp7 := dkp6.keeps (H' := upd Hg tod (.lst [])) (fun o e => Same.laid hto _ _ e) (fun a xs e => Same.laid hto _ _ e)
      have to0 := Bg.free hto
      have eto : upd Hg tod (.lst []) tod = some (.lst []) := upd_same
      have efo3 := Same.laid (o := HO.lst []) hto _ _ efo2
      have nto : tod ∉ pls ∧ tod ≠ D.en ∧ tod ≠ D.si ∧ tod ≠ D.de ∧ fo ≠ tod := by
        obtain ⟨evs, e5⟩ := Bg.st.enO
        obtain ⟨zs, e6, _⟩ := Bg.st.si
        obtain ⟨ys, e7, _⟩ := Bg.st.de
        refine ⟨fun hp => ?_, fun z => (by rw [z, e5] at hto; cases hto), fun z => (by rw [z, e6] at hto; cases hto), fun z => (by rw [z, e7] at hto; cases hto), fun z => (by rw [← z, efo2] at hto; cases hto)⟩
        obtain ⟨⟨xs, e⟩, _⟩ := Ug.l tod hp
        rw [hto] at e
        cases e
      generalize upd Hg tod (.lst []) = Hh at Bh Uh dkp7 efo3 eto ⊢
      refine ⟨_, rfl, m, CM K, dx, _, rfl, Bh.ob, T.clM, T.m9, (by show 8 < 1000; decide), ?_⟩
      rw [show putF "todo" (V.ref tod) ([("store", .ref s), ("yes", .int y), ("functions", .ref fu), ("keeping", .bl keep), ("kept", .ref kp), ("pair", .non), ("steps", .int 0), ("found", .ref fo)] : List (Str × V)) = ([("store", .ref s), ("yes", .int y), ("functions", .ref fu), ("keeping", .bl keep), ("kept", .ref kp), ("pair", .non), ("steps", .int 0), ("found", .ref fo), ("todo", .ref tod)] : List (Str × V)) from rfl]
      obtain ⟨krows, ekp7, _⟩ := id dkp7
      have Ui := Uh.attr (gs := ([("store", .ref s), ("yes", .int y), ("functions", .ref fu), ("keeping", .bl keep), ("kept", .ref kp), ("pair", .non), ("steps", .int 0), ("found", .ref fo), ("todo", .ref tod)] : List (Str × V))) Bh
      have Bi := Bh.attr (gs := ([("store", .ref s), ("yes", .int y), ("functions", .ref fu), ("keeping", .bl keep), ("kept", .ref kp), ("pair", .non), ("steps", .int 0), ("found", .ref fo), ("todo", .ref tod)] : List (Str × V)))
      have dkp8 : DM w _ kp [] := dkp7.keeps (H' := upd Hh m (.ins (CM K) dx ([("store", .ref s), ("yes", .int y), ("functions", .ref fu), ("keeping", .bl keep), ("kept", .ref kp), ("pair", .non), ("steps", .int 0), ("found", .ref fo), ("todo", .ref tod)] : List (Str × V)))) (fun o e => (upd_ne (ne_of ekp7 Bh.ob (by intro z; cases z))).trans e) (Kq.ins Bh.ob).1
      have efo4 := (upd_ne (o := HO.ins (CM K) dx ([("store", .ref s), ("yes", .int y), ("functions", .ref fu), ("keeping", .bl keep), ("kept", .ref kp), ("pair", .non), ("steps", .int 0), ("found", .ref fo), ("todo", .ref tod)] : List (Str × V))) (ne_of efo3 Bh.ob (by intro z; cases z))).trans efo3
      have eto4 := (upd_ne (o := HO.ins (CM K) dx ([("store", .ref s), ("yes", .int y), ("functions", .ref fu), ("keeping", .bl keep), ("kept", .ref kp), ("pair", .non), ("steps", .int 0), ("found", .ref fo), ("todo", .ref tod)] : List (Str × V))) (ne_of eto Bh.ob (by intro z; cases z))).trans eto
      generalize upd Hh m (.ins (CM K) dx ([("store", .ref s), ("yes", .int y), ("functions", .ref fu), ("keeping", .bl keep), ("kept", .ref kp), ("pair", .non), ("steps", .int 0), ("found", .ref fo), ("todo", .ref tod)] : List (Str × V))) = Hi at Bi Ui dkp8 efo4 eto4 ⊢
      clear Bh Uh dkp7 efo3 eto Bg Ug dkp6 efo2 Bf Uf dkp5 efo Be Ue dkp4 dkp3 dkp2 dkp ekp ekp2 ekp3 ekp4 ekp5 ekp6 ekp7
      -- the machine stands
      obtain ⟨t1, t2, t3⟩ := Bi.st.three
      have Z0 : MachAt K w H0 Hi m ⟨dx, s, fu, kp, fo, tod, D, y, pls⟩ Pf keep E7 ⟨0, [], []⟩ none [] := by
        refine ⟨⟨.non, Bi.ob, rfl⟩, Bi.st, d3', Ui.d, ⟨[], efo4, .nil⟩, ⟨[], eto4, .nil⟩, ⟨⟨[], dkp8, .nil⟩, fun c _ => rfl, List.nodup_nil, List.nodup_nil, fun q hq => by cases hq⟩, ?_, fun p hp hl => ?_, fun p hp => (Ui.l p hp).1, nk, Bi.ms, fun b o e => Bi.fr b o (s0H b o e) (fun z => by rw [z, m0] at e; cases e), m0, Same.free s0H kp0, Same.free s0H Bi.nw.2.1, fun l hl => ?_, fun q hq => by cases hq⟩
        · show [fo, tod, D.en, D.si, D.de].Nodup
          simp only [List.nodup_cons, List.mem_cons, not_or, List.not_mem_nil, not_false_eq_true, and_true, List.nodup_nil]
          exact ⟨⟨nto.2.2.2.2, nfo.2.1, nfo.2.2.1, nfo.2.2.2⟩, ⟨nto.2.1, nto.2.2.1, nto.2.2.2.1⟩, ⟨t1, t2⟩, t3⟩
        · have hl : p ∈ [fo, tod, D.en, D.si, D.de] := hl
          simp only [List.mem_cons, List.not_mem_nil, or_false] at hl
          obtain ⟨_, u1, u2, u3⟩ := Ui.l p hp
          rcases hl with z | z | z | z | z
          · exact nfo.1 (z ▸ hp)
          · exact nto.1 (z ▸ hp)
          · exact u1 z
          · exact u2 z
          · exact u3 z
        · have hl : l ∈ [fo, tod, D.en, D.si, D.de] := hl
          simp only [List.mem_cons, List.not_mem_nil, or_false] at hl
          obtain ⟨v1, v2, v3, v4⟩ := Bi.nw
          rcases hl with z | z | z | z | z
          · rw [z]; exact Same.free s0H fo0
          · rw [z]; exact Same.free s0H to0
          · rw [z]; exact Same.free s0H v1
          · rw [z]; exact Same.free s0H v3
          · rw [z]; exact Same.free s0H v4
      have kti := Bi.kt ⟨_, hm⟩
      have fri := Bi.fr
      obtain ⟨v1, v2, v3, v4⟩ := Bi.nw
      have nm0 : H li = some (.lst avs) := hli
      have lim : li ≠ m := ne_of hli hm (by intro z; cases z)
      have obi := Bi.ob
      clear Bi Ui
      subst ep
      obtain ⟨pa, y0, ys0, rfl, tp0, rp0, _⟩ := id rp
      obtain ⟨pb, y1, ys1, rfl, tp1, rp1, _⟩ := id rp0
      have rp1 : y1 = .str g0.name := rp1
      subst rp1
      refine ⟨_, rfl, m, CM K, dx, _, _, rfl, obi, T.clM, T.m1, rfl, s, D.dx, _, rfl, Z0.st.ob, sf_put D, _, rfl, pa, _, _, .ref pb, rfl, rfl, (tp0.keeps kti).seq, atI_nat (j := 0) rfl, pb, _, _, .str g0.name, rfl, rfl, (tp1.keeps kti).seq, atI_nat (j := 0) rfl, s, D, E7, .w g0.name, _, rfl, Z0.st, rfl, (by show E7.length + 1 ≤ 1000000; omega), fun Hj Ej nm Sj xj lj dj kj => ?_⟩
      have Z1 := Z0.store Sj xj kj
      have lj : Ej.length ≤ E7.length + 1 := lj
      have frk : ∀ {Ha Hb : Hp}, (∀ b o, H b = some o → b ≠ m → Ha b = some o) → Kp D Ha Hb → ∀ b o, H b = some o → b ≠ m → Hb b = some o := fun h k b o e n => k b o (h b o e n) (ne_of_none e v1) (ne_of_none e v2) (ne_of_none e v3) (ne_of_none e v4)
      have frj := frk fri kj
      have dmain : Den Ej (.w "main") nm := by rw [← gn]; exact dj
      have ktm : ∀ {Ha : Hp}, (∀ b o, H b = some o → b ≠ m → Ha b = some o) → KT0 H Ha := fun h a xs e => h a _ e (ne_of e hm (by intro z; cases z))
      obtain ⟨pv1, b1, _⟩ := Z1.ob
      have lav : avs.length = args.length := (Paired.length ra).symm
      have la12 : args.length ≤ 12 := by rw [← lg]; exact (gp g0 List.mem_cons_self).2
      refine ⟨_, rfl, m, dx, _, rfl, b1, mf_no1 ⟨dx, s, fu, kp, fo, tod, D, y, pls⟩ keep pv1 0, _, rfl, _, rfl, li, rfl, ⟨_, SqL.of (frj _ _ hli lim)⟩, fun Dl hDl => ?_⟩
      have Dl0 : H Dl = none := by
        cases e : H Dl with
        | none => rfl
        | some o =>
          by_cases n : Dl = m
          · rw [n, b1] at hDl
            cases hDl
          · rw [frj _ _ e n] at hDl
            cases hDl
      have nls : Dl ∉ MA.ls ⟨dx, s, fu, kp, fo, tod, D, y, pls⟩ := fun hl => by
        obtain ⟨evs, e5⟩ := Z1.st.enO
        obtain ⟨zs, e6, _⟩ := Z1.st.si
        obtain ⟨ys, e7, _⟩ := Z1.st.de
        obtain ⟨fns, e8, _⟩ := Z1.fo
        obtain ⟨tvs, e9, _⟩ := Z1.to
        have hl : Dl ∈ [fo, tod, D.en, D.si, D.de] := hl
        simp only [List.mem_cons, List.not_mem_nil, or_false] at hl
        rcases hl with z | z | z | z | z
        · have e8 : Hj fo = some (.lst (fns.map vi).reverse) := e8
          rw [z, e8] at hDl; cases hDl
        · have e9 : Hj tod = some (.lst tvs.reverse) := e9
          rw [z, e9] at hDl; cases hDl
        · rw [z, e5] at hDl; cases hDl
        · rw [z, e6] at hDl; cases hDl
        · rw [z, e7] at hDl; cases hDl
      have npl : Dl ∉ pls := fun hp => by
        obtain ⟨xs, e⟩ := Z1.plo Dl hp
        rw [e] at hDl
        cases hDl
      have nDl : Dl ≠ D.en ∧ Dl ≠ D.nu ∧ Dl ≠ D.si ∧ Dl ≠ D.de := by
        refine ⟨fun z => nls ?_, fun z => ?_, fun z => nls ?_, fun z => nls ?_⟩
        · rw [z]; exact (MA.mem ⟨dx, s, fu, kp, fo, tod, D, y, pls⟩).2.2.1
        · obtain ⟨rows, e⟩ := Z1.st.nuO
          rw [z, e] at hDl
          cases hDl
        · rw [z]; exact (MA.mem ⟨dx, s, fu, kp, fo, tod, D, y, pls⟩).2.2.2.1
        · rw [z]; exact (MA.mem ⟨dx, s, fu, kp, fo, tod, D, y, pls⟩).2.2.2.2
      refine lc_list (K := K) (a := li) (xs := avs) (fun i H' => ∃ (Ex : List Ent) (tk : List Nat), MachAt K w H0 H' m ⟨dx, s, fu, kp, fo, tod, D, y, pls⟩ (g0 :: rest) keep Ex ⟨0, [], []⟩ none [] ∧ Ext Ej Ex ∧ (∀ b o, H b = some o → b ≠ m → H' b = some o) ∧ H' Dl = some (.lst (tk.map vi)) ∧ Dens Ex (args.take i) tk ∧ Ex.length ≤ Ej.length + sizes (args.take i))
        ⟨Ej, [], Z1.same (Same.laid hDl), Ext.refl Ej, fun b o e n => Same.laid hDl _ _ (frj b o e n), upd_same, .nil, Nat.le_refl _⟩ (fun i H' _ q => by obtain ⟨_, _, _, _, q, _⟩ := q; exact SqL.of (q _ _ hli lim)) ?_ ?_
      · rintro i z H' hz ⟨Ex, tk, Zx, xx, fx, ex, dk, lx⟩
        have hi : i < args.length := by rw [← lav]; exact (List.getElem?_eq_some_iff.mp hz).1
        obtain ⟨z', hz', rz⟩ := paired_get ra (List.getElem?_eq_getElem hi)
        rw [hz] at hz'
        cases hz'
        have etk : args.take (i + 1) = args.take i ++ [args[i]] := List.take_succ_eq_append_getElem hi
        have esz : sizes (args.take (i + 1)) = sizes (args.take i) + args[i].size := by
          rw [etk, sizes_append]
          rfl
        have ele : sizes (args.take (i + 1)) ≤ sizes args := by
          have e2 : sizes args = sizes (args.take (i + 1)) + sizes (args.drop (i + 1)) := by rw [← sizes_append, List.take_append_drop]
          omega
        have ltk : tk.length = i := by
          rw [← Paired.length dk, List.length_take]
          omega
        obtain ⟨pvx, bx, _⟩ := Zx.ob
        have sx := Zx.st
        refine ⟨rfl, _, rfl, m, CM K, dx, _, _, rfl, bx, T.clM, T.m1, mf_st ⟨dx, s, fu, kp, fo, tod, D, y, pls⟩ keep pvx 0, s, D.dx, _, rfl, Zx.st.ob, sf_put D, _, rfl, s, D, Ex, args[i], _, rfl, Zx.st, rz.keeps (ktm fx), by omega, fun H5 E5 n5 S5 x5 l5 d5 k5 => ?_⟩
        have Z5 := Zx.store S5 x5 k5
        have e5 := k5 _ _ ex nDl.1 nDl.2.1 nDl.2.2.1 nDl.2.2.2
        have f5 := frk fx k5
        refine ⟨_, e5, by rw [List.length_map]; omega, E5, tk ++ [n5], Z5.third e5 nls npl (fun q hq => by cases hq) (Same.free s0H Dl0), xx.trans x5, fun b o e n => (upd_ne (ne_of_none e Dl0)).trans (f5 b o e n), ?_, ?_, by omega⟩
        · rw [upd_same, List.map_append]
          rfl
        · rw [etk]
          exact Paired.snoc (dk.ext x5) d5
      · rintro H' ⟨Ex, tk, Zx, xx, fx, ex, dk, lx⟩
        rw [lav, List.take_length] at dk lx
        refine ⟨Dl, _, rfl, .inl ⟨SqL.of ex, fun q hq => ?_⟩⟩
        have fo0 : fnOf (g0 :: rest) "main" = some g0 := by
          unfold fnOf
          rw [if_pos gn]
        obtain ⟨u1, u2⟩ := gp g0 List.mem_cons_self
        refine ⟨H0, m, ⟨dx, s, fu, kp, fo, tod, D, y, pls⟩, g0 :: rest, keep, Ex, 0, [], [], [], "main", args, nm, q, tk, g0, rfl, Zx.same (Same.laid hq), dmain.ext xx, upd_same, dk, fo0, lg, u1, u2, by decide, by decide, fun H9 kl9 Z9 l9 => ?_⟩
        have l9 : kl9.length ≤ 1 := l9
        have ep : prAt keep ⟨"main", args⟩ 0 [] = none := by cases keep <;> rfl
        rw [ep] at Z9
        refine k H9 _ Ex kl9 _ ?_ Z9 (by omega)
        show beginAt keep (g0 :: rest) ⟨"main", args⟩ 0 [] [] = _
        unfold beginAt
        dsimp only
        rw [fo0]
        dsimp only
        rw [if_pos lg]
end
end OgW
/-! OgKD: a written dict of texts and ints: its keys, its copy. -/
namespace OgW
open PySem PySem.Spec PyProof.Rows L2 OgD Og OgT
/-- at d the written dict kvs -/
def WD (K : PySem.W.Frag) (w : World) (d : Addr) (kvs : List (Str × Int)) : Prop := ∃ es n, KDict K w d es n ∧ Paired (fun (q : Str × Int) (e : DictEntry) => (∃ t, e.key = .str q.1 t) ∧ ∃ t, e.val = .int q.2 t) kvs es.toList ∧ (kvs.map (·.1)).Nodup ∧ kvs.length ≤ 100
def wdK (kvs : List (Str × Int)) : List (Key × V) := kvs.map fun q => ((.inr q.1 : Key), V.int q.2)
theorem wd_find {z : Str} : ∀ {kvs : List (Str × Int)} {es : List DictEntry}, Paired (fun (q : Str × Int) (e : DictEntry) => (∃ t, e.key = .str q.1 t) ∧ ∃ t, e.val = .int q.2 t) kvs es →
    (z ∈ kvs.map (·.1) → ∃ e, es.find? (·.key.isStr z) = some e) ∧ (z ∉ kvs.map (·.1) → es.find? (·.key.isStr z) = none) ∧ es.any (·.refKey) = false
  | _, _, .nil => ⟨fun h => (by cases h), fun _ => rfl, rfl⟩
  | _, _, @Paired.cons _ _ _ q e qs es ⟨⟨t, h⟩, _⟩ r => by
    obtain ⟨i1, i2, i3⟩ := wd_find (z := z) r
    have k1 : e.key.isStr z = decide (q.1 = z) := by
      rw [h]
      show (q.1 == z) = _
      by_cases e : q.1 = z
      · rw [e, decide_eq_true rfl]
        exact beq_self_eq_true z
      · rw [decide_eq_false e]
        exact beq_eq_false_iff_ne.mpr e
    have k2 : e.refKey = false := by
      unfold DictEntry.refKey
      rw [h]
    refine ⟨fun m => ?_, fun m => ?_, ?_⟩
    · by_cases e1 : q.1 = z
      · exact ⟨e, by rw [List.find?_cons, k1, decide_eq_true e1]⟩
      · rw [List.find?_cons, k1, decide_eq_false e1]
        rcases List.mem_cons.mp m with e2 | m
        · exact absurd e2.symm e1
        · exact i1 m
    · have e1 : ¬ q.1 = z := fun e => m (by rw [← e]; exact List.mem_cons_self)
      rw [List.find?_cons, k1, decide_eq_false e1]
      exact i2 fun m' => m (List.mem_cons_of_mem _ m')
    · rw [List.any_cons, k2, i3]
      rfl
/-- z in d -/
theorem WD.has {K : PySem.W.Frag} {w : World} {d : Addr} {kvs : List (Str × Int)} (W : WD K w d kvs) (z : Str) : ∃ es n r, KDict K w d es n ∧ PySem.W.nsIn K d z = some r ∧ r.isSome = decide (z ∈ kvs.map (·.1)) := by
  obtain ⟨es, n, D, p, nd, _⟩ := W
  obtain ⟨f1, f2, f3⟩ := wd_find (z := z) p
  by_cases m : z ∈ kvs.map (·.1)
  · obtain ⟨e, q⟩ := f1 m
    exact ⟨es, n, some e.val, D, by unfold PySem.W.nsIn; rw [D.at_]; dsimp only; rw [q], by rw [decide_eq_true m]; rfl⟩
  · have q := f2 m
    exact ⟨es, n, none, D, by unfold PySem.W.nsIn; rw [D.at_]; dsimp only; rw [q]; dsimp only; rw [f3]; rfl, by rw [decide_eq_false m]; rfl⟩
theorem op_in_wd {X : Cx} {d : Addr} {kvs : List (Str × Int)} (W : WD X.K X.w d kvs) : OpR X (compareOp .In) (fun x y H Q => ∃ z : Str, x = .str z ∧ y = .ref d ∧ Q (.bl (decide (z ∈ kvs.map (·.1)))) H) := by
  intro pins s σ H x y v u Q I rx ry h
  obtain ⟨z, rfl, rfl, q⟩ := h
  obtain ⟨es, n, r, D, e, er⟩ := W.has z
  refine op_in_kd D pins s σ H _ _ v u Q I rx ry ⟨z, r, rfl, rfl, e, ?_⟩
  rw [er]
  exact q
/-- dict(d) -/
theorem call_dictW {X : Cx} {d : Addr} {kvs : List (Str × Int)} (W : WD X.K X.w d kvs) : L2.CallR X (.type "dict") (fun xs H Q => xs = [.ref d] ∧ ∀ p, H p = none → Q (.ref p) (upd H p (.dK (wdK kvs)))) := by
  intro pins s σ H xs us Q I r h
  obtain ⟨rfl, h⟩ := h
  obtain ⟨u, rfl, ru⟩ := vals1 r
  cases ru
  obtain ⟨es, n, D, p, nd, lk⟩ := W
  have hS := I.kIn _ _ D.at_
  have pr : ∃ vs : List (Key × Value), KV (wdK kvs) vs ∧ Pairs (mixKind X.prog X.w) es.toList vs ∧ vs.map (·.1) = (wdK kvs).map (·.1) := by
    clear nd lk D h hS
    generalize es.toList = l at p
    induction p with
    | nil => exact ⟨[], .nil, .nil, rfl⟩
    | @cons q e qs l h t ih =>
      obtain ⟨⟨t1, h1⟩, t2, h2⟩ := h
      obtain ⟨vs, v1, v2, v3⟩ := ih
      refine ⟨((.inr q.1 : Key), e.val) :: vs, .cons ⟨rfl, ?_⟩ v1, .cons ?_ rfl v2, ?_⟩
      · rw [h2]
        exact ⟨t2, rfl⟩
      · rw [h1]
        exact keyIs_str q.1 t1
      · show (.inr q.1 : Key) :: vs.map (·.1) = _
        rw [v3]
        rfl
  obtain ⟨vs, v1, v2, v3⟩ := pr
  have ko : KeysOf (mixKind X.prog X.w) es := fun e he => by
    obtain ⟨x, t, e1, e2⟩ := D.lit.all e (Array.mem_toList_iff.mpr he)
    refine ⟨.inr x, ?_, ?_⟩
    · rw [e1]
      exact keyIs_str x t
    · rw [e2]
      rfl
  have ndk : (vs.map (·.1)).Nodup := by
    rw [v3]
    unfold wdK
    rw [List.map_map]
    have : (kvs.map ((fun x : Key × V => x.1) ∘ fun q => ((.inr q.1 : Key), V.int q.2))) = (kvs.map (·.1)).map Sum.inr := by rw [List.map_map]; rfl
    rw [this]
    exact List.Pairwise.map _ (fun a b h z => h (Sum.inr.inj z)) nd
  have dd : s.heap.DictOf (mixKind X.prog X.w) d vs := ⟨_, es, n, hS, ⟨rfl, rfl, rfl⟩, rfl, ko, v2, ndk⟩
  have lv : vs.length ≤ sizeLine := by
    have := Paired.length v1
    unfold wdK at this
    rw [List.length_map] at this
    have := line6
    omega
  have lw : (wdK kvs).length ≤ sizeLine := by rw [Paired.length v1]; exact lv
  refine kt_call_dict D.low dd lv fun h' dd' hs => ?_
  exact ⟨.ref s.heap.objs.size, _, I.laid (a := s.heap.objs.size) (o := .dK (wdK kvs)) (t' := s.toks) (fun b q hq => (hs.2 b (Nat.ne_of_lt (Heap.lt_size hq))).trans (Heap.get?_push_of_some _ hq)) (Nat.le_refl _) (dk_new lw (beq_eq_false_iff_ne.mpr (Ne.symm (Nat.ne_of_lt I.big))) v1 dd'), rfl, h _ (I.hok.fresh (Nat.le_refl _))⟩
end OgW
/-! OgEnum: enumerate of a tuple; a list extended by a tuple. -/
namespace OgZ
open PySem PySem.Spec PyProof.Rows L2
abbrev en1 (h : Heap) (o : Obj) : Heap := (h.push o).push { cls := .type "enumerate", data := .fields #[.none, .bool false, .ref h.objs.size, rawInt 0, .none, .none] }
set_option maxHeartbeats 1000000 in
theorem enum_new1 {v : Value} {o : Obj} {G : Heap → Prop} (B : Begins v o G) : Meets (Builtin.«enumerate.__new__» ⟨[.type "enumerate", v], []⟩) (fun _ R s => G s.heap ∧ R (.ok (.ret (.ref (s.heap.push o).objs.size))) { s with heap := en1 s.heap o }) :=
  .of_wp fun prog w A R s h => by
    obtain ⟨hp, a1, a2, a3, a4⟩ := s
    obtain ⟨g, h⟩ := h
    have sub := sub_enumerate
    have it : ∀ {A' : Around} {E Q : Value → Shared → Prop}, Q (.ref hp.objs.size) ⟨hp.push o, a1, a2, a3, a4⟩ → wpAny (model prog w) A' (pyIter v) Q E ⟨hp, a1, a2, a3, a4⟩ := fun q => B.iter prog w _ _ ⟨hp, a1, a2, a3, a4⟩ _ g q
    wp_walk using it
    refine wpAny_stack_any fun _ => wpAny_pure ?_
    split
    · rename_i c _ _ _ _ _
      cases (c == Value.type "enumerate")
      all_goals
        wp_walk using it
        exact ⟨_, rfl, h⟩
    · wp_walk using it
      exact ⟨_, rfl, h⟩
theorem enum_call1 {prog : Program} {w : World} {A : Around} {E Q : Value → Shared → Prop} {s : Shared} {v : Value} {o : Obj} {G : Heap → Prop} (B : Begins v o G) (g : G s.heap)
    (h : ∀ h', IsEnum h' (s.heap.objs.size + 1) s.heap.objs.size 0 .none → h'.get? s.heap.objs.size = some o → (∀ b q, s.heap.get? b = some q → h'.get? b = some q) → Q (.ref (s.heap.objs.size + 1)) { s with heap := h' }) : wpAny (model prog w) A (call (.type "enumerate") [v]) Q E s := by
  refine callType_new F.called_enumerate (by decide) (F.typeCall_enumerate_1 v) (F.newCall_enumerate_1 v) (fun ob => F.args_object_init_2 ob v) F.entry_enumerate_new (enum_new1 B) ⟨g, ?_⟩
  have z : (s.heap.push o).objs.size = s.heap.objs.size + 1 := Heap.size_push ..
  have e : IsEnum (en1 s.heap o) (s.heap.push o).objs.size s.heap.objs.size 0 .none := Heap.get?_push_size (s.heap.push o) rfl
  rw [z] at e
  show _ ∧ _
  rw [z]
  exact ⟨⟨_, e, rfl⟩, h _ e (Heap.get?_push_of_some _ (Heap.get?_push_size _ B.free)) fun b q x => Heap.get?_push_of_some _ (Heap.get?_push_of_some _ x)⟩
/-- the items of the tuple at a, each with its place -/
def ItET (K : PySem.W.Frag) (a : Addr) : It :=
  ⟨fun i H => ∃ t : List V, SqT K H a t ∧ i < t.length, fun i H v H' => ∃ p x, v = .ref p ∧ H p = none ∧ H' = upd H p (.tup [.int (i : Nat), x]) ∧ ∀ t, SqT K H a t → t[i]? = some x, fun i H => ∃ t : List V, SqT K H a t ∧ i = t.length⟩
def est (e j a : Addr) (n : Nat) (h : Heap) : Prop := (∃ old, IsEnum h e j ((n : Nat) : Int) old) ∧ h.IsTupleIter j a n ∧ e ≠ j ∧ a ≠ j ∧ e ≠ a
theorem turnET {P : Program} {w : World} {K : PySem.W.Frag} {ts : List Expr} {kk : Nat} {tp : Pos} {a e j : Addr} : Turn P w K (.Tuple ts kk tp) (ItET K a) [e, j] e (est e j a) where
  mem := by simp
  obj := fun n h st c hc => by
    obtain ⟨⟨old, g1⟩, ⟨o, g2, _, g3⟩, _⟩ := st
    rcases List.mem_cons.mp hc with z | z
    · rw [z]
      exact ⟨_, g1, fun v r => nomatch r⟩
    · rw [List.mem_singleton.mp z]
      exact ⟨o, g2, fun v r => by rw [g3] at r; cases r⟩
  keep := fun n h h' st k => let ⟨⟨old, g1⟩, g2, g3⟩ := st; ⟨⟨old, k e (by simp) _ g1⟩, g2.at fun o q => k j (by simp) o q, g3⟩
  item := by
    intro X eP ew eK hc n pins s σ H E I hf st hg
    subst eP ew eK
    obtain ⟨⟨old, g1⟩, g2, g3, g4, g5⟩ := st
    obtain ⟨t, qt, n1⟩ := hg
    obtain ⟨vs, rt, ist, _⟩ := I.tuple qt
    have hh := I.ok.hd hc
    have el : e < s.heap.objs.size := Heap.lt_size g1
    have jl : j < s.heap.objs.size := by obtain ⟨_, q, _⟩ := g2; exact Heap.lt_size q
    have sz := rt.length
    have dt := Draws.tuple (prog := X.prog) (w := X.w) (A := X.A.in1) hh j a g4 vs.toArray
    have ef : e ∉ [j, a] := fun m => by
      rcases List.mem_cons.mp m with z | z
      · exact g3 z
      · exact g5 (List.mem_singleton.mp z)
    refine wpAny_pyNext_enum_itemD dt g1 ⟨g2, ist⟩ (by rw [List.size_toArray]; omega) g3 ef fun u h' tk pu out st2 new ns kp => ?_
    obtain ⟨x, hx, rx⟩ : ∃ x, t[n]? = some x ∧ RelV x u := by
      obtain ⟨u', hu, ru⟩ := rt.get (List.getElem?_eq_getElem n1)
      have q : vs[n]? = some u := by simpa using pu
      rw [hu] at q
      cases q
      exact ⟨_, List.getElem?_eq_getElem n1, ru⟩
    refine ⟨_, rfl, wpAny_letOwnedTupleGo_enum (s := { s with heap := h', toks := tk + 1 }) out fun h2 e2 sb => ?_⟩
    have new2 : h2.get? s.heap.objs.size = some { cls := .type "tuple", data := .seq #[.int n tk, u] } := (sb.2 _ (Nat.ne_of_gt el)).trans new
    have ok : ObjOk X.prog X.w (upd H s.heap.objs.size (.tup [.int (n : Nat), x])) h2 s.heap.objs.size (.tup [.int (n : Nat), x]) := ⟨by show 2 ≤ sizeLine; decide, [.int n tk, u], .cons ⟨tk, rfl⟩ (.cons rx .nil), ⟨_, new2, rfl, _, rfl⟩⟩
    have I1 : L2.Inv X pins σ (upd H s.heap.objs.size (.tup [.int (n : Nat), x])) { s with heap := h2, toks := tk + 1 } := by
      refine I.turnedNew (t' := tk + 1) (ch := [e, j]) (fun c o hb q => ?_) hf (Nat.le_refl _) ok
      have c1 : c ≠ e := fun z => hb (by simp [z])
      exact (sb.2 c c1).trans (kp c o c1 (fun z => hb (by simp [z])) q)
    refine ⟨.ref s.heap.objs.size, _, I1, rfl, ⟨_, x, rfl, I.hok.fresh (Nat.le_refl _), rfl, fun t' q' => by rw [I.tuple_inj q' qt]; exact hx⟩, ⟨⟨u, ?_⟩, st2.1.at fun o q => (sb.2 j g3.symm).trans q, g3, g4, g5⟩, fun c hc => ?_⟩
    · have en : ((n + 1 : Nat) : Int) = (n : Int) + 1 := by omega
      rw [en]
      exact e2
    · have lt : c < s.heap.objs.size := by
        rcases List.mem_cons.mp hc with z | z
        · rw [z]; exact el
        · rw [List.mem_singleton.mp z]; exact jl
      rw [upd_ne (Nat.ne_of_lt lt)]
      exact (hf c hc).1
  done := by
    intro X eP ew eK hc n pins s σ H E I hf st hg
    subst eP ew eK
    obtain ⟨⟨old, g1⟩, g2, g3, g4, g5⟩ := st
    obtain ⟨t, qt, n1⟩ := hg
    obtain ⟨vs, rt, ist, _⟩ := I.tuple qt
    have hh := I.ok.hd hc
    have sz := rt.length
    have dt := Draws.tuple (prog := X.prog) (w := X.w) (A := X.A.in1) hh j a g4 vs.toArray
    have en : n = vs.toArray.size := by rw [List.size_toArray]; omega
    refine wpAny_pyNext_enum_endD dt g1 (by rw [← en]; exact ⟨g2, ist⟩) fun h' kp => ?_
    obtain ⟨f0, f1, f2, f3, f4, f5⟩ := hf j (by simp)
    exact ⟨rfl, I.turned (t' := s.toks) (fun b o hb q => kp b o hb q) f0 f1 f3 f4 f5⟩
  self := fun A n s Q E st h => let ⟨⟨_, g1⟩, _⟩ := st; wpAny_pyIter_enum g1 h
def iET (K : PySem.W.Frag) (ta : TA) : TI := fun σ H R => ta σ H fun vs H1 => ∃ a t, vs = [.ref a] ∧ SqT K H1 a t ∧ R (ItET K a) H1
theorem pi_enumT {X : Cx} {e : Expr} {ta : TA} {ep pos tp : Pos} {ts : List Expr} {kk : Nat} (hg : Gl X "enumerate") (hm : X.mg "enumerate" = none) (ha : PA X [e] ta) (hs : starEach [e] X.env = [(false, eval e X.env)] := by rfl) :
    PI X (.Tuple ts kk tp) (.Call (.Name "enumerate" ep) [e] [] pos) (iET X.K ta) := by
  refine ⟨fun pins s σ H R I h => Call_ (ld_blt I hg hm boot_enumerate (PyProof.Rows.callWith_type1 (thn (ha.run pos pins s σ H _ I h) fun us s1 ⟨vs, H1, I1, r1, a, t, ex, qt, q⟩ => ?_) hs rfl))⟩
  subst ex
  obtain ⟨u1, rfl, ru⟩ := vals1 r1
  obtain rfl : u1 = Value.ref a := ru
  obtain ⟨ws, rt, ist, _⟩ := I1.tuple qt
  obtain ⟨ob, hob, _⟩ := id ist
  have la : a < s1.heap.objs.size := Heap.lt_size hob
  refine enum_call1 (begins_tuple a ws.toArray) ist fun h' e1 j1 kp => wpAny_pyIter_enum e1 ?_
  refine ⟨s1.heap.objs.size + 1, [s1.heap.objs.size + 1, s1.heap.objs.size], _, _, H1, rfl, I1.kept (t' := s1.toks) kp, turnET, ⟨⟨.none, e1⟩, ⟨_, j1, rfl, rfl⟩, Nat.succ_ne_self _, Nat.ne_of_lt la, fun z => ?_⟩, fun c hc => ?_, q⟩
  · have q := la
    rw [← z] at q
    exact absurd q (Nat.not_lt.mpr (Nat.le_succ _))
  · have le : s1.heap.objs.size ≤ c := by
      rcases List.mem_cons.mp hc with z | z
      · rw [z]; exact Nat.le_succ _
      · rw [List.mem_singleton.mp z]; exact Nat.le_refl _
    exact I1.fpOk le (I1.hok.fresh le)
/-- turn by turn -/
theorem for_ET {K : PySem.W.Frag} {a : Addr} {t : List V} {g : TG} {tb : TS} {D : Ends} {σ : L2.St} {H : Hp} (Pv : Nat → L2.St → Hp → Prop) (h0 : Pv 0 σ H) (hq : ∀ i σ H, Pv i σ H → SqT K H a t)
    (hs : ∀ (i : Nat) (x : V) (p : Addr) (σ : L2.St) (H : Hp), t[i]? = some x → Pv i σ H → H p = none → g (.ref p) σ (upd H p (.tup [.int (i : Nat), x])) fun σ2 H2 => tb { D with nx := Pv (i + 1), ct := Pv (i + 1), bk := D.nx } σ2 H2) (hd : ∀ σ H, Pv t.length σ H → D.nx σ H) :
    ∃ W : Nat → Nat → L2.St → Hp → Prop, (∃ m, W 0 m σ H) ∧ ∀ i m σ H, W i m σ H →
      ((ItET K a).stop i H ∧ D.nx σ H) ∨ ((ItET K a).go i H ∧ ∃ N : L2.St → Hp → Prop, (∀ σ' H', N σ' H' → ∃ m', m' < m ∧ W (i + 1) m' σ' H') ∧ ∀ v H', (ItET K a).yld i H v H' → g v σ H' fun σ2 H2 => tb { D with nx := N, ct := N, bk := D.nx } σ2 H2) := by
  refine ⟨fun i m σ H => m = t.length - i ∧ i ≤ t.length ∧ Pv i σ H, ⟨_, rfl, Nat.zero_le _, h0⟩, ?_⟩
  rintro i m σ H ⟨rfl, hi, p⟩
  have q := hq i σ H p
  by_cases lt : i < t.length
  · refine .inr ⟨⟨t, q, lt⟩, Pv (i + 1), fun σ' H' p' => ⟨t.length - (i + 1), by omega, rfl, lt, p'⟩, fun v H' y => ?_⟩
    obtain ⟨b, x, rfl, hb, rfl, f⟩ := y
    exact hs i x b σ H (f t q) p hb
  · have e : i = t.length := by omega
    subst e
    exact .inl ⟨⟨t, q, rfl⟩, hd σ H p⟩
/-- xs.extend(a tuple laid) -/
def rExtT : V → List V → Hp → VK → Prop := fun x vs H Q => ∃ l b xs zs, x = .ref l ∧ vs = [.ref b] ∧ H l = some (.lst xs) ∧ H b = some (.tup zs) ∧ xs.length + zs.length ≤ sizeLine ∧ Q .non (upd H l (.lst (xs ++ zs)))
theorem ext_tup (l : Addr) (items : Array Value) (n : Nat) (b : Addr) (zs : Array Value) (k : Nat) (dct : Option Addr) (sl : Array (Option Value)) (c1 : ¬(!items.isEmpty && Builtin.List.listTooLong (items.size + zs.size)) = true) (c2 : items.size ≤ sizeLine) (c3 : items.size + zs.size ≤ sizeLine + 1) :
    Meets (Builtin.«list.extend» ⟨[.ref l, .ref b], []⟩) (fun _ R s => s.heap.get? l = some { cls := .type "list", dict := none, data := .seq items n, slots := #[] } ∧ s.heap.get? b = some { cls := .type "tuple", dict := dct, data := .seq zs k, slots := sl } ∧ R (.ok (.ret Value.none)) { s with heap := s.heap.update l (Obj.mapSeq fun x => x ++ zs) }) :=
  .of_wp fun prog w A R s h => by
    obtain ⟨hp, a1, a2, a3, a4⟩ := s
    obtain ⟨hl, hb, h⟩ := h
    have f1 := AutoSeq1.idx_int
    have f2 := AutoSeq1.sub_tuple_tuple
    have f3 := AutoSeq1.sub_list_list
    have f4 := AutoSeq1.sub_tuple_list
    have f5 := AutoSeq1.sub_list_tuple
    have fit : (items ++ zs).size ≤ sizeLine + 1 := by
      rw [Array.size_append]
      exact c3
    wp_walk using (wpAny_updateSeq hl rfl (hz := c2) (_hz' := fit)), AutoSeq1.wpAny_loadPart' hl, AutoSeq1.wpAny_loadPart' hb
    exact ⟨_, rfl, h⟩
theorem mt_extT {X : Cx} : MtM X "list.extend" rExtT := by
  intro pins s σ H x vs v us Q I rx rv h
  obtain ⟨l, b, xs, zs, rfl, rfl, hl, hb, sz, q⟩ := h
  cases rx
  obtain ⟨u, rfl, ru⟩ := rv.one
  obtain rfl : u = Value.ref b := ru
  obtain ⟨z1, its, n, r1, _, e1⟩ := I.lstM hl
  obtain ⟨z2, js, r2, ⟨oc, od, dt, sl⟩, e2, ec, k, ed⟩ := (show ObjOk X.prog X.w H s.heap b (.tup zs) from I.hok b _ hb)
  have ec : oc = .type "tuple" := ec
  have ed : dt = .seq js.toArray k := ed
  subst ec ed
  have fit : its.toArray.size + js.toArray.size ≤ sizeLine := by
    have := r1.length
    have := r2.length
    rw [List.size_toArray, List.size_toArray]
    omega
  have short : ¬ (!its.toArray.isEmpty && Builtin.List.listTooLong (its.toArray.size + js.toArray.size)) = true := by
    rw [notLongL fit, Bool.and_false]
    exact Bool.false_ne_true
  refine call_meets F.slot_list_extend ⟨_, e1, rfl⟩ F.entry_list_extend (F.args_list_extend_2 _ _) (ext_tup l its.toArray n b js.toArray k od sl short (by omega) (by omega)) ⟨e1, e2, ?_⟩
  exact ⟨.non, _, I.lset (its' := its ++ js) hl e1 (by simp) (r1.append r2) (by rw [List.length_append]; exact sz), rfl, q⟩
end OgZ
/-! OgC1: is_word, has_head, counts_of. -/
namespace OgW
open PySem PySem.Spec PyProof.Rows L2 OgD Og OgT
def SPW : List (Str × Int) := [("quote", 1), ("if", 3), ("same", 2), ("word", 1), ("head", 1), ("tail", 1), ("join", 2)]
def cntK (P : List Fn) : List (Key × V) := wdK SPW ++ P.map fun g => ((.inr g.name : Key), V.int (g.ps.length : Nat))
def cn (P : List Fn) (k : Str) : Option Nat := if k = "quote" then some 1 else if k = "if" then some 3 else if k = "same" then some 2 else if k = "word" then some 1 else if k = "head" then some 1 else if k = "tail" then some 1 else if k = "join" then some 2 else (fnOf P k).map fun g => g.ps.length
theorem cntK_val (P : List Fn) (k : Str) : valV (cntK P) (.inr k) = (cn P k).map fun n => V.int (n : Nat) := by
  unfold cntK cn
  have step : ∀ (x : Str) (n : Nat) (r : List (Key × V)) (o : Option Nat), valV r (.inr k) = o.map (fun n => V.int (n : Nat)) → valV (((.inr x : Key), V.int (n : Nat)) :: r) (.inr k) = (if k = x then some n else o).map fun n => V.int (n : Nat) := fun x n r o h => by
    by_cases e : k = x
    · rw [if_pos e]
      exact valV_pos (p := ((.inr x : Key), V.int (n : Nat))) (by rw [e])
    · rw [if_neg e, ← h]
      exact valV_neg (p := ((.inr x : Key), V.int (n : Nat))) fun z => e (Sum.inr.inj z).symm
  refine step "quote" 1 _ _ (step "if" 3 _ _ (step "same" 2 _ _ (step "word" 1 _ _ (step "head" 1 _ _ (step "tail" 1 _ _ (step "join" 2 _ _ ?_))))))
  induction P with
  | nil => rfl
  | cons g P ih =>
    show valV (((.inr g.name : Key), V.int (g.ps.length : Nat)) :: _) (.inr k) = _
    refine (step g.name g.ps.length _ _ ih).trans ?_
    have ef : fnOf (g :: P) k = if g.name = k then some g else fnOf P k := rfl
    rw [ef]
    by_cases e : g.name = k
    · rw [if_pos e, if_pos e.symm]
      rfl
    · rw [if_neg e, if_neg fun z => e z.symm]
section
variable {P : Program} {w : World} {K : PySem.W.Frag} {mg : Str → Option Value} {base : Heap}
def spCW (K : PySem.W.Frag) : Sp := fun vs H Q _ => ∃ (v : V) (b : Bool), vs = [v] ∧ WT K H v b ∧ Q (.bl b) H
theorem sc_cisw : FnScope ["value"] ["value"] (defScope s_is_word) := ⟨rfl, rfl, rfl, by decide +kernel, rfl, by decide +kernel, by decide +kernel⟩
theorem ok_cisw {f : Addr} {fd : FuncData} (F : FnS K s_is_word "is_word" "is_word" f fd) (T : Txt K mg) : FnOk P w K mg base CX0 1 f fd ["value"] (spCW K) := by
  refine ok0 F sc_cisw (fun vs H Q E h => ?_) (fun cdv A0 outer s0 H vs Q E0 hr h => ?_)
  · obtain ⟨v, b, rfl, _⟩ := h
    rfl
  · obtain ⟨v, b, rfl, hw, k⟩ := h
    refine ⟨_, (pss_one (ps_ret (pe_callB call_isStr (by rfl) T.isi b_isi (pa_cons (pv 0) (pa_cons (pe_bltn (v := .ty "str") (by rfl) T.str b_str rfl) pa_nil))))), ?_⟩
    exact ⟨v, rfl, v, b, rfl, hw, k⟩
def spHH (K : PySem.W.Frag) : Sp := fun vs H Q _ => ∃ (v : V) (g : Fn), vs = [v] ∧ RepV K H (encF g) v ∧ Q (.bl true) H
theorem sc_hh : FnScope ["function"] ["function"] (defScope s_has_head) := ⟨rfl, rfl, rfl, by decide +kernel, rfl, by decide +kernel, by decide +kernel⟩
/-- how a function stands -/
theorem encF_rep {H : Hp} {v : V} {g : Fn} (h : RepV K H (encF g) v) : ∃ a b y, v = .ref a ∧ TupAt K H a [.str g.name, .ref b, y] ∧ TupAt K H b (g.ps.map V.str) ∧ RepV K H g.body y := by
  obtain ⟨a, y0, ys, rfl, t, r0, y1, ys1, rfl, r1, y2, ys2, rfl, r2, rfl⟩ := h
  have e0 : y0 = .str g.name := r0
  subst e0
  obtain ⟨b, vs, rfl, tb, l⟩ := r1.list (listV_isW _)
  have p := l.items
  rw [items_listV] at p
  have ev : vs = g.ps.map V.str := by
    clear l tb t
    generalize g.ps = q at p
    induction q generalizing vs with
    | nil =>
      cases p
      rfl
    | cons x q ih =>
      cases p with
      | cons h t =>
        have h : _ = V.str x := h
        rw [h, ih _ t]
        rfl
  subst ev
  exact ⟨a, b, y2, rfl, t, tb, r2⟩
theorem WT.tup {H : Hp} {a : Addr} {xs : List V} (h : TupAt K H a xs) : WT K H (.ref a) false := .inr ⟨a, xs, rfl, h, rfl⟩
theorem WT.str {H : Hp} {z : Str} : WT K H (.str z) true := .inl ⟨z, rfl, rfl⟩
theorem ok_hh {f : Addr} {fd : FuncData} (F : FnS K s_has_head "has_head" "has_head" f fd) (T : Txt K mg) (gW : Glob P w K mg base "is_word" 1 ["value"] (spCW K)) : FnOk P w K mg base CX0 2 f fd ["function"] (spHH K) := by
  obtain ⟨fW, fdW, GW, mW, kW, bW⟩ := gW
  refine ok0 F sc_hh (fun vs H Q E h => ?_) (fun cdv A0 outer s0 H vs Q E0 hr h => ?_)
  · obtain ⟨v, g, rfl, _⟩ := h
    rfl
  · obtain ⟨v, g, rfl, r, k⟩ := h
    refine ⟨_, (pss_one (ps_ret (pe_and (pe_not (pe_call GW hr (by rfl) mW kW bW .nil pass0 (pa_cons (pv 0) pa_nil))) (pe_and (pe_cmpR op_eq (pe_callB call_len_seq (by rfl) T.len b_len (pa_cons (pv 0) pa_nil)) pe_int (nomark _)) (pe_and (pe_call GW hr (by rfl) mW kW bW .nil pass0 (pa_cons (pe_ix ix_tup (pv 0) pe_int (fun _ _ => rfl)) pa_nil)) (pe_one (pe_not (pe_call GW hr (by rfl) mW kW bW .nil pass0 (pa_cons (pe_ix ix_tup (pv 0) pe_int (fun _ _ => rfl)) pa_nil))))))))), ?_⟩
    obtain ⟨a, b, y, rfl, t, tb, _⟩ := encF_rep r
    refine ⟨_, rfl, _, false, rfl, WT.tup t, _, rfl, _, rfl, iteT ?_⟩
    refine ⟨_, rfl, a, _, rfl, .inr t.seq, rfl, _, rfl, iteT ?_⟩
    refine ⟨_, rfl, a, _, _, .str g.name, rfl, rfl, t.seq, atI_nat (j := 0) rfl, _, true, rfl, WT.str, _, rfl, iteT ?_⟩
    exact ⟨_, rfl, a, _, _, .ref b, rfl, rfl, t.seq, atI_nat (j := 1) rfl, _, false, rfl, WT.tup tb, _, rfl, k⟩
def spCnt (K : PySem.W.Frag) : Sp := fun vs H Q _ => ∃ (v : V) (Pf : List Fn), vs = [v] ∧ RepV K H (encP Pf) v ∧ (Pf.map (·.name)).Nodup ∧ (∀ g ∈ Pf, g.name ∉ SPW.map (·.1)) ∧ Pf.length ≤ 1000 ∧ ∀ p, H p = none → Q (.ref p) (upd H p (.dK (cntK Pf)))
theorem sc_cnt : FnScope ["program", "counts", "function"] ["program"] (defScope s_counts_of) := ⟨rfl, rfl, rfl, by decide +kernel, rfl, by decide +kernel, by decide +kernel⟩
/-- how a program stands -/
theorem encP_rep {H : Hp} {v : V} {Pf : List Fn} (h : RepV K H (encP Pf) v) : ∃ a vs, v = .ref a ∧ TupAt K H a vs ∧ Paired (fun g v => RepV K H (encF g) v) Pf vs := by
  obtain ⟨a, vs, rfl, t, l⟩ := h.list (listV_isW _)
  have p := l.items
  unfold encP at p
  rw [items_listV] at p
  refine ⟨a, vs, rfl, t, ?_⟩
  clear t l h
  induction Pf generalizing vs with
  | nil =>
    cases p
    exact .nil
  | cons g Pf ih =>
    cases p with
    | cons h t => exact .cons h (ih _ t)
theorem ok_cnt {f : Addr} {fd : FuncData} (F : FnS K s_counts_of "counts_of" "counts_of" f fd) (T : Txt K mg) (W : WD K w (He.ga K "SPECIAL_WORDS") SPW) (gH : Glob P w K mg base "has_head" 2 ["function"] (spHH K)) : FnOk P w K mg base CX0 3 f fd ["program"] (spCnt K) := by
  obtain ⟨fH, fdH, GH, mH, kH, bH⟩ := gH
  refine ok0 F sc_cnt (fun vs H Q E h => ?_) (fun cdv A0 outer s0 H vs Q E0 hr h => ?_)
  · obtain ⟨v, Pf, rfl, _⟩ := h
    rfl
  · obtain ⟨v, Pf, rfl, r, nd, ns, lP, k⟩ := h
    refine ⟨_, (pss_cons (ps_set (i := 1) sc_cnt.nd rfl (.inl rfl) (pe_callTy (call_dictW W) (by rfl) T.dict (by decide +kernel) (pa_cons (pe_glob (by rfl) T.gW (v := .ref (He.ga K "SPECIAL_WORDS")) rfl) pa_nil)))
 (pss_cons (ps_for PassesOwn.never rfl (pi_tup (pv 0)) (pg_name (i := 2) sc_cnt.nd rfl (.inl rfl))
 (pss_one (ps_if (PW.pt (pw_and (pt_val (pe_call GH hr (by rfl) mH kH bH .nil pass0 (pa_cons (pv 2) pa_nil))) (pw_and1 (pt_cmp (pc_dnotin (hu_of hr) (pe_ix ix_tup (pv 2) pe_int (fun _ _ => rfl)) (pv 1)) rfl))))
 (pss_one (ps_dput (hu_of hr) (pv 1) (pe_ix ix_tup (pv 2) pe_int (fun _ _ => rfl)) (pe_callB call_len_seq (by rfl) T.len b_len (pa_cons (pe_ix ix_tup (pv 2) pe_int (fun _ _ => rfl)) pa_nil)) rfl))
 pss_nil)))
 (pss_one (ps_ret (pv 1))))), ?_⟩
    obtain ⟨a, vs, rfl, t, pr⟩ := encP_rep r
    have l6 := line6
    refine ⟨rfl, fun p hp => ?_⟩
    have lv : vs.length = Pf.length := (Paired.length pr).symm
    refine ⟨_, rfl, a, rfl, ⟨_, (t.keeps fun a xs e => Same.laid hp _ _ e).seq⟩, for_tup (K := K) (a := a) (xs := vs) (fun i σ' H' => ∃ x2 : Option V, σ' = [some (.ref a), some (.ref p), x2] ∧ H' = upd H p (.dK (wdK SPW ++ (Pf.take i).map fun g => ((.inr g.name : Key), V.int (g.ps.length : Nat)))))
      ⟨none, rfl, by rw [List.take_zero, List.map_nil, List.append_nil]⟩ (fun i σ' H' _ q => by obtain ⟨_, _, rfl⟩ := q; exact (t.keeps fun a xs e => Same.laid hp _ _ e).seq) ?_ ?_⟩
    · rintro i z σ' H' hz ⟨x2, rfl, rfl⟩
      have hi : i < Pf.length := by rw [← lv]; exact (List.getElem?_eq_some_iff.mp hz).1
      obtain ⟨z', hz', rz⟩ := paired_get pr (List.getElem?_eq_getElem hi)
      rw [hz] at hz'
      cases hz'
      have rz2 := rz.keeps (H' := upd H p (.dK (wdK SPW ++ (Pf.take i).map fun g => ((.inr g.name : Key), V.int (g.ps.length : Nat))))) fun a xs e => Same.laid hp _ _ e
      obtain ⟨b, c, y, rfl, tb, tc, _⟩ := encF_rep rz2
      have no : valV (wdK SPW ++ (Pf.take i).map fun g => ((.inr g.name : Key), V.int (g.ps.length : Nat))) (.inr Pf[i].name) = none := by
        have e := cntK_val (Pf.take i) Pf[i].name
        have n1 := ns Pf[i] (List.getElem_mem hi)
        have n2 : fnOf (Pf.take i) Pf[i].name = none := by
          have : ∀ {l : List Fn} {x : Str}, x ∉ l.map (·.name) → fnOf l x = none := fun {l x} h => by
            induction l with
            | nil => rfl
            | cons g l ih =>
              unfold fnOf
              rw [if_neg fun z => h (by rw [← z]; exact List.mem_cons_self)]
              exact ih fun m => h (List.mem_cons_of_mem _ m)
          refine this fun hm' => ?_
          obtain ⟨j, hj, ej⟩ := List.mem_iff_getElem.mp hm'
          rw [List.length_map, List.length_take] at hj
          rw [List.getElem_map, List.getElem_take] at ej
          have e1 : (Pf.map (·.name))[j]? = some Pf[i].name := by rw [List.getElem?_map, List.getElem?_eq_getElem (by omega)]; exact congrArg some ej
          have e2 : (Pf.map (·.name))[i]? = some Pf[i].name := by rw [List.getElem?_map, List.getElem?_eq_getElem hi]; rfl
          have := nd_ix nd e1 e2
          omega
        have n3 : cn (Pf.take i) Pf[i].name = none := by
          have n1 : ∀ x ∈ SPW.map (·.1), ¬ Pf[i].name = x := fun x hx z => n1 (z ▸ hx)
          unfold cn
          rw [if_neg (n1 _ (by decide)), if_neg (n1 _ (by decide)), if_neg (n1 _ (by decide)), if_neg (n1 _ (by decide)), if_neg (n1 _ (by decide)), if_neg (n1 _ (by decide)), if_neg (n1 _ (by decide)), n2]
          rfl
        rw [n3] at e
        exact e
      refine ⟨_, rfl, _, Pf[i], rfl, rz2, _, rfl, iteT ?_⟩
      refine ⟨_, rfl, b, _, _, .str Pf[i].name, rfl, rfl, tb.seq, atI_nat (j := 0) rfl, _, rfl, p, none, rfl, .inl ⟨_, .inr Pf[i].name, .inl upd_same, rfl, no.symm⟩, _, rfl, iteT ?_⟩
      refine ⟨_, rfl, b, _, _, .ref c, rfl, rfl, tb.seq, atI_nat (j := 1) rfl, c, _, rfl, .inr tc.seq, _, rfl, _, rfl, b, _, _, .str Pf[i].name, rfl, rfl, tb.seq, atI_nat (j := 0) rfl, p, _, rfl, .inl ⟨_, .inr Pf[i].name, upd_same, rfl, ?_, rfl⟩, _, rfl, ?_⟩
      · rw [List.length_append, List.length_map, List.length_take]
        have : (wdK SPW).length = 7 := rfl
        omega
      · rw [upd_upd, putK_new _ no, List.length_map, List.take_succ_eq_append_getElem hi, List.map_append, List.append_assoc]
        rfl
    · rintro σ' H' ⟨x2, rfl, rfl⟩
      refine ⟨_, rfl, ?_⟩
      rw [lv, List.take_length]
      exact k p hp
end
end OgW
/-! OgC2: name_fits, parameters_fit. -/
namespace OgW
open PySem PySem.Spec PyProof.Rows L2 OgD Og OgT
/-- a name that the check lets pass -/
def nmOk (x : Str) : Prop := x.length ≤ 100 ∧ ∃ c, x.cps.toList[0]? = some c ∧ (Str.mk #[c] ≠ "f" ∨ (cutS x (some 1) none ≠ "" ∧ Txt.stripChars (cutS x (some 1) none) "0123456789" ≠ ""))
section
variable {P : Program} {w : World} {K : PySem.W.Frag} {mg : Str → Option Value} {base : Heap}
def spNF (K : PySem.W.Frag) : Sp := fun vs H Q _ => ∃ (x : Str) (d : Addr) (kvs : List (Key × V)) (n : Int), vs = [.str x, .ref d, .int n] ∧ H d = some (.dK kvs) ∧ valV kvs (.inr x) = none ∧ x ∉ SPW.map (·.1) ∧ nmOk x ∧ Q (.bl true) H
theorem sc_nf : FnScope ["name", "names", "many", "figures"] ["name", "names", "many"] (defScope s_name_fits) := ⟨rfl, rfl, rfl, by decide +kernel, rfl, by decide +kernel, by decide +kernel⟩
theorem ok_nf {f : Addr} {fd : FuncData} (F : FnS K s_name_fits "name_fits" "name_fits" f fd) (T : Txt K mg) (W : WD K w (He.ga K "SPECIAL_WORDS") SPW) : FnOk P w K mg base CX0 1 f fd ["name", "names", "many"] (spNF K) := by
  refine ok0 F sc_nf (fun vs H Q E h => ?_) (fun cdv A0 outer s0 H vs Q E0 hr h => ?_)
  · obtain ⟨x, d, kvs, n, rfl, _⟩ := h
    rfl
  · obtain ⟨x, d, kvs, n, rfl, hd, hv, hs, ⟨lx, c, hx, ho⟩, k⟩ := h
    refine ⟨_, (pss_cons (ps_if (PW.pt (pw_or (pt_cmpR (op_in_wd W) (pv 0) (pe_glob (by rfl) T.gW (v := .ref (He.ga K "SPECIAL_WORDS")) rfl) (by with_unfolding_all rfl)) (pw_or1 (pt_cmp (pc_din (hu_of hr) (pv 0) (pv 1)) rfl))))
 (pss_one (ps_ret pe_bl))
 pss_nil)
 (pss_cons (ps_set (i := 3) sc_nf.nd rfl (.inl rfl) (pe_slice sl_str (pv 0) (po_some pe_int) po_none))
 (pss_cons (ps_if (PW.pt (pw_or (pt_cmpR op_ne (pe_ix ix_str (pv 0) pe_int (fun _ _ => rfl)) pe_str (nomark _)) (pw_or (pt_cmpR op_eq (pv 3) pe_str (nomark _)) (pw_or1 (pt_cmpR op_ne (pe_bm PySem.F.plainAttrs_str PySem.F.slot_str_strip PySem.F.type_str_strip mt_stripChars (pv 3) (pa_cons (pe_gs (by rfl) T.figs) pa_nil)) pe_str (nomark _))))))
 (pss_one (ps_ret pe_bl))
 pss_nil)
 (pss_one (ps_ret pe_no))))), ?_⟩
    have l6 := line6
    refine ⟨_, rfl, x, rfl, rfl, _, rfl, ?_⟩
    rw [decide_eq_false hs]
    refine iteF ⟨_, rfl, _, rfl, d, none, rfl, .inl ⟨kvs, .inr x, .inl hd, rfl, hv.symm⟩, _, rfl, iteF ?_⟩
    refine ⟨_, rfl, _, rfl, x, rfl, by omega, ?_⟩
    refine ⟨_, rfl, x, _, c, rfl, rfl, by omega, atI_nat (j := 0) hx, rfl, _, rfl, ?_⟩
    by_cases hc : Str.mk #[c] = "f"
    · obtain ⟨h1, h2⟩ : cutS x (some 1) none ≠ "" ∧ Txt.stripChars (cutS x (some 1) none) "0123456789" ≠ "" := by
        rcases ho with h | h
        · exact absurd hc h
        · exact h
      have e1 : (!decide (V.str (Str.mk #[c]) = V.str "f")) = false := by rw [hc, dec_strT]; rfl
      rw [e1]
      refine iteF ⟨_, rfl, rfl, _, rfl, ?_⟩
      rw [dec_str2 h1]
      have lc := cutS_length x (some 1) none
      refine iteF ⟨_, rfl, rfl, _, _, rfl, rfl, by omega, rfl, _, rfl, ?_⟩
      have e2 : (!decide (V.str (Txt.stripChars (cutS x (some 1) none) "0123456789") = V.str "")) = true := by rw [dec_str2 h2]; rfl
      rw [e2]
      exact iteT k
    · have e1 : (!decide (V.str (Str.mk #[c]) = V.str "f")) = true := by rw [dec_str2 hc]; rfl
      rw [e1]
      exact iteT (iteT k)
theorem inV_str {x : Str} : ∀ {l : List Str}, inV (.str x) (l.map V.str) = decide (x ∈ l)
  | [] => by simp [inV]
  | y :: l => by
    have ih := inV_str (x := x) (l := l)
    have e : inV (.str x) ((y :: l).map V.str) = ((y == x) || inV (.str x) (l.map V.str)) := rfl
    rw [e, ih]
    by_cases h : y = x
    · subst h
      simp
    · have h2 : ¬ x = y := fun z => h z.symm
      simp [h, h2]
theorem flat_str : ∀ l : List Str, (l.map V.str).all flatV = true
  | [] => rfl
  | _ :: l => by
    show (true && (l.map V.str).all flatV) = true
    rw [flat_str l]
    rfl
theorem cut_take (xs : List V) (i : Nat) (h : i ≤ xs.length) : cutV xs none (some (i : Int)) = xs.take i := by
  unfold cutV
  rw [HT.sIx_nat, HT.sIx_none, Nat.min_eq_left h]
  rfl
def spPF (K : PySem.W.Frag) : Sp := fun vs H Q _ => ∃ (a : Addr) (ps : List Str), vs = [.ref a] ∧ TupAt K H a (ps.map V.str) ∧ ps.Nodup ∧ ps.length ≤ 12 ∧ (∀ p ∈ ps, p ∉ SPW.map (·.1)) ∧ ∀ H', Same H H' → Q (.bl true) H'
theorem sc_pf : FnScope ["parameters", "at", "parameter"] ["parameters"] (defScope s_parameters_fit) := ⟨rfl, rfl, rfl, by decide +kernel, rfl, by decide +kernel, by decide +kernel⟩
theorem ok_pf {f : Addr} {fd : FuncData} (F : FnS K s_parameters_fit "parameters_fit" "parameters_fit" f fd) (T : Txt K mg) (W : WD K w (He.ga K "SPECIAL_WORDS") SPW) (gW : Glob P w K mg base "is_word" 1 ["value"] (spCW K)) : FnOk P w K mg base CX0 2 f fd ["parameters"] (spPF K) := by
  obtain ⟨fW, fdW, GW, mW, kW, bW⟩ := gW
  refine ok0 F sc_pf (fun vs H Q E h => ?_) (fun cdv A0 outer s0 H vs Q E0 hr h => ?_)
  · obtain ⟨a, ps, rfl, _⟩ := h
    rfl
  · obtain ⟨a, ps, rfl, t, nd, l12, sp, k⟩ := h
    refine ⟨_, (pss_cons (ps_if (pt_cmpR op_gt (pe_callB call_len_seq (by rfl) T.len b_len (pa_cons (pv 0) pa_nil)) (pe_gi (by rfl) T.mostP) (nomark _))
 (pss_one (ps_ret pe_bl))
 pss_nil)
 (pss_cons (ps_for PassesOwn.never rfl (OgZ.pi_enumT (by rfl) T.enu (pa_cons (pv 0) pa_nil)) (pg_tup rfl (pgs_cons (pg_name (i := 1) sc_pf.nd rfl (.inl rfl)) (pgs_cons (pg_name (i := 2) sc_pf.nd rfl (.inl rfl)) pgs_nil)))
 (pss_one (ps_if (PW.pt (pw_or (pt_not (pt_val (pe_call GW hr (by rfl) mW kW bW .nil pass0 (pa_cons (pv 2) pa_nil)))) (pw_or (pt_cmpR (op_in_wd W) (pv 2) (pe_glob (by rfl) T.gW (v := .ref (He.ga K "SPECIAL_WORDS")) rfl) (by with_unfolding_all rfl)) (pw_or1 (pt_cmpR op_in_seq (pv 2) (pe_slice sl_tup (pv 0) po_none (po_some (pv 1))) (by with_unfolding_all rfl))))))
 (pss_one (ps_ret pe_bl))
 pss_nil)))
 (pss_one (ps_ret pe_bl)))), ?_⟩
    have lm : (ps.map V.str).length = ps.length := List.length_map ..
    refine ⟨_, rfl, a, _, rfl, .inr t.seq, _, _, rfl, rfl, _, rfl, ?_⟩
    have e0 : decide ((12 : Int) < ((ps.map V.str).length : Nat)) = false := decide_eq_false (by rw [lm]; omega)
    rw [e0]
    refine iteF ⟨_, rfl, a, _, rfl, t.seq, OgZ.for_ET (K := K) (a := a) (t := ps.map V.str) (fun i σ' H' => ∃ x1 x2 : Option V, σ' = [some (.ref a), x1, x2] ∧ Same H H')
      ⟨none, none, rfl, Same.refl H⟩ (fun i σ' H' q => by obtain ⟨_, _, _, q⟩ := q; exact (t.keeps fun a xs e => q _ _ e).seq) ?_ ?_⟩
    · rintro i z p σ' H' hz ⟨x1, x2, rfl, sm⟩ hp
      have hi : i < ps.length := by rw [← lm]; exact (List.getElem?_eq_some_iff.mp hz).1
      rw [List.getElem?_map, List.getElem?_eq_getElem hi] at hz
      have hz : V.str ps[i] = z := Option.some.inj hz
      subst hz
      have sm2 := sm.trans (Same.laid (o := HO.tup [V.int (i : Nat), .str ps[i]]) hp)
      have t2 := t.keeps (H' := upd H' p (.tup [V.int (i : Nat), .str ps[i]])) fun a xs e => sm2 _ _ e
      refine ⟨p, _, rfl, SqT.of upd_same, rfl, _, _, rfl, _, _, rfl, rfl, ?_⟩
      refine ⟨_, rfl, _, true, rfl, WT.str, _, rfl, iteF ?_⟩
      refine ⟨_, rfl, _, rfl, rfl, _, rfl, ?_⟩
      rw [decide_eq_false (sp _ (List.getElem_mem hi))]
      refine iteF ⟨_, rfl, _, rfl, _, rfl, _, rfl, a, _, rfl, t2.seq, ?_, fun q hq => ?_⟩
      · rw [HT.sIx_none, HT.sIx_nat, lm]
        omega
      · rw [cut_take _ _ (by rw [lm]; omega), ← List.map_take]
        refine ⟨q, _, rfl, .inr (SqT.of upd_same), rfl, flat_str _, _, rfl, ?_⟩
        have nin : ps[i] ∉ ps.take i := fun m => by
          obtain ⟨j, hj, ej⟩ := List.mem_iff_getElem.mp m
          rw [List.length_take] at hj
          rw [List.getElem_take] at ej
          have e2 : ps[j]? = some ps[i] := by rw [List.getElem?_eq_getElem (by omega), ej]
          have := nd_ix nd e2 (List.getElem?_eq_getElem hi)
          omega
        have e3 : (if false = true then !inV (.str ps[i]) ((ps.take i).map V.str) else inV (.str ps[i]) ((ps.take i).map V.str)) = false := by
          rw [if_neg Bool.false_ne_true, inV_str]
          exact decide_eq_false nin
        rw [e3]
        exact iteF ⟨_, _, rfl, sm2.trans (Same.laid hq)⟩
    · rintro σ' H' ⟨x1, x2, rfl, sm⟩
      exact k H' sm
end
end OgW
/-! OgC3: body_fits. -/
namespace OgW
open PySem PySem.Spec PyProof.Rows L2 OgD Og OgT
mutual
def fitsB (P : List Fn) (ps : List Str) : Val → Bool
  | .w x => decide (x ∈ ps)
  | .nil => false
  | .cons (.w k) t => decide (cn P k = some t.items.length) && (decide (k = "quote") || fitsL P ps t)
  | .cons _ _ => false
def fitsL (P : List Fn) (ps : List Str) : Val → Bool
  | .cons h t => fitsB P ps h && fitsL P ps t
  | _ => true
end
theorem fitsL_all {P : List Fn} {ps : List Str} : ∀ {t : Val}, fitsL P ps t = true → ∀ x ∈ t.items, fitsB P ps x = true
  | .w _, _, x, h => by cases h
  | .nil, _, x, h => by cases h
  | .cons a t, e, x, h => by
    have e : (fitsB P ps a && fitsL P ps t) = true := e
    obtain ⟨e1, e2⟩ := Bool.and_eq_true_iff.mp e
    rcases List.mem_cons.mp h with z | h
    · rw [z]
      exact e1
    · exact fitsL_all e2 x h
theorem sizes_items : ∀ t : Val, sizes t.items ≤ t.size
  | .w _ => Nat.zero_le _
  | .nil => Nat.zero_le _
  | .cons a t => by
    have := sizes_items t
    show a.size + sizes t.items ≤ a.size + t.size + 1
    omega
theorem sizes_rev : ∀ l : List Val, sizes l.reverse = sizes l
  | [] => rfl
  | a :: l => by
    rw [List.reverse_cons, sizes_append, sizes_rev l]
    show sizes l + (a.size + 0) = a.size + sizes l
    omega
theorem len_sizes : ∀ l : List Val, l.length ≤ sizes l
  | [] => Nat.le_refl _
  | a :: l => by
    have := len_sizes l
    have := size_ge a
    show l.length + 1 ≤ a.size + sizes l
    omega
section
variable {P : Program} {w : World} {K : PySem.W.Frag} {mg : Str → Option Value} {base : Heap}
def spBF (K : PySem.W.Frag) : Sp := fun vs H Q _ => ∃ (v : V) (pa ca : Addr) (x : Val) (ps : List Str) (Pf : List Fn), vs = [v, .ref pa, .ref ca] ∧ RepV K H x v ∧ TupAt K H pa (ps.map V.str) ∧ H ca = some (.dK (cntK Pf)) ∧ fitsB Pf ps x = true ∧ x.size ≤ 100000 ∧ ∀ H', Same H H' → Q (.bl true) H'
theorem sc_bf : FnScope ["body", "parameters", "counts", "waiting", "expression"] ["body", "parameters", "counts"] (defScope s_body_fits) := ⟨rfl, rfl, rfl, by decide +kernel, rfl, by decide +kernel, by decide +kernel⟩
theorem ok_bf {f : Addr} {fd : FuncData} (F : FnS K s_body_fits "body_fits" "body_fits" f fd) (T : Txt K mg) (gW : Glob P w K mg base "is_word" 1 ["value"] (spCW K)) : FnOk P w K mg base CX0 2 f fd ["body", "parameters", "counts"] (spBF K) := by
  obtain ⟨fW, fdW, GW, mW, kW, bW⟩ := gW
  refine ok0 F sc_bf (fun vs H Q E h => ?_) (fun cdv A0 outer s0 H vs Q E0 hr h => ?_)
  · obtain ⟨v, pa, ca, x, ps, Pf, rfl, _⟩ := h
    rfl
  · obtain ⟨v, pa, ca, x, ps, Pf, rfl, rx, tp, hc, fx, sx, k⟩ := h
    refine ⟨_, (pss_cons (ps_set (i := 3) sc_bf.nd rfl (.inl rfl) (pe_lst (pa_cons (pv 0) pa_nil)))
 (pss_cons (ps_while PassesOwn.never (pt_cmpR op_gt (pe_callB call_len_seq (by rfl) T.len b_len (pa_cons (pv 3) pa_nil)) pe_int (nomark _))
 (pss_cons (ps_set (i := 4) sc_bf.nd rfl (.inl rfl) (pe_bm0 PySem.F.plainAttrs_list PySem.F.slot_list_pop PySem.F.type_list_pop mt_pop (pv 3)))
 (pss_one (ps_if (pt_val (pe_call GW hr (by rfl) mW kW bW .nil pass0 (pa_cons (pv 4) pa_nil)))
 (pss_one (ps_if (pt_cmpR op_notIn_seq (pv 4) (pv 1) (by with_unfolding_all rfl))
 (pss_one (ps_ret pe_bl))
 pss_nil))
 (pss_one (ps_if (PW.pt (pw_or (pt_cmpR op_eq (pe_callB call_len_seq (by rfl) T.len b_len (pa_cons (pv 4) pa_nil)) pe_int (nomark _)) (pw_or1 (pt_not (pt_val (pe_call GW hr (by rfl) mW kW bW .nil pass0 (pa_cons (pe_ix ix_tup (pv 4) pe_int (fun _ _ => rfl)) pa_nil)))))))
 (pss_one (ps_ret pe_bl))
 (pss_one (ps_if (pt_cmpR op_ne (pe_dget1 (hu_of hr) (pv 2) (pe_ix ix_tup (pv 4) pe_int (fun _ _ => rfl)) ⟨rfl, rfl, rfl, rfl⟩) (pe_op op_sub (pe_callB call_len_seq (by rfl) T.len b_len (pa_cons (pv 4) pa_nil)) pe_int) (nomark _))
 (pss_one (ps_ret pe_bl))
 (pss_one (ps_if (pt_cmpR op_ne (pe_ix ix_tup (pv 4) pe_int (fun _ _ => rfl)) pe_str (nomark _))
 (pss_one (ps_expr (pe_bm PySem.F.plainAttrs_list PySem.F.slot_list_extend PySem.F.type_list_extend OgZ.mt_extT (pv 3) (pa_cons (pe_slice sl_tup (pv 4) (po_some pe_int) po_none) pa_nil))))
 pss_nil))))))))))
 (pss_one (ps_ret pe_bl)))), ?_⟩
    have l6 := line6
    refine ⟨v, rfl, (by show 1 ≤ sizeLine; omega), fun wl hwl => ?_⟩
    have kt0 : ∀ {H' : Hp}, (∀ b o, H b = some o → H' b = some o) → KT0 H H' := fun h a xs e => h a _ e
    refine ⟨fun m σ H' => ∃ (Wl : List Val) (ws : List V) (x4 : Option V), σ = [some v, some (.ref pa), some (.ref ca), some (.ref wl), x4] ∧ m = sizes Wl ∧ Same H H' ∧ H' wl = some (.lst ws.reverse) ∧ Paired (fun x u => RepV K H' x u) Wl ws ∧ (∀ y ∈ Wl, fitsB Pf ps y = true) ∧ sizes Wl ≤ x.size,
      ⟨_, [x], [v], none, rfl, rfl, Same.laid hwl, upd_same, .cons (rx.keeps fun a xs e => Same.laid hwl _ _ e) .nil, fun y hy => by rw [List.mem_singleton.mp hy]; exact fx, Nat.le_refl _⟩, ?_⟩
    rintro m σ H' ⟨Wl, ws, x4, rfl, rfl, sm, hw, pw, fw, szw⟩
    refine ⟨_, rfl, wl, _, rfl, .inl (SqL.of hw), _, _, rfl, rfl, _, rfl, ?_⟩
    cases pw with
    | nil => exact iteF (k H' sm)
    | @cons y u Wl ws ry pw =>
    have hd : decide ((0 : Int) < ((u :: ws).reverse.length : Nat)) = true := decide_eq_true (by rw [List.length_reverse, List.length_cons]; omega)
    rw [hd]
    have fy := fw y List.mem_cons_self
    have fw' : ∀ z ∈ Wl, fitsB Pf ps z = true := fun z hz => fw z (List.mem_cons_of_mem _ hz)
    have esz : sizes (y :: Wl) = y.size + sizes Wl := rfl
    have psz := size_ge y
    refine iteT ⟨fun σ' H' => ∃ m', m' < sizes (y :: Wl) ∧ (∃ (Wl : List Val) (ws : List V) (x4 : Option V), σ' = [some v, some (.ref pa), some (.ref ca), some (.ref wl), x4] ∧ m' = sizes Wl ∧ Same H H' ∧ H' wl = some (.lst ws.reverse) ∧ Paired (fun x u => RepV K H' x u) Wl ws ∧ (∀ y ∈ Wl, fitsB Pf ps y = true) ∧ sizes Wl ≤ x.size), fun _ _ h => h, ?_⟩
    refine ⟨_, rfl, .inl ⟨rfl, _, SqL.of hw⟩, wl, _, _, rfl, rfl, hw, rev_pop, ?_⟩
    rw [rev_drop]
    have ktw : KT0 H' (upd H' wl (.lst ws.reverse)) := kt_lst hw
    have sm1 : Same H (upd H' wl (.lst ws.reverse)) := fun b o e => (upd_ne (ne_of_none e hwl)).trans (sm b o e)
    have ry1 := ry.keeps ktw
    have pw1 : Paired (fun x u => RepV K (upd H' wl (.lst ws.reverse)) x u) Wl ws := Paired.mapP pw fun _ _ z => z.keeps ktw
    have hw1 : upd H' wl (.lst ws.reverse) wl = some (.lst ws.reverse) := upd_same
    have hc1 := sm1 _ _ hc
    have tp1 := tp.keeps fun a xs e => sm1 _ _ e
    generalize upd H' wl (.lst ws.reverse) = H1 at sm1 ry1 pw1 hw1 hc1 tp1 ⊢
    refine ⟨_, rfl, u, y.isW, rfl, ry1.wt, _, rfl, ?_⟩
    cases y with
    | nil => cases fy
    | w z =>
      have eu : u = .str z := ry1
      subst eu
      have hz : z ∈ ps := of_decide_eq_true fy
      refine iteT ⟨_, rfl, _, rfl, pa, _, rfl, .inr tp1.seq, rfl, flat_str _, _, rfl, ?_⟩
      have e3 : (if true = true then !inV (.str z) (ps.map V.str) else inV (.str z) (ps.map V.str)) = false := by
        rw [if_pos rfl, inV_str, decide_eq_true hz]
        rfl
      rw [e3]
      exact iteF ⟨_, by rw [esz]; omega, Wl, ws, _, rfl, rfl, sm1, hw1, pw1, fw', by omega⟩
    | cons h t =>
      cases h with
      | nil => cases fy
      | cons _ _ => cases fy
      | w kw =>
        have fy : (decide (cn Pf kw = some t.items.length) && (decide (kw = "quote") || fitsL Pf ps t)) = true := fy
        obtain ⟨f1, f2⟩ := Bool.and_eq_true_iff.mp fy
        have f1 := of_decide_eq_true f1
        obtain ⟨ay, y0, ys, rfl, ty, r0, rl⟩ := ry1
        have e0 : y0 = .str kw := r0
        subst e0
        have it := rl.items
        have lys : ys.length = t.items.length := (Paired.length it).symm
        have hv := cntK_val Pf kw
        rw [f1] at hv
        refine iteF ⟨_, rfl, ay, _, rfl, .inr ty.seq, rfl, _, rfl, ?_⟩
        have e1 : decide (V.int (((V.str kw :: ys).length : Nat) : Int) = V.int 0) = false := dec_n0 (by simp)
        rw [e1]
        refine iteF ⟨_, rfl, ay, _, _, .str kw, rfl, rfl, ty.seq, atI_nat (j := 0) rfl, _, true, rfl, WT.str, _, rfl, iteF ?_⟩
        refine ⟨_, rfl, ca, rfl, .inl ⟨_, .inl hc1⟩, _, rfl, ay, _, _, .str kw, rfl, rfl, ty.seq, atI_nat (j := 0) rfl, _, .inl ⟨_, .inr kw, .inl hc1, rfl, hv.symm⟩, ?_⟩
        refine ⟨_, rfl, ay, _, rfl, .inr ty.seq, _, _, rfl, rfl, rfl, _, rfl, ?_⟩
        have e2 : (!decide (V.int ((t.items.length : Nat) : Int) = V.int ((((V.str kw :: ys).length : Nat) : Int) - 1))) = false := by
          have : (((V.str kw :: ys).length : Nat) : Int) - 1 = ((t.items.length : Nat) : Int) := by
            rw [List.length_cons, lys]
            omega
          rw [this, decide_eq_true rfl]
          rfl
        have e2' : (!decide ((some (V.int ((t.items.length : Nat) : Int))).getD V.non = V.int ((((V.str kw :: ys).length : Nat) : Int) - 1))) = false := e2
        refine (show (if (!decide ((some (V.int ((t.items.length : Nat) : Int))).getD V.non = V.int ((((V.str kw :: ys).length : Nat) : Int) - 1))) = true then _ else _) from ?_)
        rw [e2']
        refine iteF ⟨_, rfl, ay, _, _, .str kw, rfl, rfl, ty.seq, atI_nat (j := 0) rfl, rfl, _, rfl, ?_⟩
        have st : sizes t.items ≤ t.size := sizes_items t
        have ecs : (Val.cons (.w kw) t).size = 1 + t.size + 1 := rfl
        by_cases kq : kw = "quote"
        · subst kq
          have e4 : (!decide (V.str "quote" = V.str "quote")) = false := by rw [dec_strT]; rfl
          rw [e4]
          exact iteF ⟨_, by rw [esz]; omega, Wl, ws, _, rfl, rfl, sm1, hw1, pw1, fw', by omega⟩
        · have e4 : (!decide (V.str kw = V.str "quote")) = true := by rw [dec_str2 kq]; rfl
          rw [e4]
          have fl : fitsL Pf ps t = true := by
            rcases Bool.or_eq_true_iff.mp f2 with h | h
            · exact absurd (of_decide_eq_true h) kq
            · exact h
          refine iteT ⟨_, rfl, .inl ⟨rfl, _, SqL.of hw1⟩, _, rfl, _, rfl, ay, _, rfl, ty.seq, ?_, fun q hq => ?_⟩
          · have : HT.sIx (V.str kw :: ys).length 0 (some ((1 : Nat) : Int)) = 1 := by rw [HT.sIx_nat, List.length_cons]; omega
            intro z
            have z1 : HT.sIx (V.str kw :: ys).length 0 (some ((1 : Nat) : Int)) = 0 := z.1
            omega
          · rw [cut1]
            have hwq := Same.laid (o := HO.tup ys) hq _ _ hw1
            have lw : ws.length = Wl.length := (Paired.length pw1).symm
            have s1 := len_sizes Wl
            have s2 := len_sizes t.items
            refine ⟨wl, q, _, _, rfl, rfl, hwq, upd_same, by rw [List.length_reverse]; omega, ?_⟩
            have er : ws.reverse ++ ys = (ys.reverse ++ ws).reverse := by simp
            rw [er]
            have kq2 : KT0 H1 (upd (upd H1 q (.tup ys)) wl (.lst (ys.reverse ++ ws).reverse)) := fun a xs e => kt_lst hwq a xs (Same.laid hq _ _ e)
            have papp : ∀ {l l2 : List Val} {r r2 : List V}, Paired (fun x u => RepV K H1 x u) l r → Paired (fun x u => RepV K H1 x u) l2 r2 → Paired (fun x u => RepV K H1 x u) (l ++ l2) (r ++ r2) := fun {l l2 r r2} q q2 => by
              induction q with
              | nil => exact q2
              | cons h t ih => exact .cons h ih
            refine ⟨sizes (t.items.reverse ++ Wl), ?_, t.items.reverse ++ Wl, ys.reverse ++ ws, _, rfl, rfl, fun b o e => (upd_ne (ne_of_none e hwl)).trans (Same.laid hq _ _ (sm1 b o e)), upd_same, Paired.mapP (papp (paired_rev it) pw1) fun _ _ z => z.keeps kq2, fun z hz => ?_, ?_⟩
            · rw [sizes_append, sizes_rev, esz]
              omega
            · rcases List.mem_append.mp hz with hz | hz
              · exact fitsL_all fl z (List.mem_reverse.mp hz)
              · exact fw' z hz
            · rw [sizes_append, sizes_rev]
              omega
end
end OgW
/-! OgC4: check_program, inputs_of. -/
namespace OgW
open PySem PySem.Spec PyProof.Rows L2 OgD Og OgT
theorem ps_no {X : Cx} {st : Stmt} : PS X st (fun _ _ _ => False) := ⟨fun _ _ _ _ _ _ h => h.elim⟩
/-- a program that the check lets pass -/
structure CkP (P : List Fn) : Prop where
  ne : P ≠ []
  len : P.length ≤ 1000
  nd : (P.map (·.name)).Nodup
  sp : ∀ g ∈ P, g.name ∉ SPW.map (·.1)
  nm : ∀ g ∈ P, nmOk g.name
  ps : ∀ g ∈ P, g.ps.Nodup ∧ g.ps.length ≤ 12 ∧ ∀ p ∈ g.ps, p ∉ SPW.map (·.1)
  bd : ∀ g ∈ P, fitsB P g.ps g.body = true ∧ g.body.size ≤ 100000
section
variable {P : Program} {w : World} {K : PySem.W.Frag} {mg : Str → Option Value} {base : Heap}
def spCk (K : PySem.W.Frag) : Sp := fun vs H Q _ => ∃ (v : V) (Pf : List Fn), vs = [v] ∧ RepV K H (encP Pf) v ∧ CkP Pf ∧ ∀ H', Same H H' → Q .non H'
theorem sc_ck : FnScope ["value", "counts", "names", "number", "function", "name", "parameters", "body"] ["value"] (defScope s_check_program) := ⟨rfl, rfl, rfl, by decide +kernel, rfl, by decide +kernel, by decide +kernel⟩
def nmT (P : List Fn) : List (Key × V) := P.map fun g => ((.inr g.name : Key), V.bl true)
theorem nmT_none {x : Str} : ∀ {P : List Fn}, x ∉ P.map (·.name) → valV (nmT P) (.inr x) = none
  | [], _ => rfl
  | g :: P, h => by
    show valV (((.inr g.name : Key), V.bl true) :: nmT P) (.inr x) = none
    rw [valV_neg (p := ((.inr g.name : Key), V.bl true)) fun z => h (by rw [← Sum.inr.inj z]; exact List.mem_cons_self)]
    exact nmT_none fun m => h (List.mem_cons_of_mem _ m)
theorem ok_ck {f : Addr} {fd : FuncData} (F : FnS K s_check_program "check_program" "check_program" f fd) (T : Txt K mg) (gW : Glob P w K mg base "is_word" 1 ["value"] (spCW K)) (gC : Glob P w K mg base "counts_of" 3 ["program"] (spCnt K)) (gH : Glob P w K mg base "has_head" 2 ["function"] (spHH K))
    (gN : Glob P w K mg base "name_fits" 1 ["name", "names", "many"] (spNF K)) (gP : Glob P w K mg base "parameters_fit" 2 ["parameters"] (spPF K)) (gB : Glob P w K mg base "body_fits" 2 ["body", "parameters", "counts"] (spBF K)) : FnOk P w K mg base CX0 4 f fd ["value"] (spCk K) := by
  obtain ⟨fW, fdW, GW, mW, kW, bW⟩ := gW
  obtain ⟨fC, fdC, GC, mC, kC, bC⟩ := gC
  obtain ⟨fH, fdH, GH, mH, kH, bH⟩ := gH
  obtain ⟨fN, fdN, GN, mN, kN, bN⟩ := gN
  obtain ⟨fP, fdP, GP, mP, kP, bP⟩ := gP
  obtain ⟨fB, fdB, GB, mB, kB, bB⟩ := gB
  refine ok0 F sc_ck (fun vs H Q E h => ?_) (fun cdv A0 outer s0 H vs Q E0 hr h => ?_)
  · obtain ⟨v, Pf, rfl, _⟩ := h
    rfl
  · obtain ⟨v, Pf, rfl, r, ck, k⟩ := h
    refine ⟨_, (pss_cons (ps_if (PW.pt (pw_or (pt_val (pe_call GW (hr.mono (by decide)) (by rfl) mW kW bW .nil pass0 (pa_cons (pv 0) pa_nil))) (pw_or1 (pt_cmpR op_eq (pe_callB call_len_seq (by rfl) T.len b_len (pa_cons (pv 0) pa_nil)) pe_int (nomark _)))))
 (pss_one ps_no)
 pss_nil)
 (pss_cons (ps_set (i := 1) sc_ck.nd rfl (.inl rfl) (pe_call GC hr (by rfl) mC kC bC .nil pass0 (pa_cons (pv 0) pa_nil)))
 (pss_cons (ps_set (i := 2) sc_ck.nd rfl (.inl rfl) pe_dnewK)
 (pss_one (ps_for PassesOwn.never rfl (OgZ.pi_enumT (by rfl) T.enu (pa_cons (pv 0) pa_nil)) (pg_tup rfl (pgs_cons (pg_name (i := 3) sc_ck.nd rfl (.inl rfl)) (pgs_cons (pg_name (i := 4) sc_ck.nd rfl (.inl rfl)) pgs_nil)))
 (pss_cons (ps_if (pt_not (pt_val (pe_call GH (hr.mono (by decide)) (by rfl) mH kH bH .nil pass0 (pa_cons (pv 4) pa_nil))))
 (pss_one ps_no)
 pss_nil)
 (pss_cons (ps_asg (pv 4) (pg_tup rfl (pgs_cons (pg_name (i := 5) sc_ck.nd rfl (.inl rfl)) (pgs_cons (pg_name (i := 6) sc_ck.nd rfl (.inl rfl)) (pgs_cons (pg_name (i := 7) sc_ck.nd rfl (.inl rfl)) pgs_nil)))))
 (pss_cons (ps_if (PW.pt (pw_or (pt_not (pt_val (pe_call GN (hr.mono (by decide)) (by rfl) mN kN bN .nil pass0 (pa_cons (pv 5) (pa_cons (pv 2) (pa_cons (pe_callB call_len_seq (by rfl) T.len b_len (pa_cons (pv 0) pa_nil)) pa_nil)))))) (pw_or1 (pt_not (pt_val (pe_call GP (hr.mono (by decide)) (by rfl) mP kP bP .nil pass0 (pa_cons (pv 6) pa_nil)))))))
 (pss_one ps_no)
 pss_nil)
 (pss_cons (ps_if (pt_not (pt_val (pe_call GB (hr.mono (by decide)) (by rfl) mB kB bB .nil pass0 (pa_cons (pv 7) (pa_cons (pv 6) (pa_cons (pv 1) pa_nil))))))
 (pss_one ps_no)
 pss_nil)
 (pss_one (ps_dput (hu_of hr) (pv 2) (pv 5) pe_bl rfl))))))))))), ?_⟩
    have l6 := line6
    obtain ⟨a, vs, rfl, t, pr⟩ := encP_rep r
    have lv : vs.length = Pf.length := (Paired.length pr).symm
    have lP : Pf.length ≠ 0 := fun z => ck.ne (List.length_eq_zero_iff.mp z)
    have ckl := ck.len
    refine ⟨_, rfl, _, false, rfl, WT.tup t, _, rfl, iteF ⟨_, rfl, a, _, rfl, .inr t.seq, rfl, _, rfl, ?_⟩⟩
    have e0 : decide (V.int ((vs.length : Nat) : Int) = V.int 0) = false := dec_n0 (by omega)
    rw [e0]
    refine iteF ⟨_, rfl, _, Pf, rfl, r, ck.nd, ck.sp, ck.len, fun p hp => ?_⟩
    refine fun q hq => ?_
    have sm0 : Same H (upd (upd H p (.dK (cntK Pf))) q (.dK [])) := (Same.laid hp).trans (Same.laid hq)
    have hp0 : upd (upd H p (.dK (cntK Pf))) q (.dK []) p = some (.dK (cntK Pf)) := Same.laid hq _ _ upd_same
    have q0 : H q = none := Same.free (Same.laid hp) hq
    have pq : p ≠ q := fun z => by
      rw [← z, upd_same] at hq
      cases hq
    refine ⟨_, rfl, a, _, rfl, (t.keeps fun a xs e => sm0 _ _ e).seq, OgZ.for_ET (K := K) (a := a) (t := vs) (fun i σ' H' => ∃ x3 x4 x5 x6 x7 : Option V, σ' = [some (.ref a), some (.ref p), some (.ref q), x3, x4, x5, x6, x7] ∧ Same H H' ∧ H' p = some (.dK (cntK Pf)) ∧ H' q = some (.dK (nmT (Pf.take i))))
      ⟨none, none, none, none, none, rfl, sm0, hp0, upd_same⟩ (fun i σ' H' z => by obtain ⟨_, _, _, _, _, _, z, _⟩ := z; exact (t.keeps fun a xs e => z _ _ e).seq) ?_ ?_⟩
    · rintro i z b σ' H' hz ⟨x3, x4, x5, x6, x7, rfl, sm, hp1, hq1⟩ hb
      have hi : i < Pf.length := by rw [← lv]; exact (List.getElem?_eq_some_iff.mp hz).1
      obtain ⟨z', hz', rz⟩ := paired_get pr (List.getElem?_eq_getElem hi)
      rw [hz] at hz'
      cases hz'
      have sm2 := sm.trans (Same.laid (o := HO.tup [V.int (i : Nat), z]) hb)
      have hp2 := Same.laid (o := HO.tup [V.int (i : Nat), z]) hb _ _ hp1
      have hq2 := Same.laid (o := HO.tup [V.int (i : Nat), z]) hb _ _ hq1
      have hb2 : upd H' b (.tup [V.int (i : Nat), z]) b = some (.tup [V.int (i : Nat), z]) := upd_same
      have rz2 := rz.keeps (H' := upd H' b (.tup [V.int (i : Nat), z])) fun a xs e => sm2 _ _ e
      have t2 := t.keeps (H' := upd H' b (.tup [V.int (i : Nat), z])) fun a xs e => sm2 _ _ e
      generalize upd H' b (.tup [V.int (i : Nat), z]) = H2 at sm2 hp2 hq2 hb2 rz2 t2 ⊢
      have hm := List.getElem_mem hi
      obtain ⟨c, d, y, rfl, tc, td, ry⟩ := encF_rep rz2
      obtain ⟨ps1, ps2, ps3⟩ := ck.ps _ hm
      obtain ⟨bd1, bd2⟩ := ck.bd _ hm
      have hno : Pf[i].name ∉ (Pf.take i).map (·.name) := fun hm' => by
        obtain ⟨j, hj, ej⟩ := List.mem_iff_getElem.mp hm'
        rw [List.length_map, List.length_take] at hj
        rw [List.getElem_map, List.getElem_take] at ej
        have e1 : (Pf.map (·.name))[j]? = some Pf[i].name := by rw [List.getElem?_map, List.getElem?_eq_getElem (by omega)]; exact congrArg some ej
        have e2 : (Pf.map (·.name))[i]? = some Pf[i].name := by rw [List.getElem?_map, List.getElem?_eq_getElem hi]; rfl
        have := nd_ix ck.nd e1 e2
        omega
      have no := nmT_none hno
      refine ⟨b, _, rfl, SqT.of hb2, rfl, _, _, rfl, _, _, rfl, rfl, ?_⟩
      refine ⟨_, rfl, _, Pf[i], rfl, rz2, _, rfl, iteF ?_⟩
      refine ⟨_, rfl, c, _, rfl, tc.seq, rfl, _, _, rfl, _, _, rfl, _, _, rfl, rfl, ?_⟩
      refine ⟨_, rfl, _, rfl, _, rfl, a, _, rfl, .inr t2.seq, Pf[i].name, q, _, _, rfl, hq2, no, ck.sp _ hm, ck.nm _ hm, _, rfl, iteF ?_⟩
      refine ⟨_, rfl, d, Pf[i].ps, rfl, td, ps1, ps2, ps3, fun H3 sm3 => ⟨_, rfl, iteF ?_⟩⟩
      have kt3 : KT0 H2 H3 := fun a xs e => sm3 _ _ e
      refine ⟨_, rfl, _, rfl, _, rfl, y, d, p, Pf[i].body, Pf[i].ps, Pf, rfl, ry.keeps kt3, td.keeps kt3, sm3 _ _ hp2, bd1, bd2, fun H4 sm4 => ⟨_, rfl, iteF ?_⟩⟩
      have hq4 := sm4 _ _ (sm3 _ _ hq2)
      have hp4 := sm4 _ _ (sm3 _ _ hp2)
      refine ⟨_, rfl, _, rfl, q, _, rfl, .inl ⟨_, .inr Pf[i].name, hq4, rfl, ?_, rfl⟩, _, _, _, _, _, rfl, fun b o e => (upd_ne (ne_of_none e q0)).trans (sm4 _ _ (sm3 _ _ (sm2 b o e))), (upd_ne pq).trans hp4, ?_⟩
      · unfold nmT
        rw [List.length_map, List.length_take]
        omega
      · rw [upd_same, putK_new _ no, List.take_succ_eq_append_getElem hi]
        unfold nmT
        rw [List.map_append]
        rfl
    · rintro σ' H' ⟨x3, x4, x5, x6, x7, rfl, sm, _, _⟩
      exact k H' sm
def spIO (K : PySem.W.Frag) : Sp := fun vs H Q _ => ∃ (v : V) (g : Fn) (r : List Fn), vs = [v] ∧ RepV K H (encP (g :: r)) v ∧ CkP (g :: r) ∧ ∀ H', Same H H' → Q (.int (g.ps.length : Nat)) H'
theorem sc_io : FnScope ["program"] ["program"] (defScope s_inputs_of) := ⟨rfl, rfl, rfl, by decide +kernel, rfl, by decide +kernel, by decide +kernel⟩
theorem ok_io {f : Addr} {fd : FuncData} (F : FnS K s_inputs_of "inputs_of" "inputs_of" f fd) (T : Txt K mg) (gK : Glob P w K mg base "check_program" 4 ["value"] (spCk K)) : FnOk P w K mg base CX0 5 f fd ["program"] (spIO K) := by
  obtain ⟨fK, fdK, GK, mK, kK, bK⟩ := gK
  refine ok0 F sc_io (fun vs H Q E h => ?_) (fun cdv A0 outer s0 H vs Q E0 hr h => ?_)
  · obtain ⟨v, g, r, rfl, _⟩ := h
    rfl
  · obtain ⟨v, g, r, rfl, rp, ck, k⟩ := h
    refine ⟨_, (pss_cons (ps_expr (pe_call GK hr (by rfl) mK kK bK .nil pass0 (pa_cons (pv 0) pa_nil)))
 (pss_one (ps_ret (pe_callB call_len_seq (by rfl) T.len b_len (pa_cons (pe_ix ix_tup (pe_ix ix_tup (pv 0) pe_int (fun _ _ => rfl)) pe_int (fun _ _ => rfl)) pa_nil))))), ?_⟩
    refine ⟨_, rfl, _, g :: r, rfl, rp, ck, fun H1 sm => ?_⟩
    have rp1 := rp.keeps fun a xs e => sm a _ e
    obtain ⟨a, vs, rfl, t, pr⟩ := encP_rep rp1
    cases pr with
    | @cons _ z _ zs rz pr =>
    obtain ⟨c, d, y, rfl, tc, td, ry⟩ := encF_rep rz
    refine ⟨_, rfl, a, _, _, .ref c, rfl, rfl, t.seq, atI_nat (j := 0) rfl, c, _, _, .ref d, rfl, rfl, tc.seq, atI_nat (j := 1) rfl, d, _, rfl, .inr td.seq, ?_⟩
    rw [List.length_map]
    exact k H1 sm
end
end OgW
/-! OgR1: Run, started. -/
namespace OgW
open PySem PySem.Spec PyProof.Rows L2 OgD Og OgT
def MkrK (P : Program) (w : World) (K : PySem.W.Frag) (mg : Str → Option Value) (base : Heap) (C : Addr) (k : Nat) (ps : List Str) (n : Nat) (ks : List Str) (sp : Sp) : Prop := ∃ f fd g, FnOk P w K mg base CX0 k f fd ps sp ∧ Mk K C f ∧ KBn K fd ps (n + 1) ks g (fun vs zs => vs ++ zs)
section
variable {P : Program} {w : World} {K : PySem.W.Frag} {mg : Str → Option Value} {base : Heap}
def runF (k v s : V) : List (Str × V) := [("kind", k), ("value", v), ("steps", s)]
def spRun (K : PySem.W.Frag) : Sp := fun vs H Q _ => ∃ (r dx : Addr) (k v s : V), vs = [.ref r, k, v, s] ∧ H r = some (.ins (CR K) dx []) ∧ Q .non (upd H r (.ins (CR K) dx (runF k v s)))
theorem sc_run : FnScope ["self", "kind", "value", "steps"] ["self", "kind", "value", "steps"] (defScope s_Run_init) := ⟨rfl, rfl, rfl, by decide +kernel, rfl, by decide +kernel, by decide +kernel⟩
theorem ok_run {f : Addr} {fd : FuncData} (F : FnS K s_Run_init "__init__" "Run.__init__" f fd) (T : Txt K mg) : FnOk P w K mg base CX0 1 f fd ["self", "kind", "value", "steps"] (spRun K) := by
  refine ok0 F sc_run (fun vs H Q E h => ?_) (fun cdv A0 outer s0 H vs Q E0 hr h => ?_)
  · obtain ⟨r, dx, k, v, s, rfl, _⟩ := h
    rfl
  · obtain ⟨r, dx, k, v, s, rfl, hr1, q⟩ := h
    refine ⟨_, (pss_cons (ps_fld (pv 0) (pv 1) rfl)
 (pss_cons (ps_fld (pv 0) (pv 2) rfl)
 (pss_one (ps_fld (pv 0) (pv 3) rfl)))), ?_⟩
    refine ⟨_, rfl, _, rfl, r, CR K, dx, _, rfl, hr1, T.clR, T.r1, (by show 0 < 1000; decide), ?_⟩
    refine ⟨_, rfl, _, rfl, r, CR K, dx, _, rfl, upd_same, T.clR, T.r2, (by show 1 < 1000; decide), ?_⟩
    refine ⟨_, rfl, _, rfl, r, CR K, dx, _, rfl, upd_same, T.clR, T.r3, (by show 2 < 1000; decide), ?_⟩
    rw [upd_upd, upd_upd]
    exact q
def spSt (K : PySem.W.Frag) (w : World) : Sp := fun vs H Q _ => ∃ (vp : V) (li : Addr) (keep : Bool) (g0 : Fn) (r : List Fn) (args : List Val) (avs : List V), vs = [vp, .ref li, .bl keep] ∧ RepV K H (encP (g0 :: r)) vp ∧ H li = some (.lst avs) ∧ Paired (fun x v => RepV K H x v) args avs ∧ CkP (g0 :: r) ∧ g0.name = "main" ∧ g0.ps.length = args.length ∧
  (encP (g0 :: r)).size + sizes args ≤ 100000 ∧ ∀ (H' : Hp) (m : Addr) (A : MA) (E : List Ent) (kl : List (Call × Addr)) (S : MSt), mStart keep (g0 :: r) args = some S → MachAt K w H H' m A (g0 :: r) keep E S none kl → E.length + kl.length ≤ (encP (g0 :: r)).size + sizes args + 4 → Q (.ref m) H'
theorem sc_st : FnScope ["program", "inputs", "keeping"] ["program", "inputs", "keeping"] (defScope s_started) := ⟨rfl, rfl, rfl, by decide +kernel, rfl, by decide +kernel, by decide +kernel⟩
theorem ok_st {f : Addr} {fd : FuncData} (F : FnS K s_started "started" "started" f fd) (T : Txt K mg) (gK : Glob P w K mg base "check_program" 4 ["value"] (spCk K)) (gI : Glob P w K mg base "inputs_of" 5 ["program"] (spIO K)) (gM : MkrK P w K mg base (CM K) 3 ["self", "program", "inputs", "keeping"] 2 ["keeping"] (spMInit K w)) : FnOk P w K mg base CX0 6 f fd ["program", "inputs", "keeping"] (spSt K w) := by
  obtain ⟨fK, fdK, GK, mK, kK, bK⟩ := gK
  obtain ⟨fI, fdI, GI, mI, kI, bI⟩ := gI
  obtain ⟨fM, fdM, gg, GM, MM, bM⟩ := gM
  refine ok0 F sc_st (fun vs H Q E h => ?_) (fun cdv A0 outer s0 H vs Q E0 hr h => ?_)
  · obtain ⟨vp, li, keep, g0, r, args, avs, rfl, _⟩ := h
    rfl
  · obtain ⟨vp, li, keep, g0, r, args, avs, rfl, rp, hli, pa, ck, nm, lg, sz, k⟩ := h
    refine ⟨_, (pss_cons (ps_expr (pe_call GK (hr.mono (by decide)) (by rfl) mK kK bK .nil pass0 (pa_cons (pv 0) pa_nil)))
 (pss_cons (ps_if (pt_cmpR op_ne (pe_callB call_len_seq (by rfl) T.len b_len (pa_cons (pv 1) pa_nil)) (pe_call GI hr (by rfl) mI kI bI .nil pass0 (pa_cons (pv 0) pa_nil)) (nomark _))
 (pss_one ps_no)
 pss_nil)
 (pss_one (ps_ret (pe_makeK MM GM (hr.mono (by decide)) (by rfl) T.gM bM pass0 (pa_cons (pv 0) (pa_cons (pv 1) pa_nil)) (pk_cons (pv 2) pk_nil)))))), ?_⟩
    have lav : avs.length = args.length := (Paired.length pa).symm
    refine ⟨_, rfl, _, g0 :: r, rfl, rp, ck, fun H1 s1 => ?_⟩
    refine ⟨_, rfl, li, _, rfl, .inl (SqL.of (s1 _ _ hli)), _, rfl, _, g0, r, rfl, rp.keeps (fun a xs e => s1 a _ e), ck, fun H2 s2 => ⟨rfl, _, rfl, ?_⟩⟩
    have e0 : (!decide (V.int ((avs.length : Nat) : Int) = V.int ((g0.ps.length : Nat) : Int))) = false := by rw [lav, lg, decide_eq_true rfl]; rfl
    rw [e0]
    have s12 := s1.trans s2
    refine iteF ⟨_, rfl, _, rfl, _, rfl, rfl, rfl, fun x dx hx hdx nx => ?_⟩
    have s3 : Same H2 (upd (upd H2 dx (.own x)) x (.ins (CM K) dx [])) := fun b o e => (upd_ne (ne_of_none e hx)).trans ((upd_ne (ne_of_none e hdx)).trans e)
    have s4 := s12.trans s3
    have kt : KT0 H _ := fun a xs e => s4 a _ e
    refine ⟨H, x, dx, li, vp, g0 :: r, g0, keep, args, avs, rfl, upd_same, s4, Same.free s12 hx, rp.keeps kt, s4 _ _ hli, Paired.mapP pa fun _ _ z => z.keeps kt, fun g hg => ⟨(ck.ps g hg).1, (ck.ps g hg).2.1⟩, ck.nd, ⟨r, rfl⟩, nm, lg, sz, ck.len, fun H' A E kl S hS Z l => ⟨rfl, k H' x A E kl S hS Z l⟩⟩
end
end OgW
/-! OgR2: run_program, watch_program. -/
namespace OgW
open PySem PySem.Spec PyProof.Rows L2 OgD Og OgT
theorem start_bnd {keep : Bool} {P : List Fn} {args : List Val} {S : MSt} {E : List Ent} {kl : List (Call × Addr)} {C lim : Nat} (h : mStart keep P args = some S) (l : E.length + kl.length ≤ C) : Bnd C lim E kl S := by
  have h : (match fnOf P "main" with
    | some g => if g.ps.length = args.length then some (⟨0, [], .ev g.body (g.ps.zip args) :: (if keep = true then [.fin ⟨"main", args⟩ (0 + 1)] else [])⟩ : MSt) else none
    | none => none) = some S := h
  cases e : fnOf P "main" with
  | none =>
    rw [e] at h
    cases h
  | some g =>
    rw [e] at h
    have h : (if g.ps.length = args.length then some (⟨0, [], .ev g.body (g.ps.zip args) :: (if keep = true then [.fin ⟨"main", args⟩ (0 + 1)] else [])⟩ : MSt) else none) = some S := h
    by_cases q : g.ps.length = args.length
    · rw [if_pos q] at h
      have h := Option.some.inj h
      subst h
      refine ⟨?_, ⟨Nat.le_refl _, ?_⟩, Nat.zero_le _⟩
      · cases keep
        · show E.length + kl.length + 0 ≤ C + 0
          omega
        · show E.length + kl.length + 0 ≤ C + 0
          omega
      · cases keep
        · show 1 + 0 ≤ 4 + 20 * 0
          omega
        · show 1 + (1 + 0) ≤ 4 + 20 * 0
          omega
    · rw [if_neg q] at h
      cases h
section
variable {P : Program} {w : World} {K : PySem.W.Frag} {mg : Str → Option Value} {base : Heap}
/-- a program and its inputs as the law hands them -/
structure Ask (K : PySem.W.Frag) (H : Hp) (vp : V) (li : Addr) (g0 : Fn) (r : List Fn) (args : List Val) (avs : List V) : Prop where
  rp : RepV K H (encP (g0 :: r)) vp
  li : H li = some (.lst avs)
  ra : Paired (fun x v => RepV K H x v) args avs
  ck : CkP (g0 :: r)
  nm : g0.name = "main"
  lg : g0.ps.length = args.length
  sz : (encP (g0 :: r)).size + sizes args ≤ 100000
def spRP (K : PySem.W.Frag) : Sp := fun vs H Q _ => ∃ (vp : V) (li : Addr) (lim : Nat) (g0 : Fn) (r : List Fn) (args : List Val) (avs : List V) (S S' : MSt) (n : Nat), vs = [vp, .ref li, .int lim] ∧ Ask K H vp li g0 r args avs ∧ lim ≤ 40000 ∧ mStart false (g0 :: r) args = some S ∧ GoesN false (g0 :: r) lim n S none S' none ∧ S'.todo ≠ [] ∧
  ∀ (H' : Hp) (q dx : Addr), H' q = some (.ins (CR K) dx (runF (.str "tired") .non (.int lim))) → Same H H' → Q (.ref q) H'
theorem sc_rp : FnScope ["program", "inputs", "limit", "machine"] ["program", "inputs", "limit"] (defScope s_run_program) := ⟨rfl, rfl, rfl, by decide +kernel, rfl, by decide +kernel, by decide +kernel⟩
theorem ok_rp {f : Addr} {fd : FuncData} (F : FnS K s_run_program "run_program" "run_program" f fd) (T : Txt K mg) (gS : Glob P w K mg base "started" 6 ["program", "inputs", "keeping"] (spSt K w)) (gG : Mth P w K mg base (CM K) "go_on" 4 ["self", "limit"] (spGo K w)) (gD : Mth P w K mg base (CM K) "is_done" 1 ["self"] (spDone K w))
    (gR : Mkr P w K mg base (CR K) 1 ["self", "kind", "value", "steps"] (spRun K)) : FnOk P w K mg base CX0 7 f fd ["program", "inputs", "limit"] (spRP K) := by
  obtain ⟨fS, fdS, GS, mS, kS, bS⟩ := gS
  obtain ⟨fG, fdG, GG, mG, bG⟩ := gG
  obtain ⟨fD, fdD, GD, mD, bD⟩ := gD
  obtain ⟨fR, fdR, GR, MR, bR⟩ := gR
  refine ok0 F sc_rp (fun vs H Q E h => ?_) (fun cdv A0 outer s0 H vs Q E0 hr h => ?_)
  · obtain ⟨vp, li, lim, g0, r, args, avs, S, S', n, rfl, _⟩ := h
    rfl
  · obtain ⟨vp, li, lim, g0, r, args, avs, S, S', n, rfl, ask, hl, hS, gn, td, k⟩ := h
    refine ⟨_, (pss_cons (ps_set (i := 3) sc_rp.nd rfl (.inl rfl) (pe_call GS (hr.mono (by decide)) (by rfl) mS kS bS .nil pass0 (pa_cons (pv 0) (pa_cons (pv 1) (pa_cons pe_bl pa_nil)))))
 (pss_cons (ps_expr (pe_meth (pv 3) T.clM mG GG (hr.mono (by decide)) bG .nil pass0 (pa_cons (pv 2) pa_nil)))
 (pss_cons (ps_if (PW.pt (pw_and (pt_val (pe_meth0 (pv 3) T.clM mD GD (hr.mono (by decide)) bD .nil pass0)) (pw_and1 pt_no)))
 (pss_one (ps_ret pe_no))
 pss_nil)
 (pss_cons (ps_if (pt_val (pe_meth0 (pv 3) T.clM mD GD (hr.mono (by decide)) bD .nil pass0))
 (pss_one (ps_ret pe_no))
 pss_nil)
 (pss_one (ps_ret (pe_make MR GR (hr.mono (by decide)) (by rfl) T.gR bR .nil pass0 (pa_cons pe_str (pa_cons pe_non (pa_cons (pv 2) pa_nil)))))))))), ?_⟩
    refine ⟨_, rfl, _, rfl, vp, li, false, g0, r, args, avs, rfl, ask.rp, ask.li, ask.ra, ask.ck, ask.nm, ask.lg, ask.sz, fun H1 m A E kl S0 e0 Z l0 => ?_⟩
    rw [hS] at e0
    have e0 := Option.some.inj e0
    subst e0
    have sz := ask.sz
    obtain ⟨pv1, b1, _⟩ := Z.ob
    refine ⟨_, rfl, m, A.dx, _, rfl, b1, mf_no5 A false pv1 S.steps, _, rfl, H, m, A, g0 :: r, false, E, S, S', none, none, kl, n, lim, (encP (g0 :: r)).size + sizes args + 4, rfl, Z, fun g hg => ⟨(ask.ck.ps g hg).1, (ask.ck.ps g hg).2.1⟩, gn, start_bnd hS l0, by omega, hl, fun H2 E2 kl2 Z2 x2 bn2 => ?_⟩
    obtain ⟨pv2, b2, _⟩ := Z2.ob
    have dn : ∀ b : Bool, (b = true ↔ S'.todo = []) → b = false := fun b h => by
      cases b
      · rfl
      · exact absurd (h.mp rfl) td
    refine ⟨_, rfl, m, A.dx, _, rfl, b2, mf_no4 A false pv2 S'.steps, H, m, A, g0 :: r, false, E2, S', none, kl2, rfl, Z2, fun b hb => ⟨_, rfl, ?_⟩⟩
    rw [dn b hb]
    refine iteF (iteF ?_)
    refine ⟨_, rfl, m, A.dx, _, rfl, b2, mf_no4 A false pv2 S'.steps, H, m, A, g0 :: r, false, E2, S', none, kl2, rfl, Z2, fun b hb => ⟨_, rfl, ?_⟩⟩
    rw [dn b hb]
    refine iteF ⟨_, rfl, fun x dx hx hdx nx => ?_⟩
    refine ⟨x, dx, _, _, _, rfl, upd_same, ⟨rfl, k _ x dx upd_same fun b o e => ?_⟩⟩
    have e2 := Z2.fr b o e
    exact (upd_ne (ne_of_none e2 hx)).trans ((upd_ne (ne_of_none e2 hx)).trans ((upd_ne (ne_of_none e2 hdx)).trans e2))
def spWP (K : PySem.W.Frag) : Sp := fun vs H Q _ => ∃ (vp : V) (li : Addr) (lim : Nat) (g0 : Fn) (r : List Fn) (args : List Val) (avs : List V) (S S' : MSt) (n : Nat) (pr : Option (Nat × Nat)), vs = [vp, .ref li, .int lim] ∧ Ask K H vp li g0 r args avs ∧ lim ≤ 40000 ∧ mStart true (g0 :: r) args = some S ∧ GoesN true (g0 :: r) lim n S none S' pr ∧
  ((pr = none ∧ S'.todo ≠ [] ∧ ∀ (H' : Hp) (q : Addr), H' q = some (.tup [.str "tired"]) → Same H H' → Q (.ref q) H') ∨
   ∃ a b : Nat, pr = some (a, b) ∧ b ≤ lim ∧ ∀ (H' : Hp) (q p : Addr), H' q = some (.tup [.str "never", .ref p]) → H' p = some (.tup [.int a, .int b]) → Same H H' → Q (.ref q) H')
theorem sc_wp : FnScope ["program", "inputs", "limit", "machine"] ["program", "inputs", "limit"] (defScope s_watch_program) := ⟨rfl, rfl, rfl, by decide +kernel, rfl, by decide +kernel, by decide +kernel⟩
theorem ok_wp {f : Addr} {fd : FuncData} (F : FnS K s_watch_program "watch_program" "watch_program" f fd) (T : Txt K mg) (gS : Glob P w K mg base "started" 6 ["program", "inputs", "keeping"] (spSt K w)) (gG : Mth P w K mg base (CM K) "go_on" 4 ["self", "limit"] (spGo K w)) (gD : Mth P w K mg base (CM K) "is_done" 1 ["self"] (spDone K w)) : FnOk P w K mg base CX0 7 f fd ["program", "inputs", "limit"] (spWP K) := by
  obtain ⟨fS, fdS, GS, mS, kS, bS⟩ := gS
  obtain ⟨fG, fdG, GG, mG, bG⟩ := gG
  obtain ⟨fD, fdD, GD, mD, bD⟩ := gD
  refine ok0 F sc_wp (fun vs H Q E h => ?_) (fun cdv A0 outer s0 H vs Q E0 hr h => ?_)
  · obtain ⟨vp, li, lim, g0, r, args, avs, S, S', n, pr, rfl, _⟩ := h
    rfl
  · obtain ⟨vp, li, lim, g0, r, args, avs, S, S', n, pr, rfl, ask, hl, hS, gn, k⟩ := h
    refine ⟨_, (pss_cons (ps_set (i := 3) sc_wp.nd rfl (.inl rfl) (pe_call GS (hr.mono (by decide)) (by rfl) mS kS bS .nil pass0 (pa_cons (pv 0) (pa_cons (pv 1) (pa_cons pe_bl pa_nil)))))
 (pss_cons (ps_expr (pe_meth (pv 3) T.clM mG GG (hr.mono (by decide)) bG .nil pass0 (pa_cons (pv 2) pa_nil)))
 (pss_cons (ps_if (PW.pt (pw_and (pt_cmp (pc_notN (pe_fld (pv 3) rfl)) rfl) (pw_and1 (pt_cmpR op_le (pe_ix ix_tup (pe_fld (pv 3) rfl) pe_int (fun _ _ => rfl)) (pv 2) (nomark _)))))
 (pss_one (ps_ret (pe_tup (pa_cons pe_str (pa_cons (pe_fld (pv 3) rfl) pa_nil)))))
 pss_nil)
 (pss_cons (ps_if (PW.pt (pw_and (pt_val (pe_meth0 (pv 3) T.clM mD GD (hr.mono (by decide)) bD .nil pass0)) (pw_and1 pt_no)))
 (pss_one (ps_ret pe_no))
 pss_nil)
 (pss_cons (ps_if (pt_val (pe_meth0 (pv 3) T.clM mD GD (hr.mono (by decide)) bD .nil pass0))
 (pss_one (ps_ret pe_no))
 pss_nil)
 (pss_one (ps_ret (pe_tup (pa_cons pe_str pa_nil))))))))), ?_⟩
    have l6 := line6
    refine ⟨_, rfl, _, rfl, vp, li, true, g0, r, args, avs, rfl, ask.rp, ask.li, ask.ra, ask.ck, ask.nm, ask.lg, ask.sz, fun H1 m A E kl S0 e0 Z l0 => ?_⟩
    rw [hS] at e0
    have e0 := Option.some.inj e0
    subst e0
    have sz := ask.sz
    obtain ⟨pv1, b1, _⟩ := Z.ob
    refine ⟨_, rfl, m, A.dx, _, rfl, b1, mf_no5 A true pv1 S.steps, _, rfl, H, m, A, g0 :: r, true, E, S, S', none, pr, kl, n, lim, (encP (g0 :: r)).size + sizes args + 4, rfl, Z, fun g hg => ⟨(ask.ck.ps g hg).1, (ask.ck.ps g hg).2.1⟩, gn, start_bnd hS l0, by omega, hl, fun H2 E2 kl2 Z2 x2 bn2 => ?_⟩
    obtain ⟨pv2, b2, c2⟩ := Z2.ob
    refine ⟨_, rfl, m, CM K, A.dx, _, _, rfl, b2, T.clM, T.m6, mf_pr A true pv2 S'.steps, _, rfl, ?_⟩
    rcases k with ⟨rfl, td, k⟩ | ⟨a, b, rfl, hb, k⟩
    · have c2 : pv2 = .non := c2
      subst c2
      have dn : ∀ b : Bool, (b = true ↔ S'.todo = []) → b = false := fun b h => by
        cases b
        · rfl
        · exact absurd (h.mp rfl) td
      rw [decide_eq_true (rfl : V.non = V.non)]
      refine iteF (iteF ?_)
      refine ⟨_, rfl, m, A.dx, _, rfl, b2, mf_no4 A true .non S'.steps, H, m, A, g0 :: r, true, E2, S', none, kl2, rfl, Z2, fun b hb => ⟨_, rfl, ?_⟩⟩
      rw [dn b hb]
      refine iteF (iteF ?_)
      refine ⟨_, rfl, m, A.dx, _, rfl, b2, mf_no4 A true .non S'.steps, H, m, A, g0 :: r, true, E2, S', none, kl2, rfl, Z2, fun b hb => ⟨_, rfl, ?_⟩⟩
      rw [dn b hb]
      refine iteF ⟨(by show 1 ≤ sizeLine; omega), fun q hq => k _ q upd_same (Z2.fr.trans (Same.laid hq))⟩
    · obtain ⟨p, rfl, hp⟩ := c2
      rw [decide_eq_false (show ¬ V.ref p = V.non from fun z => by cases z)]
      refine iteT ⟨_, rfl, m, CM K, A.dx, _, _, rfl, b2, T.clM, T.m6, mf_pr A true (.ref p) S'.steps, p, _, _, .int b, rfl, rfl, SqT.of hp, atI_nat (j := 1) rfl, _, rfl, _, _, rfl, rfl, _, rfl, ?_⟩
      rw [decide_eq_true (show (b : Int) ≤ (lim : Nat) by omega)]
      refine iteT ⟨_, rfl, m, CM K, A.dx, _, _, rfl, b2, T.clM, T.m6, mf_pr A true (.ref p) S'.steps, (by show 2 ≤ sizeLine; omega), fun q hq => k _ q p upd_same (Same.laid hq _ _ hp) (Z2.fr.trans (Same.laid hq))⟩
end
end OgW
/-! OgR3: a chain of three comparisons; universal. -/
namespace OgZ
open PySem PySem.Spec PyProof.Rows L2
section
variable {X : Cx} {a b c d : Expr} {ta tb tc td : TE} {pos : Pos}
/-- a o1 b o2 c o3 d -/
def tCh3 (r1 r2 r3 : R2) (ta tb tc td : TE) : TE := fun σ H Q => ta σ H fun x H1 => tb σ H1 fun y H2 => r1 x y H2 fun z H3 => ∃ k, z = .bl k ∧
  (if k = true then tc σ H3 fun u H4 => r2 y u H4 fun z2 H5 => ∃ k2, z2 = .bl k2 ∧ (if k2 = true then td σ H5 fun v H6 => r3 u v H6 Q else Q (.bl false) H5) else Q (.bl false) H3)
theorem pe_ch3 {o1 o2 o3 : CmpOp} {r1 r2 r3 : R2} (h1 : OpR X (compareOp o1) r1) (h2 : OpR X (compareOp o2) r2) (h3 : OpR X (compareOp o3) r3) (ha : PE X a ta) (hb : PE X b tb) (hc : PE X c tc) (hd : PE X d td) (hm : lastMarks [o1, o2, o3] [b, c, d] = false := by with_unfolding_all rfl) :
    PE X (.Compare a [o1, o2, o3] [b, c, d] pos) (tCh3 r1 r2 r3 ta tb tc td) := by
  refine ⟨fun pins s σ H Q I h => ?_⟩
  refine Compare_chain (thn (ha.run pins s σ H _ I h) fun v0 s1 ⟨x, H1, I1, rx, g1⟩ => chain_link (thn (hb.run pins s1 σ H1 _ I1 g1) fun v1 s2 ⟨y, H2, I2, ry, g2⟩ => thn (h1 pins s2 σ H2 x y v0 v1 _ I2 rx ry g2) fun e1 s3 ⟨z, H3, I3, rz, k, ez, g3⟩ => ?_)) hm
  subst ez
  cases rz
  refine wpAny_truthy_bool ?_
  cases k with
  | false => exact ite_ff ⟨.bl false, H3, I3, rfl, g3⟩
  | true =>
    refine ite_tt (chain_link (thn (hc.run pins s3 σ H3 _ I3 g3) fun v2 s4 ⟨u, H4, I4, ru, g4⟩ => thn (h2 pins s4 σ H4 y u v1 v2 _ I4 ry ru g4) fun e2 s5 ⟨z2, H5, I5, rz2, k2, ez2, g5⟩ => ?_))
    subst ez2
    cases rz2
    refine wpAny_truthy_bool ?_
    cases k2 with
    | false => exact ite_ff ⟨.bl false, H5, I5, rfl, g5⟩
    | true => exact ite_tt (chain_last (thn (hd.run pins s5 σ H5 _ I5 g5) fun v3 s6 ⟨t, H6, I6, rt, g6⟩ => h3 pins s6 σ H6 u t v2 v3 Q I6 ru rt g6))
end
end OgZ
namespace OgW
open PySem PySem.Spec PyProof.Rows L2 OgD Og OgT
section
variable {P : Program} {w : World} {K : PySem.W.Frag} {mg : Str → Option Value} {base : Heap}
def spUni (K : PySem.W.Frag) : Sp := fun vs H Q _ => vs = [] ∧ Q (.ref (He.ga K "UNIVERSAL")) H
theorem sc_uni : FnScope [] [] (defScope s_universal) := ⟨rfl, rfl, rfl, by decide +kernel, rfl, by decide +kernel, by decide +kernel⟩
theorem ok_uni {f : Addr} {fd : FuncData} (F : FnS K s_universal "universal" "universal" f fd) (T : Txt K mg) : FnOk P w K mg base CX0 1 f fd [] (spUni K) := by
  refine ok0 F sc_uni (fun vs H Q E h => ?_) (fun cdv A0 outer s0 H vs Q E0 hr h => ?_)
  · obtain ⟨rfl, _⟩ := h
    rfl
  · obtain ⟨rfl, q⟩ := h
    exact ⟨_, pss_one (ps_ret (pe_glob (by rfl) T.gU (v := .ref (He.ga K "UNIVERSAL")) rfl)), q⟩
end
end OgW
/-! OgR4: open_calls, check_never. -/
namespace OgW
open PySem PySem.Spec PyProof.Rows L2 OgD Og OgT
section
variable {P : Program} {w : World} {K : PySem.W.Frag} {mg : Str → Option Value} {base : Heap}
def spOC (K : PySem.W.Frag) (w : World) : Sp := fun vs H Q _ => ∃ (H0 : Hp) (m : Addr) (A : MA) (Pf : List Fn) (E : List Ent) (S S' : MSt) (pr' : Option (Nat × Nat)) (kl : List (Call × Addr)) (n b C : Nat), vs = [.ref m, .int (b + 1 : Nat)] ∧
  MachAt K w H0 H m A Pf true E S none kl ∧ PGood Pf ∧ GoesN true Pf b n S none S' pr' ∧ Bnd C b E kl S ∧ C ≤ 700000 ∧ b ≤ 40000 ∧ (∀ x y, pr' = some (x, y) → b + 1 ≤ y) ∧
  ∀ (H' : Hp) (l : Addr) (ns : List Nat), H' l = some (.lst (ns.map vi)) → Same H0 H' → ((∃ c, ns = (openAt c S'.todo).reverse ∧ (openAt c S'.todo).head? = some (b + 1)) ∨ (ns = [] ∧ ∀ c, (openAt c S'.todo).head? ≠ some (b + 1))) → Q (.ref l) H'
theorem sc_oc : FnScope ["machine", "step", "steps"] ["machine", "step"] (defScope s_open_calls) := ⟨rfl, rfl, rfl, by decide +kernel, rfl, by decide +kernel, by decide +kernel⟩
theorem relV_ref {x : V} {a : Addr} (h : RelV x (.ref a)) : x = .ref a := by
  cases x <;> first
    | (cases h; rfl)
    | (obtain ⟨_, h⟩ := h; cases h)
    | cases h
theorem oc_cond {H0 H : Hp} {m : Addr} {A : MA} {Pf : List Fn} {E : List Ent} {S : MSt} {pr : Option (Nat × Nat)} {kl : List (Call × Addr)} {b : Nat} {r : L2.St} {R : Bool → Hp → Prop} (T : Txt K mg) (Z : MachAt K w H0 H m A Pf true E S pr kl) (hp : ∀ x y, pr = some (x, y) → b + 1 ≤ y) (fin : R false H) :
    (tAnd (tB (tNotN (tFld K (tVar 0) "pair"))) (tTest (tOp (rI0 fun i j => V.bl (decide (i < j))) (tOp (rIxT K) (tFld K (tVar 0) "pair") (tC (.int 1))) (tVar 1)))) (some (.ref m) :: some (.int (b + 1 : Nat)) :: r) H R := by
  obtain ⟨pv, e1, e2⟩ := Z.ob
  refine ⟨_, rfl, m, CM K, A.dx, _, _, rfl, e1, T.clM, T.m6, mf_pr A true pv S.steps, _, rfl, ?_⟩
  cases pr with
  | none =>
    have e2 : pv = .non := e2
    subst e2
    rw [decide_eq_true (rfl : V.non = V.non)]
    exact iteF fin
  | some q =>
    obtain ⟨x, y⟩ := q
    obtain ⟨p, rfl, g⟩ := e2
    have hy := hp x y rfl
    rw [decide_eq_false (show ¬ V.ref p = V.non from fun z => by cases z)]
    refine iteT ⟨_, rfl, m, CM K, A.dx, _, _, rfl, e1, T.clM, T.m6, mf_pr A true (.ref p) S.steps, p, _, _, .int y, rfl, rfl, SqT.of g, atI_nat (j := 1) rfl, _, rfl, _, _, rfl, rfl, _, rfl, ?_⟩
    rw [decide_eq_false (show ¬ (y : Int) < ((b + 1 : Nat) : Int) by omega)]
    exact fin
theorem ok_oc {f : Addr} {fd : FuncData} (F : FnS K s_open_calls "open_calls" "open_calls" f fd) (T : Txt K mg) (gG : Mth P w K mg base (CM K) "go_on" 4 ["self", "limit"] (spGo K w)) : FnOk P w K mg base CX0 5 f fd ["machine", "step"] (spOC K w) := by
  obtain ⟨fG, fdG, GG, mG, bG⟩ := gG
  refine ok0 F sc_oc (fun vs H Q E h => ?_) (fun cdv A0 outer s0 H vs Q E0 hr h => ?_)
  · obtain ⟨H0, m, A, Pf, E, S, S', pr', kl, n, b, C, rfl, _⟩ := h
    rfl
  · obtain ⟨H0, m, A, Pf, E, S, S', pr', kl, n, b, C, rfl, Z, gp, gn, bn, hC, hb, hp, k⟩ := h
    refine ⟨_, (pss_cons (ps_expr (pe_meth (pv 0) T.clM mG GG hr bG .nil pass0 (pa_cons (pe_op op_sub (pv 1) pe_int) pa_nil)))
 (pss_cons (ps_while PassesOwn.never (PW.pt (pw_and (pt_cmp (pc_notN (pe_fld (pv 0) rfl)) rfl) (pw_and1 (pt_cmpR op_lt (pe_ix ix_tup (pe_fld (pv 0) rfl) pe_int (fun _ _ => rfl)) (pv 1) (nomark _)))))
 (pss_cons (ps_fld (pv 0) pe_non rfl)
 (pss_one (ps_expr (pe_meth (pv 0) T.clM mG GG hr bG .nil pass0 (pa_cons (pe_op op_sub (pv 1) pe_int) pa_nil))))))
 (pss_cons (ps_lock (ps_for PassesOwn.never rfl (pi_mvalues (pe_fld (pv 0) rfl)) (pg_name (i := 2) sc_oc.nd rfl (.inl rfl))
 (pss_one (ps_if (PW.pt (pw_and (pt_cmpR op_gt (pe_callB call_len_seq (by rfl) T.len b_len (pa_cons (pv 2) pa_nil)) pe_int (nomark _)) (pw_and1 (pt_cmpR op_eq (pe_ix ix_list (pv 2) (pe_un un_neg pe_int) (fun _ _ => rfl)) (pv 1) (nomark _)))))
 (pss_one (ps_ret (pv 2)))
 pss_nil))))
 (pss_one (ps_ret (pe_lst pa_nil)))))), ?_⟩
    have l6 := line6
    obtain ⟨pv1, b1, _⟩ := Z.ob
    have e1 : ((b + 1 : Nat) : Int) - 1 = (b : Nat) := by omega
    refine ⟨_, rfl, m, A.dx, _, rfl, b1, mf_no5 A true pv1 S.steps, _, rfl, _, _, rfl, rfl, H0, m, A, Pf, true, E, S, S', none, pr', kl, n, b, C, (by show [V.ref m, V.int (((b + 1 : Nat) : Int) - 1)] = _; rw [e1]), Z, gp, gn, bn, hC, hb, fun H2 E2 kl2 Z2 x2 bn2 => ?_⟩
    obtain ⟨pv2, b2, c2⟩ := Z2.ob
    refine ⟨fun mm σ H' => mm = 0 ∧ σ = [some (.ref m), some (.int (b + 1 : Nat)), none] ∧ H' = H2, ⟨0, rfl, rfl, rfl⟩, ?_⟩
    rintro mm σ H' ⟨rfl, rfl, rfl⟩
    refine oc_cond T Z2 hp (iteF ?_)
    obtain ⟨kvs, ⟨rows, ek, rr, _, _⟩, pk⟩ := Z2.kp.dm
    refine ⟨A.kp, mdO w A.kp rows, ek, True.intro, fun od => ?_⟩
    have hback : upd (upd H' A.kp (.frz od (mdO w A.kp rows))) A.kp (mdO w A.kp rows) = H' := by
      rw [upd_upd]
      funext z
      by_cases e : z = A.kp
      · rw [e, upd_same, ek]
      · exact upd_ne e
    have lr : kvs.length = rows.length := Paired.length rr
    have lk : kl2.length = kvs.length := Paired.length pk
    have hmf : upd H' A.kp (.frz od (mdO w A.kp rows)) m = some (.ins (CM K) A.dx (mf A true pv2 S'.steps)) := (upd_ne (ne_of b2 ek (by intro z; cases z))).trans b2
    refine ⟨_, rfl, m, CM K, A.dx, _, _, rfl, hmf, T.clM, T.m5, mf_kp A true pv2 S'.steps, A.kp, od, rows, rfl, upd_same, ?_⟩
    refine ⟨fun i mm σ H3 => mm = rows.length - i ∧ i ≤ rows.length ∧ H3 = upd H' A.kp (.frz od (mdO w A.kp rows)) ∧ (∃ y : Option V, σ = [some (.ref m), some (.int (b + 1 : Nat)), y]) ∧ ∀ (j : Nat) (q : Call × Addr), j < i → kl2[j]? = some q → (openAt q.1 S'.todo).head? ≠ some (b + 1),
      ⟨_, rfl, Nat.zero_le _, rfl, ⟨none, rfl⟩, fun j q h => by omega⟩, ?_⟩
    rintro i mm σ H3 ⟨rfl, hi, rfl, ⟨y, rfl⟩, hno⟩
    by_cases lt : i < rows.length
    · have lt2 : i < kl2.length := by omega
      obtain ⟨kv, hkv, ci, cns, ekv, d1, d2, hlist⟩ := paired_get pk (List.getElem?_eq_getElem lt2)
      subst ekv
      obtain ⟨r, hr, _, _, _, relr⟩ := paired_get rr hkv
      have er : r.2.2 = Value.ref kl2[i].2 := relr
      refine .inr ⟨⟨upd_same, r, .ref kl2[i].2, hr, relr⟩, fun σ' H4 => H4 = upd H' A.kp (.frz od (mdO w A.kp rows)) ∧ (∃ y : Option V, σ' = [some (.ref m), some (.int (b + 1 : Nat)), y]) ∧ ∀ (j : Nat) (q : Call × Addr), j < i + 1 → kl2[j]? = some q → (openAt q.1 S'.todo).head? ≠ some (b + 1),
        fun σ' H4 q => ⟨rows.length - (i + 1), by omega, rfl, by omega, q⟩, fun x H4 yl => ?_⟩
      obtain ⟨rfl, r', hr', rx⟩ := yl
      rw [hr] at hr'
      have hr' := Option.some.inj hr'
      subst hr'
      rw [er] at rx
      have ex := relV_ref rx
      subst ex
      have hl : upd H' A.kp (.frz od (mdO w A.kp rows)) kl2[i].2 = some (.lst ((openAt kl2[i].1 S'.todo).map vi).reverse) := (upd_ne (ne_of hlist ek (by intro z; cases z))).trans hlist
      have nxt : (openAt kl2[i].1 S'.todo).head? ≠ some (b + 1) → ∀ (j : Nat) (q : Call × Addr), j < i + 1 → kl2[j]? = some q → (openAt q.1 S'.todo).head? ≠ some (b + 1) := fun hn j q hj hq => by
        by_cases e : j = i
        · subst e
          rw [List.getElem?_eq_getElem lt2] at hq
          have hq := Option.some.inj hq
          subst hq
          exact hn
        · exact hno j q (by omega) hq
      refine ⟨_, rfl, kl2[i].2, _, rfl, .inl (SqL.of hl), _, _, rfl, rfl, _, rfl, ?_⟩
      cases ho : openAt kl2[i].1 S'.todo with
      | nil =>
        rw [ho] at nxt
        exact iteF (iteF ⟨rfl, ⟨_, rfl⟩, nxt (by intro z; cases z)⟩)
      | cons a l =>
        rw [ho] at nxt hl
        have hd : decide ((0 : Int) < ((((a :: l).map vi).reverse).length : Nat)) = true := decide_eq_true (by rw [List.length_reverse, List.length_map, List.length_cons]; omega)
        rw [hd]
        have at1 : atI ((a :: l).map vi).reverse (-1) = some (vi a) := by
          rw [List.map_cons, ← rev_push]
          exact atI_last _ _
        refine iteT ⟨_, rfl, _, rfl, kl2[i].2, _, _, vi a, rfl, rfl, SqL.of hl, at1, _, rfl, rfl, _, rfl, ?_⟩
        by_cases ea : a = b + 1
        · subst ea
          rw [decide_eq_true rfl]
          refine iteT ⟨_, rfl, upd_same, ?_⟩
          rw [hback]
          refine k H' kl2[i].2 ((b + 1) :: l).reverse ?_ Z2.fr (.inl ⟨kl2[i].1, by rw [ho], by rw [ho]; rfl⟩)
          rw [hlist, ho, List.map_reverse]
        · have ne : ¬ (V.int (a : Int) = V.int ((b + 1 : Nat) : Int)) := fun z => ea (by injection z with z; omega)
          rw [decide_eq_false ne]
          exact iteF ⟨rfl, ⟨_, rfl⟩, nxt (by intro z; injection z with z; exact ea z)⟩
    · refine .inl ⟨⟨upd_same, by omega⟩, upd_same, ?_⟩
      rw [hback]
      refine ⟨Nat.zero_le _, fun l hl => k _ l [] upd_same (Z2.fr.trans (Same.laid hl)) (.inr ⟨rfl, fun c => ?_⟩)⟩
      by_cases hc : ∃ q ∈ kl2, q.1 = c
      · obtain ⟨q, hq, rfl⟩ := hc
        obtain ⟨j, hj, ej⟩ := List.mem_iff_getElem.mp hq
        exact hno j q (by omega) (by rw [List.getElem?_eq_getElem hj, ej])
      · rw [Z2.kp.all c fun q hq e => hc ⟨q, hq, e⟩]
        intro z
        cases z
theorem inV_int {a : Nat} : ∀ {l : List Nat}, inV (vi a) (l.map vi) = decide (a ∈ l)
  | [] => by simp [inV]
  | y :: l => by
    have ih := inV_int (a := a) (l := l)
    have e : inV (vi a) ((y :: l).map vi) = (((y : Int) == (a : Int)) || inV (vi a) (l.map vi)) := rfl
    rw [e, ih]
    by_cases h : y = a
    · subst h
      simp
    · have h2 : ¬ a = y := fun z => h z.symm
      have h3 : ¬ (y : Int) = a := by omega
      simp [h2, h3]
theorem flat_int : ∀ l : List Nat, (l.map vi).all flatV = true
  | [] => rfl
  | _ :: l => by
    show (true && (l.map vi).all flatV) = true
    rw [flat_int l]
    rfl
def spCN (K : PySem.W.Frag) : Sp := fun vs H Q _ => ∃ (vp : V) (li pp : Addr) (a b : Nat) (g0 : Fn) (r : List Fn) (args : List Val) (avs : List V) (S S' : MSt) (n : Nat) (pr : Option (Nat × Nat)) (ans : Bool), vs = [vp, .ref li, .ref pp] ∧ Ask K H vp li g0 r args avs ∧ SqT K H pp [.int a, .int (b + 1 : Nat)] ∧ 1 ≤ a ∧ a < b + 1 ∧ b ≤ 40000 ∧
  mStart true (g0 :: r) args = some S ∧ GoesN true (g0 :: r) b n S none S' pr ∧ (∀ x y, pr = some (x, y) → b + 1 ≤ y) ∧
  ((ans = true ∧ (∃ c, (openAt c S'.todo).head? = some (b + 1)) ∧ ∀ c, (openAt c S'.todo).head? = some (b + 1) → a ∈ openAt c S'.todo) ∨ (ans = false ∧ ∀ c, (openAt c S'.todo).head? ≠ some (b + 1))) ∧ (∀ H', Same H H' → SqT K H' pp [.int a, .int (b + 1 : Nat)]) ∧ ∀ H', Same H H' → Q (.bl ans) H'
theorem sc_cn : FnScope ["program", "inputs", "paper", "machine", "first", "second"] ["program", "inputs", "paper"] (defScope s_check_never) := ⟨rfl, rfl, rfl, by decide +kernel, rfl, by decide +kernel, by decide +kernel⟩
theorem ok_cn {f : Addr} {fd : FuncData} (F : FnS K s_check_never "check_never" "check_never" f fd) (T : Txt K mg) (gS : Glob P w K mg base "started" 6 ["program", "inputs", "keeping"] (spSt K w)) (gO : Glob P w K mg base "open_calls" 5 ["machine", "step"] (spOC K w)) : FnOk P w K mg base CX0 7 f fd ["program", "inputs", "paper"] (spCN K) := by
  obtain ⟨fS, fdS, GS, mS, kS, bS⟩ := gS
  obtain ⟨fO, fdO, GO, mO, kO, bO⟩ := gO
  refine ok0 F sc_cn (fun vs H Q E h => ?_) (fun cdv A0 outer s0 H vs Q E0 hr h => ?_)
  · obtain ⟨vp, li, pp, a, b, g0, r, args, avs, S, S', n, pr, ans, rfl, _⟩ := h
    rfl
  · obtain ⟨vp, li, pp, a, b, g0, r, args, avs, S, S', n, pr, ans, rfl, ask, hpp, h1, h2, hb, hS, gn, hpr, hans, hq, k⟩ := h
    refine ⟨_, (pss_cons (ps_set (i := 3) sc_cn.nd rfl (.inl rfl) (pe_call GS (hr.mono (by decide)) (by rfl) mS kS bS .nil pass0 (pa_cons (pv 0) (pa_cons (pv 1) (pa_cons pe_bl pa_nil)))))
 (pss_cons (ps_asg (pv 2) (pg_tup rfl (pgs_cons (pg_name (i := 4) sc_cn.nd rfl (.inl rfl)) (pgs_cons (pg_name (i := 5) sc_cn.nd rfl (.inl rfl)) pgs_nil))))
 (pss_one (ps_ret (pe_and (OgZ.pe_ch3 op_le op_lt op_le pe_int (pv 4) (pv 5) (pe_gi (by rfl) T.mostS)) (pe_one (pe_cmpR op_in_seq (pv 4) (pe_call GO (hr.mono (by decide)) (by rfl) mO kO bO .nil pass0 (pa_cons (pv 3) (pa_cons (pv 5) pa_nil))) (by with_unfolding_all rfl)))))))), ?_⟩
    refine ⟨_, rfl, _, rfl, vp, li, true, g0, r, args, avs, rfl, ask.rp, ask.li, ask.ra, ask.ck, ask.nm, ask.lg, ask.sz, fun H1 m A E kl S0 e0 Z l0 => ?_⟩
    rw [hS] at e0
    have e0 := Option.some.inj e0
    subst e0
    have sz := ask.sz
    refine ⟨_, rfl, pp, _, rfl, hq H1 Z.fr, rfl, _, _, rfl, _, _, rfl, rfl, ?_⟩
    refine ⟨_, rfl, _, _, rfl, rfl, _, rfl, ?_⟩
    rw [decide_eq_true (show (1 : Int) ≤ (a : Nat) by omega)]
    refine iteT ⟨_, rfl, _, _, rfl, rfl, _, rfl, ?_⟩
    rw [decide_eq_true (show (a : Int) < ((b + 1 : Nat) : Int) by omega)]
    refine iteT ⟨_, _, rfl, rfl, _, rfl, ?_⟩
    rw [decide_eq_true (show ((b + 1 : Nat) : Int) ≤ 10000000 by omega)]
    refine iteT ⟨_, rfl, _, rfl, _, rfl, H, m, A, g0 :: r, E, S, S', pr, kl, n, b, (encP (g0 :: r)).size + sizes args + 4, rfl, Z, fun g hg => ⟨(ask.ck.ps g hg).1, (ask.ck.ps g hg).2.1⟩, gn, start_bnd hS l0, by omega, hb, hpr, fun H' l ns hl sm hcase => ?_⟩
    refine ⟨l, _, rfl, .inl (SqL.of hl), rfl, flat_int ns, ?_⟩
    have e : (if false = true then !inV (vi a) (ns.map vi) else inV (vi a) (ns.map vi)) = ans := by
      rw [if_neg Bool.false_ne_true, inV_int]
      rcases hans with ⟨rfl, ⟨c0, hc0⟩, hall⟩ | ⟨rfl, hnone⟩
      · rcases hcase with ⟨c, rfl, hc⟩ | ⟨_, hno⟩
        · exact decide_eq_true (List.mem_reverse.mpr (hall c hc))
        · exact absurd hc0 (hno c0)
      · rcases hcase with ⟨c, rfl, hc⟩ | ⟨rfl, _⟩
        · exact absurd hc (hnone c)
        · rfl
    rw [e]
    exact k H' sm
end
end OgW
/-! OgL1: _law_take. -/
namespace OgW
open PySem PySem.Spec PyProof.Rows L2 OgD Og OgT
/-- the law's hand: the draws at dl, the next at n -/
def HandAt (H : Hp) (h dl : Addr) (ds : List Int) (n : Nat) : Prop := H h = some (.lst [.ref dl, .int n]) ∧ H dl = some (.lst (ds.map .int)) ∧ h ≠ dl
section
variable {P : Program} {w : World} {K : PySem.W.Frag} {mg : Str → Option Value} {base : Heap}
def spTake : Sp := fun vs H Q _ => ∃ (h dl : Addr) (ds : List Int) (n many : Nat), vs = [.ref h, .int many] ∧ HandAt H h dl ds n ∧ 0 < many ∧ ∀ r : Nat, r < many → Q (.int r) (upd H h (.lst [.ref dl, .int (n + 1 : Nat)]))
theorem sc_take : FnScope ["_law_hand", "_law_many", "_law_at", "_law_draws_here"] ["_law_hand", "_law_many"] (defScope s_law_take) := ⟨rfl, rfl, rfl, by decide +kernel, rfl, by decide +kernel, by decide +kernel⟩
theorem ok_take {f : Addr} {fd : FuncData} (F : FnS K s_law_take "_law_take" "_law_take" f fd) (T : Txt K mg) : FnOk P w K mg base CX0 1 f fd ["_law_hand", "_law_many"] spTake := by
  refine ok0 F sc_take (fun vs H Q E h => ?_) (fun cdv A0 outer s0 H vs Q E0 hr h => ?_)
  · obtain ⟨h, dl, ds, n, many, rfl, _⟩ := h
    rfl
  · obtain ⟨h, dl, ds, n, many, rfl, ⟨h1, h2, hn⟩, pos, k⟩ := h
    refine ⟨_, (pss_cons (ps_set (i := 2) sc_take.nd rfl (.inl rfl) (pe_ix ix_list (pv 0) pe_int (fun _ _ => rfl)))
 (pss_cons (ps_asg (pe_op op_add (pv 2) pe_int) (pg_sub (pv 0) pe_int set_list))
 (pss_cons (ps_set (i := 3) sc_take.nd rfl (.inl rfl) (pe_ix ix_list (pv 0) pe_int (fun _ _ => rfl)))
 (pss_cons (ps_if (pt_cmpR op_ge (pv 2) (pe_callB call_len_seq (by rfl) T.len b_len (pa_cons (pv 3) pa_nil)) (nomark _))
 (pss_one (ps_ret pe_int))
 pss_nil)
 (pss_one (ps_ret (pe_op op_mod (pe_op op_fdiv (pe_callTy call_int1 (by rfl) T.int b_int (pa_cons (pe_ix ix_list (pv 3) (pv 2) (fun _ _ => rfl)) pa_nil)) pe_int) (pv 1)))))))), ?_⟩
    refine ⟨_, rfl, h, _, _, .int n, rfl, rfl, SqL.of h1, atI_nat (j := 1) rfl, ?_⟩
    refine ⟨_, rfl, _, _, rfl, rfl, _, rfl, h, _, 1, 1, rfl, rfl, h1, rfl, ?_⟩
    have e1 : ([V.ref dl, V.int n].set 1 (V.int ((n : Int) + 1))) = [V.ref dl, .int (n + 1 : Nat)] := rfl
    rw [e1]
    have g1 : upd H h (.lst [.ref dl, .int (n + 1 : Nat)]) h = some (.lst [.ref dl, .int (n + 1 : Nat)]) := upd_same
    have g2 : upd H h (.lst [.ref dl, .int (n + 1 : Nat)]) dl = some (.lst (ds.map .int)) := (upd_ne hn.symm).trans h2
    refine ⟨_, rfl, h, _, _, .ref dl, rfl, rfl, SqL.of g1, atI_nat (j := 0) rfl, ?_⟩
    refine ⟨_, rfl, _, rfl, dl, _, rfl, .inl (SqL.of g2), _, _, rfl, rfl, _, rfl, ?_⟩
    by_cases hc : ds.length ≤ n
    · have e2 : decide ((((ds.map V.int).length : Nat) : Int) ≤ (n : Nat)) = true := decide_eq_true (by rw [List.length_map]; omega)
      rw [e2]
      exact iteT (k 0 pos)
    · have e2 : decide ((((ds.map V.int).length : Nat) : Int) ≤ (n : Nat)) = false := decide_eq_false (by rw [List.length_map]; omega)
      rw [e2]
      have lt : n < ds.length := by omega
      refine iteF ⟨_, rfl, _, rfl, dl, _, _, .int ds[n], rfl, rfl, SqL.of g2, atI_nat (by rw [List.getElem?_map, List.getElem?_eq_getElem lt]; rfl), .inl ⟨_, rfl, _, _, rfl, rfl, ⟨by decide, by decide⟩, _, rfl, _, _, rfl, rfl, by show (0 : Int) < (many : Nat); omega, ?_⟩⟩
      have p0 : (0 : Int) ≤ ds[n] / 7 % (many : Nat) := Int.emod_nonneg _ (by omega)
      have p1 : ds[n] / 7 % (many : Nat) < (many : Nat) := Int.emod_lt_of_pos _ (by omega)
      have q := k (ds[n] / 7 % (many : Nat)).toNat (by omega)
      have e : (((ds[n] / 7 % (many : Nat)).toNat : Nat) : Int) = ds[n] / 7 % (many : Nat) := by omega
      rw [e] at q
      exact q
end
end OgW
/-! OgL2: _law_draws. -/
namespace OgW
open PySem PySem.Spec PyProof.Rows L2 OgD Og OgT
section
variable {P : Program} {w : World} {K : PySem.W.Frag} {mg : Str → Option Value} {base : Heap}
def spDraws (K : PySem.W.Frag) : Sp := fun vs H Q _ => ∃ (s : Addr) (xs : List Int) (many : Nat), vs = [.ref s, .int many] ∧ SqL K H s (xs.map .int) ∧ xs.length ≤ sizeLine ∧ many ≤ 100000 ∧ ∀ (H' : Hp) (p : Addr) (ds : List Int), H' p = some (.lst (ds.map .int)) → H p = none → Same H H' → Q (.ref p) H'
theorem sc_draws : FnScope ["_law_script", "_law_many", "_law_rests", "_law_draws_here", "_law_k", "_law_cell", "_law_at", "_law_mixed"] ["_law_script", "_law_many"] (defScope s_law_draws) := ⟨rfl, rfl, rfl, by decide +kernel, rfl, by decide +kernel, by decide +kernel⟩
theorem iteB {b : Bool} {A B : Prop} (h1 : b = true → A) (h2 : b = false → B) : if b = true then A else B := by
  cases b
  · exact h2 rfl
  · exact h1 rfl
/-- one draw mixed, and appended -/
theorem draws_tail {D : Ends} {H : Hp} {dl : Addr} {ds : List Int} {k : Nat} {c : Int} {a0 a1 a2 a6 a7 : Option V} (hd : H dl = some (.lst (ds.map .int))) (ld : ds.length < 1000000) (q : ∀ (z : Int) (y : Option V), D.nx [a0, a1, a2, some (.ref dl), some (.int k), some (.int c), a6, y] (upd H dl (.lst ((ds ++ [z]).map .int)))) :
    (tSeq (tAsg (tOp (rI (fun _ j => 0 < j) fun i j => .int (i % j)) (tCB (fun xs H Q => (∃ i, xs = [.int i] ∧ Q (.int i) H) ∨ ∃ k, xs = [.bl k] ∧ Q (.int (if k = true then 1 else 0)) H) (tCons (tOp (rI0 fun i j => .int (i + j)) (tOp (rI0 fun i j => .int (i + j)) (tOp (rI CMul fun i j => .int (i * j)) (tVar 5) (tC (.int 48271))) (tOp (rI CMul fun i j => .int (i * j)) (tVar 4) (tC (.int 69621)))) (tC (.int 11))) tNil)) (tC (.int 2147483647))) (gName 7))
      (tSeq (tAsg (tOp (rI (fun _ j => 0 < j) fun i j => .int (i % j)) (tCB (fun xs H Q => (∃ i, xs = [.int i] ∧ Q (.int i) H) ∨ ∃ k, xs = [.bl k] ∧ Q (.int (if k = true then 1 else 0)) H) (tCons (tOp (rI0 fun i j => .int (i + j)) (tOp (rI CDiv fun i j => .int (i / j)) (tOp (rI CMul fun i j => .int (i * j)) (tVar 7) (tVar 7)) (tC (.int 4096))) (tVar 7)) tNil)) (tC (.int 2147483629))) (gName 7))
        (tDrop (tBM K "list" rAppend (tVar 3) (tCons (tOp (rI (fun _ j => 0 < j) fun i j => .int (i % j)) (tCB (fun xs H Q => (∃ i, xs = [.int i] ∧ Q (.int i) H) ∨ ∃ k, xs = [.bl k] ∧ Q (.int (if k = true then 1 else 0)) H) (tCons (tOp (rI0 fun i j => .int (i + j)) (tOp (rI CDiv fun i j => .int (i / j)) (tOp (rI CMul fun i j => .int (i * j)) (tVar 7) (tVar 7)) (tC (.int 4096))) (tOp (rI CMul fun i j => .int (i * j)) (tVar 4) (tC (.int 7919)))) tNil)) (tC (.int 2147483629))) tNil))))) D [a0, a1, a2, some (.ref dl), some (.int k), some (.int c), a6, a7] H := by
  have l6 := line6
  have fin : ∀ (z : Int) (y : Option V), D.nx [a0, a1, a2, some (.ref dl), some (.int k), some (.int c), a6, y] (upd H dl (.lst (ds.map .int ++ [.int z]))) := fun z y => by
    have e := q z y
    rw [List.map_append] at e
    exact e
  have b1 : ∀ x : Int, 0 ≤ x % 2147483647 ∧ x % 2147483647 < 2147483647 := fun x => ⟨Int.emod_nonneg _ (by decide), Int.emod_lt_of_pos _ (by decide)⟩
  have b2 : ∀ x : Int, 0 ≤ x % 2147483629 ∧ x % 2147483629 < 2147483629 := fun x => ⟨Int.emod_nonneg _ (by decide), Int.emod_lt_of_pos _ (by decide)⟩
  refine ⟨_, rfl, _, _, rfl, rfl, .inr ⟨by decide, by decide⟩, _, rfl, _, _, rfl, rfl, .inr ⟨by decide, by decide⟩, _, _, rfl, rfl, _, _, rfl, rfl, .inl ⟨_, rfl, _, _, rfl, rfl, (by show (0 : Int) < 2147483647; decide), ?_⟩⟩
  have c1 := b1 (c * 48271 + k * 69621 + 11)
  generalize (c * 48271 + k * 69621 + 11) % 2147483647 = u at c1 ⊢
  refine ⟨_, rfl, _, rfl, _, _, rfl, rfl, .inl ⟨by omega, by omega⟩, _, _, rfl, rfl, ⟨by decide, by decide⟩, _, rfl, _, _, rfl, rfl, .inl ⟨_, rfl, _, _, rfl, rfl, (by show (0 : Int) < 2147483629; decide), ?_⟩⟩
  have c2 := b2 (u * u / 4096 + u)
  generalize (u * u / 4096 + u) % 2147483629 = v at c2 ⊢
  refine ⟨_, rfl, .inl ⟨rfl, _, SqL.of hd⟩, _, rfl, _, rfl, _, _, rfl, rfl, .inl ⟨by omega, by omega⟩, _, _, rfl, rfl, ⟨by decide, by decide⟩, _, rfl, _, _, rfl, rfl, .inr ⟨by decide, by decide⟩, _, _, rfl, rfl, .inl ⟨_, rfl, _, _, rfl, rfl, (by show (0 : Int) < 2147483629; decide), dl, _, _, rfl, rfl, hd, by rw [List.length_map]; omega, ?_⟩⟩
  exact fin _ _
theorem ok_draws {f : Addr} {fd : FuncData} (F : FnS K s_law_draws "_law_draws" "_law_draws" f fd) (T : Txt K mg) : FnOk P w K mg base CX0 1 f fd ["_law_script", "_law_many"] (spDraws K) := by
  refine ok0 F sc_draws (fun vs H Q E h => ?_) (fun cdv A0 outer s0 H vs Q E0 hr h => ?_)
  · obtain ⟨s, xs, many, rfl, _⟩ := h
    rfl
  · obtain ⟨s, xs, many, rfl, hs, lxs, hm, k⟩ := h
    refine ⟨_, (pss_cons (ps_setLc (i := 2) (own := [("_law_cell", 5)]) (g := gName 5) (tt := tYes) rfl sc_draws.nd rfl rfl (sw_true rfl rfl rfl (by decide +kernel)) (pi_list (pv 0)) (blkOk_by (N := ["_law_script", "_law_many", "_law_rests", "_law_draws_here", "_law_k", "_law_cell", "_law_at", "_law_mixed"]) (sc := defScope s_law_draws) (by decide +kernel)) (fun _ _ _ _ _ => pg_name (i := 5) sc_draws.nd rfl (Or.inl rfl)) (fun _ _ _ _ _ => pts_nil) (fun _ _ _ _ _ => by exact (pe_callB call_abs (by rfl) T.abs b_abs (pa_cons (pe_callTy call_int1 (by rfl) T.int b_int (pa_cons (pv 5) pa_nil)) pa_nil))))
 (pss_cons (ps_set (i := 3) sc_draws.nd rfl (.inl rfl) (pe_lst pa_nil))
 (pss_cons (ps_for PassesOwn.never rfl (pi_range1 (by rfl) T.range (pa_cons (pv 1) pa_nil)) (pg_name (i := 4) sc_draws.nd rfl (.inl rfl))
 (pss_cons (ps_set (i := 5) sc_draws.nd rfl (.inl rfl) (pv 4))
 (pss_cons (ps_if (pt_cmpR op_gt (pe_callB call_len_seq (by rfl) T.len b_len (pa_cons (pv 0) pa_nil)) pe_int (nomark _))
 (pss_cons (ps_set (i := 6) sc_draws.nd rfl (.inl rfl) (pe_op op_mod (pv 4) (pe_callB call_len_seq (by rfl) T.len b_len (pa_cons (pv 0) pa_nil))))
 (pss_cons (ps_set (i := 5) sc_draws.nd rfl (.inl rfl) (pe_callTy call_int1 (by rfl) T.int b_int (pa_cons (pe_ix ix_list (pv 0) (pv 6) (fun _ _ => rfl)) pa_nil)))
 (pss_one (ps_if (PW.pt (pw_and (pt_cmpR op_ge (pv 5) (pe_op op_pow pe_int pe_int) (nomark _)) (pw_and1 (pt_cmpR op_gt (pe_ix ix_list (pv 2) (pv 6) (fun _ _ => rfl)) pe_int (nomark _)))))
 (pss_cons (ps_expr (pe_bm PySem.F.plainAttrs_list PySem.F.slot_list_append PySem.F.type_list_append mt_append (pv 3) (pa_cons (pe_op op_mod (pe_callTy call_int1 (by rfl) T.int b_int (pa_cons (pe_ix ix_list (pv 2) (pv 6) (fun _ _ => rfl)) pa_nil)) pe_int) pa_nil)))
 (pss_cons (ps_asg (pe_op op_fdiv (pe_callTy call_int1 (by rfl) T.int b_int (pa_cons (pe_ix ix_list (pv 2) (pv 6) (fun _ _ => rfl)) pa_nil)) pe_int) (pg_sub (pv 2) (pv 6) set_list))
 (pss_one ps_continue)))
 pss_nil))))
 pss_nil)
 (pss_cons (ps_set (i := 7) sc_draws.nd rfl (.inl rfl) (pe_op op_mod (pe_callTy call_int1 (by rfl) T.int b_int (pa_cons (pe_op op_add (pe_op op_add (pe_op op_mul (pv 5) pe_int) (pe_op op_mul (pv 4) pe_int)) pe_int) pa_nil)) pe_int))
 (pss_cons (ps_set (i := 7) sc_draws.nd rfl (.inl rfl) (pe_op op_mod (pe_callTy call_int1 (by rfl) T.int b_int (pa_cons (pe_op op_add (pe_op op_fdiv (pe_op op_mul (pv 7) (pv 7)) pe_int) (pv 7)) pa_nil)) pe_int))
 (pss_one (ps_expr (pe_bm PySem.F.plainAttrs_list PySem.F.slot_list_append PySem.F.type_list_append mt_append (pv 3) (pa_cons (pe_op op_mod (pe_callTy call_int1 (by rfl) T.int b_int (pa_cons (pe_op op_add (pe_op op_fdiv (pe_op op_mul (pv 7) (pv 7)) pe_int) (pe_op op_mul (pv 4) pe_int)) pa_nil)) pe_int) pa_nil)))))))))
 (pss_one (ps_ret (pv 3)))))), ?_⟩
    have l6 := line6
    refine ⟨_, rfl, s, rfl, ⟨_, hs⟩, fun rl hrl => ?_⟩
    have lx : (xs.map V.int).length = xs.length := List.length_map ..
    refine lc_list (K := K) (a := s) (xs := xs.map V.int) (fun i H' => ∃ rs : List Int, H' rl = some (.lst (rs.map .int)) ∧ rs.length = i ∧ Same H H') ⟨[], upd_same, rfl, Same.laid hrl⟩ (fun i H' _ q => by obtain ⟨_, _, _, q⟩ := q; exact Same.seq q hs) ?_ ?_
    · rintro i z H' hz ⟨rs, h1, h2, h3⟩
      have hi : i < xs.length := by rw [← lx]; exact (List.getElem?_eq_some_iff.mp hz).1
      rw [List.getElem?_map, List.getElem?_eq_getElem hi] at hz
      have hz : V.int xs[i] = z := Option.some.inj hz
      subst hz
      refine ⟨rfl, _, rfl, .inl ⟨_, rfl, _, rfl, _, h1, by rw [List.length_map]; omega, rs ++ [if xs[i] < 0 then -xs[i] else xs[i]], ?_, by rw [List.length_append]; show rs.length + 1 = i + 1; omega, fun b o e => (upd_ne (ne_of_none e hrl)).trans (h3 b o e)⟩⟩
      rw [upd_same, List.map_append]
      rfl
    · rintro H1 ⟨rs, h1, h2, h3⟩
      rw [lx] at h2
      refine ⟨Nat.zero_le _, fun dl hdl => ?_⟩
      have nrd : rl ≠ dl := ne_of_none h1 hdl
      have dl0 : H dl = none := Same.free h3 hdl
      have e1 : Same H (upd H1 dl (.lst [])) := h3.trans (Same.laid hdl)
      refine ⟨_, rfl, many, rfl, by omega, by omega, for_range (lo := 0) (n := many) (fun i σ H' => ∃ (rs ds : List Int) (x4 x5 x6 x7 : Option V), σ = [some (.ref s), some (.int many), some (.ref rl), some (.ref dl), x4, x5, x6, x7] ∧ H' rl = some (.lst (rs.map .int)) ∧ rs.length = xs.length ∧ H' dl = some (.lst (ds.map .int)) ∧ ds.length = i ∧ Same H H')
        ⟨rs, [], none, none, none, none, rfl, Same.laid hdl _ _ h1, h2, upd_same, rfl, e1⟩ ?_ ?_⟩
      · rintro i σ H' hi ⟨rs, ds, x4, x5, x6, x7, rfl, g1, g2, g3, g4, g5⟩
        have hs' := Same.seq g5 hs
        rw [Int.zero_add]
        have dn : dl ≠ rl := nrd.symm
        have nx : ∀ (z : Int) (y6 y7 c : Option V) (rs' : List Int) (H2 : Hp), rs'.length = xs.length → H2 rl = some (.lst (rs'.map .int)) → H2 dl = some (.lst ((ds ++ [z]).map .int)) → (∀ b, b ≠ rl → b ≠ dl → H2 b = H' b) →
            ∃ (rs ds : List Int) (x4 x5 x6 x7 : Option V), [some (V.ref s), some (.int many), some (.ref rl), some (.ref dl), some (.int i), c, y6, y7] = [some (V.ref s), some (.int many), some (.ref rl), some (.ref dl), x4, x5, x6, x7] ∧ H2 rl = some (.lst (rs.map .int)) ∧ rs.length = xs.length ∧ H2 dl = some (.lst (ds.map .int)) ∧ ds.length = i + 1 ∧ Same H H2 := fun z y6 y7 c rs' H2 p1 p2 p3 p4 =>
          ⟨rs', ds ++ [z], _, _, _, _, rfl, p2, p1, p3, by rw [List.length_append, g4]; rfl, fun b o e => (p4 b (ne_of_none e hrl) (ne_of_none e dl0)).trans (g5 b o e)⟩
        have ldn : ds.length < 1000000 := by omega
        refine ⟨_, rfl, _, rfl, s, _, rfl, .inl (hs'), _, _, rfl, rfl, _, rfl, ?_⟩
        by_cases hpos : 0 < xs.length
        · rw [decide_eq_true (show (0 : Int) < (((xs.map V.int).length : Nat) : Int) by rw [lx]; omega)]
          refine iteT ?_
          have em : ((i : Int) % (((xs.map V.int).length : Nat) : Int)) = ((i % xs.length : Nat) : Int) := by rw [lx]; rfl
          have hj : i % xs.length < xs.length := Nat.mod_lt _ hpos
          refine ⟨_, rfl, _, rfl, s, _, rfl, .inl (hs'), _, _, rfl, rfl, (by rw [lx]; omega), ?_⟩
          show gName 6 (V.int ((i : Int) % (((xs.map V.int).length : Nat) : Int))) _ _ _
          rw [em]
          generalize i % xs.length = j at hj ⊢
          have ex : (xs.map V.int)[j]? = some (.int xs[j]) := by rw [List.getElem?_map, List.getElem?_eq_getElem hj]; rfl
          have hj2 : j < rs.length := by omega
          have er : (rs.map V.int)[j]? = some (.int rs[j]) := by rw [List.getElem?_map, List.getElem?_eq_getElem hj2]; rfl
          refine ⟨_, rfl, _, rfl, s, _, _, _, rfl, rfl, hs', atI_nat ex, .inl ⟨_, rfl, ?_⟩⟩
          refine ⟨_, rfl, _, _, rfl, rfl, ⟨by decide, by decide, by decide⟩, _, _, rfl, rfl, _, rfl, ?_⟩
          have tail : ∀ D : Ends, (∀ (z : Int) (y : Option V), D.nx [some (V.ref s), some (.int many), some (.ref rl), some (.ref dl), some (.int i), some (.int xs[j]), some (.int j), y] (upd H' dl (.lst ((ds ++ [z]).map .int)))) → _ := fun D q => draws_tail (K := K) (D := D) (a0 := some (V.ref s)) (a1 := some (.int many)) (a2 := some (.ref rl)) (a6 := some (.int j)) (a7 := x7) (k := i) (c := xs[j]) g3 ldn q
          have fin : ∀ (z : Int) (y : Option V), _ := fun z y => nx z (some (.int j)) y (some (.int xs[j])) rs (upd H' dl (.lst ((ds ++ [z]).map .int))) g2 ((upd_ne nrd).trans g1) upd_same fun b _ n2 => upd_ne n2
          refine iteB (fun _ => ?_) fun _ => ?_
          · refine ⟨_, rfl, _, rfl, rl, _, _, _, rfl, rfl, SqL.of g1, atI_nat er, _, _, rfl, rfl, _, rfl, ?_⟩
            refine iteB (fun _ => ?_) fun _ => ?_
            · refine ⟨_, rfl, .inl ⟨rfl, _, SqL.of g3⟩, _, rfl, _, rfl, rl, _, _, _, rfl, rfl, SqL.of g1, atI_nat er, .inl ⟨_, rfl, _, _, rfl, rfl, (by show (0 : Int) < 1000003; decide), dl, _, _, rfl, rfl, g3, by rw [List.length_map]; omega, ?_⟩⟩
              have g1' : upd H' dl (.lst (ds.map V.int ++ [V.int (rs[j] % 1000003)])) rl = some (.lst (rs.map .int)) := (upd_ne nrd).trans g1
              refine ⟨_, rfl, _, rfl, rl, _, _, _, rfl, rfl, SqL.of g1', atI_nat er, .inl ⟨_, rfl, _, _, rfl, rfl, ⟨by decide, by decide⟩, _, rfl, _, rfl, rl, _, _, j, rfl, rfl, g1', ?_, ?_⟩⟩
              · unfold ixN
                rw [if_pos (Int.natCast_nonneg j), if_pos (by rw [List.length_map]; omega)]
                rfl
              · have e2 : upd (upd H' dl (.lst (ds.map V.int ++ [V.int (rs[j] % 1000003)]))) rl (.lst ((rs.map V.int).set j (V.int (rs[j] / 1000003)))) rl = some (.lst ((rs.set j (rs[j] / 1000003)).map V.int)) := by
                  rw [upd_same, List.map_set]
                exact nx (rs[j] % 1000003) _ _ _ (rs.set j (rs[j] / 1000003)) _ (by rw [List.length_set]; exact g2) e2 (by rw [upd_ne dn, upd_same, List.map_append]; rfl) fun b n1 n2 => (upd_ne n1).trans (upd_ne n2)
            · exact tail _ fin
          · exact tail _ fin
        · rw [decide_eq_false (show ¬ (0 : Int) < (((xs.map V.int).length : Nat) : Int) by rw [lx]; omega)]
          refine iteF (draws_tail (K := K) (k := i) (c := i) g3 ldn fun z y => ?_)
          exact nx z _ _ _ rs _ g2 ((upd_ne nrd).trans g1) upd_same fun b _ n2 => upd_ne n2
      · rintro σ H' ⟨rs, ds, x4, x5, x6, x7, rfl, g1, g2, g3, g4, g5⟩
        exact ⟨_, rfl, k H' dl ds g3 dl0 g5⟩
end
end OgW
/-! OgL3: _law_value. -/
namespace OgW
open PySem PySem.Spec PyProof.Rows L2 OgD Og OgT
def menu : List Str := ["yes", "a", "quote", "f0", "b2", "done", "spin", "x"]
/-- what _law_value makes -/
inductive VD : Nat → Val → Prop
  | w (d : Nat) (o : Str) (h : o ∈ menu) : VD d (.w o)
  | l (d : Nat) (l : List Val) (h3 : l.length ≤ 3) (h : ∀ x ∈ l, VD d x) : VD (d + 1) (listV l)
theorem listV_dep {d : Nat} : ∀ {l : List Val}, (∀ x ∈ l, x.dep ≤ d) → (listV l).dep ≤ d + 1
  | [], _ => by show 1 ≤ d + 1; omega
  | a :: l, h => by
    have h1 := h a List.mem_cons_self
    have h2 := listV_dep (l := l) fun x m => h x (List.mem_cons_of_mem _ m)
    show max (a.dep + 1) (listV l).dep ≤ d + 1
    exact Nat.max_le.mpr ⟨by omega, h2⟩
theorem VD.dep {d : Nat} {v : Val} (h : VD d v) : v.dep ≤ d := by
  induction h with
  | w d o m => exact Nat.zero_le _
  | l d l h3 h ih => exact listV_dep ih
theorem listV_size {c : Nat} : ∀ {l : List Val}, (∀ x ∈ l, x.size ≤ c) → (listV l).size ≤ l.length * (c + 1) + 1
  | [], _ => by show 1 ≤ 0 * (c + 1) + 1; omega
  | a :: l, h => by
    have h1 := h a List.mem_cons_self
    have h2 := listV_size (l := l) fun x m => h x (List.mem_cons_of_mem _ m)
    show a.size + (listV l).size + 1 ≤ (l.length + 1) * (c + 1) + 1
    rw [Nat.succ_mul]
    omega
def szD : Nat → Nat
  | 0 => 1
  | d + 1 => 3 * (szD d + 1) + 1
theorem VD.size {d : Nat} {v : Val} (h : VD d v) : v.size ≤ szD d := by
  induction h with
  | w d o m =>
    cases d with
    | zero => exact Nat.le_refl _
    | succ d =>
      show 1 ≤ 3 * (szD d + 1) + 1
      omega
  | l d l h3 h ih =>
    have h1 := listV_size ih
    have h2 := Nat.mul_le_mul_right (szD d + 1) h3
    show _ ≤ 3 * (szD d + 1) + 1
    omega
theorem VD.sm {d : Nat} {v : Val} (h : VD d v) (hd : d ≤ 4) : Sm v := by
  refine ⟨Nat.le_trans h.dep hd, ?_⟩
  cases h with
  | w _ o _ => exact .inl ⟨o, rfl⟩
  | l d l h3 _ => exact .inr ⟨l, rfl, h3⟩
/-- all but one list stays -/
def KpH (h : Addr) (H H' : Hp) : Prop := ∀ b o, H b = some o → b ≠ h → H' b = some o
theorem KpH.refl (h : Addr) (H : Hp) : KpH h H H := fun _ _ e _ => e
theorem KpH.trans {h : Addr} {H H1 H2 : Hp} (a : KpH h H H1) (b : KpH h H1 H2) : KpH h H H2 := fun c o e n => b c o (a c o e n) n
theorem KpH.same {h : Addr} {H H1 : Hp} (a : Same H H1) : KpH h H H1 := fun c o e _ => a c o e
theorem KpH.upd {h : Addr} {H : Hp} {o : HO} : KpH h H (upd H h o) := fun _ _ e n => (upd_ne n).trans e
theorem KpH.kt {h : Addr} {H H1 : Hp} {xs : List V} (a : KpH h H H1) (e : H h = some (.lst xs)) : KT0 H H1 := fun b ys q => a b _ q (ne_of q e (by intro z; cases z))
theorem HandAt.hl {H : Hp} {h dl : Addr} {ds : List Int} {n : Nat} (Z : HandAt H h dl ds n) : H h = some (.lst [.ref dl, .int n]) := Z.1
theorem HandAt.same {H H' : Hp} {h dl : Addr} {ds : List Int} {n : Nat} (Z : HandAt H h dl ds n) (s : Same H H') : HandAt H' h dl ds n := ⟨s _ _ Z.1, s _ _ Z.2.1, Z.2.2⟩
theorem HandAt.next {H : Hp} {h dl : Addr} {ds : List Int} {n m : Nat} (Z : HandAt H h dl ds n) : HandAt (upd H h (.lst [.ref dl, .int m])) h dl ds m := ⟨upd_same, (upd_ne Z.2.2.symm).trans Z.2.1, Z.2.2⟩
section
variable {P : Program} {w : World} {K : PySem.W.Frag} {mg : Str → Option Value} {base : Heap}
def spVal (K : PySem.W.Frag) (d : Nat) : Sp := fun vs H Q _ => ∃ (h dl : Addr) (ds : List Int) (n : Nat), vs = [.ref h, .int d] ∧ HandAt H h dl ds n ∧
  ∀ (H' : Hp) (v : Val) (x : V) (n' : Nat), VD d v → RepV K H' v x → HandAt H' h dl ds n' → KpH h H H' → Q x H'
theorem sc_value : FnScope ["_law_hand", "_law_depth", "_law_k"] ["_law_hand", "_law_depth"] (defScope s_law_value) := ⟨rfl, rfl, rfl, by decide +kernel, rfl, by decide +kernel, by decide +kernel⟩
theorem menu_get {r : Nat} (h : r < 8) : ∃ o, o ∈ menu ∧ (menu.map V.str)[r]? = some (.str o) := by
  have l : r < menu.length := h
  exact ⟨menu[r], List.getElem_mem l, by rw [List.getElem?_map, List.getElem?_eq_getElem l]; rfl⟩
theorem snocP {α β : Type} {R : α → β → Prop} {l : List α} {r : List β} {a : α} {b : β} (h : Paired R l r) (q : R a b) : Paired R (l ++ [a]) (r ++ [b]) := by
  induction h with
  | nil => exact .cons q .nil
  | cons x _ ih => exact .cons x ih
theorem ok_value {f : Addr} {fd : FuncData} (F : FnS K s_law_value "_law_value" "_law_value" f fd) (T : Txt K mg) (gT : Glob P w K mg base "_law_take" 1 ["_law_hand", "_law_many"] spTake) (mV : mg "_law_value" = some (.ref f)) (kV : PySem.W.keepIn K (.ref f) = true) (bV : Binds K fd ["_law_hand", "_law_depth"] []) :
    ∀ d : Nat, FnOk P w K mg base CX0 (d + 2) f fd ["_law_hand", "_law_depth"] (spVal K d) := by
  obtain ⟨fT, fdT, GT, mT, kT, bT⟩ := gT
  intro d
  induction d with
  | zero =>
    refine ok0 F sc_value (fun vs H Q E h => ?_) (fun cdv A0 outer s0 H vs Q E0 hr h => ?_)
    · obtain ⟨h, dl, ds, n, rfl, _⟩ := h
      rfl
    · obtain ⟨h, dl, ds, n, rfl, Z, k⟩ := h
      refine ⟨_, (pss_cons (ps_if (PW.pt (pw_or (pt_cmpR op_eq (pv 1) pe_int (nomark _)) (pw_or1 pt_no)))
 (pss_one (ps_ret (pe_ix ix_list (pe_lst (pa_cons pe_str (pa_cons pe_str (pa_cons pe_str (pa_cons pe_str (pa_cons pe_str (pa_cons pe_str (pa_cons pe_str (pa_cons pe_str pa_nil))))))))) (pe_call GT hr (by rfl) mT kT bT .nil pass0 (pa_cons (pv 0) (pa_cons pe_int pa_nil))) (fun _ _ => rfl))))
 pss_nil)
 (pss_one (ps_ret pe_no))), ?_⟩
      have l6 := line6
      refine ⟨_, rfl, rfl, _, rfl, ?_⟩
      refine iteT (iteT ⟨(by show 8 ≤ sizeLine; omega), fun l hl => ?_⟩)
      have Z1 := Z.same (Same.laid (o := HO.lst (menu.map V.str)) hl)
      have nl : l ≠ h := fun e => by rw [e, Z.1] at hl; cases hl
      refine ⟨_, rfl, h, dl, ds, n, 8, rfl, Z1, by decide, fun r hr => ?_⟩
      obtain ⟨o, ho, hg⟩ := menu_get hr
      exact ⟨l, _, _, .str o, rfl, rfl, SqL.of ((upd_ne nl).trans upd_same), atI_nat hg, k _ (.w o) (.str o) (n + 1) (.w _ o ho) rfl Z1.next ((KpH.same (Same.laid hl)).trans KpH.upd)⟩
  | succ d ih =>
    refine ok0 F sc_value (fun vs H Q E h => ?_) (fun cdv A0 outer s0 H vs Q E0 hr h => ?_)
    · obtain ⟨h, dl, ds, n, rfl, _⟩ := h
      rfl
    · obtain ⟨h, dl, ds, n, rfl, Z, k⟩ := h
      have hk : 1 ≤ d + 2 := by omega
      refine ⟨_, (pss_cons (ps_if (PW.pt (pw_or (pt_cmpR op_eq (pv 1) pe_int (nomark _)) (pw_or1 (pt_cmpR op_eq (pe_call GT (hr.mono hk) (by rfl) mT kT bT .nil pass0 (pa_cons (pv 0) (pa_cons pe_int pa_nil))) pe_int (nomark _)))))
 (pss_one (ps_ret (pe_ix ix_list (pe_lst (pa_cons pe_str (pa_cons pe_str (pa_cons pe_str (pa_cons pe_str (pa_cons pe_str (pa_cons pe_str (pa_cons pe_str (pa_cons pe_str pa_nil))))))))) (pe_call GT (hr.mono hk) (by rfl) mT kT bT .nil pass0 (pa_cons (pv 0) (pa_cons pe_int pa_nil))) (fun _ _ => rfl))))
 pss_nil)
 (pss_one (ps_ret (pe_callTy call_tuple_of (by rfl) T.tup b_tuple (pa_cons (pe_lc (own := [("_law_k", 2)]) (g := gName 2) (tt := tYes) rfl sc_value.nd (pi_range1 (by rfl) T.range (pa_cons (pe_call GT (hr.mono hk) (by rfl) mT kT bT .nil pass0 (pa_cons (pv 0) (pa_cons pe_int pa_nil))) pa_nil)) (blkOk_by (N := ["_law_hand", "_law_depth", "_law_k"]) (sc := defScope s_law_value) (by decide +kernel)) (fun _ _ _ _ _ => pg_name (i := 2) sc_value.nd rfl (Or.inl rfl)) (fun _ _ _ _ _ => pts_nil) (fun _ _ _ _ _ => by exact (pe_call ih hr (by rfl) mV kV bV .nil pass0 (pa_cons (pv 0) (pa_cons (pe_op op_sub (pv 1) pe_int) pa_nil))))) pa_nil))))), ?_⟩
      have l6 := line6
      refine ⟨_, rfl, rfl, _, rfl, ?_⟩
      rw [decide_eq_false (show ¬ V.int ((d + 1 : Nat) : Int) = V.int 0 from fun z => by injection z with z; omega)]
      refine iteF ⟨_, rfl, h, dl, ds, n, 3, rfl, Z, by decide, fun r0 _ => ⟨rfl, _, rfl, ?_⟩⟩
      have Z1 : HandAt _ h dl ds (n + 1) := Z.next
      have K1 : KpH h H _ := KpH.upd (o := .lst [.ref dl, .int (n + 1 : Nat)])
      by_cases h0 : V.int (r0 : Nat) = V.int 0
      · rw [decide_eq_true h0]
        refine iteT ⟨(by show 8 ≤ sizeLine; omega), fun l hl => ?_⟩
        have Z2 := Z1.same (Same.laid (o := HO.lst (menu.map V.str)) hl)
        have nl : l ≠ h := fun e => by rw [e, Z1.1] at hl; cases hl
        refine ⟨_, rfl, h, dl, ds, n + 1, 8, rfl, Z2, by decide, fun r hr => ?_⟩
        obtain ⟨o, ho, hg⟩ := menu_get hr
        exact ⟨l, _, _, .str o, rfl, rfl, SqL.of ((upd_ne nl).trans upd_same), atI_nat hg, k _ (.w o) (.str o) (n + 2) (.w _ o ho) rfl Z2.next (K1.trans ((KpH.same (Same.laid hl)).trans KpH.upd))⟩
      · rw [decide_eq_false h0]
        refine iteF ⟨_, rfl, h, dl, ds, n + 1, 4, rfl, Z1, by decide, fun r hr4 => ?_⟩
        have Z2 : HandAt _ h dl ds (n + 2) := Z1.next
        have K2 := K1.trans (KpH.upd (o := .lst [.ref dl, .int (n + 2 : Nat)]))
        refine ⟨(r : Int), rfl, by omega, by omega, fun D hD => ?_⟩
        have nD : D ≠ h := fun e => by rw [e, Z2.1] at hD; cases hD
        refine lc_range (lo := 0) (n := r) (fun i H' => ∃ (vs : List Val) (xs : List V) (n' : Nat), vs.length = i ∧ (∀ v ∈ vs, VD d v) ∧ Paired (fun v x => RepV K H' v x) vs xs ∧ H' D = some (.lst xs) ∧ HandAt H' h dl ds n' ∧ ∀ b o, H b = some o → b ≠ h → b ≠ D → H' b = some o)
          ⟨[], [], n + 2, rfl, (fun x (m : x ∈ ([] : List Val)) => absurd m List.not_mem_nil), .nil, upd_same, Z2.same (Same.laid hD), fun b o e n1 n2 => (upd_ne n2).trans (K2 b o e n1)⟩ ?_ ?_
        · rintro i H' hi ⟨vs, xs, n', g1, g2, g3, g4, g5, g6⟩
          refine ⟨rfl, _, rfl, _, rfl, _, _, rfl, rfl, h, dl, ds, n', ?_, g5, fun H2 v x n2 e1 e2 e3 e4 => ?_⟩
          · show [V.ref h, V.int (((d + 1 : Nat) : Int) - 1)] = _
            rw [show ((d + 1 : Nat) : Int) - 1 = (d : Nat) by omega]
          · have kt := e4.kt g5.1
            have gD := e4 _ _ g4 nD
            have lx : xs.length = vs.length := (Paired.length g3).symm
            have kt2 : KT0 H2 (upd H2 D (.lst (xs ++ [x]))) := kt_lst gD
            refine ⟨xs, gD, by omega, vs ++ [v], xs ++ [x], n2, by rw [List.length_append]; show vs.length + 1 = i + 1; omega, fun y m => ?_, snocP (Paired.mapP g3 fun _ _ z => (z.keeps kt).keeps kt2) (e2.keeps kt2), upd_same, ⟨(upd_ne nD.symm).trans e3.1, (upd_ne (fun e => ?_)).trans e3.2.1, e3.2.2⟩, fun b o e m1 m2 => (upd_ne m2).trans (e4 _ _ (g6 b o e m1 m2) m1)⟩
            · rcases List.mem_append.mp m with m | m
              · exact g2 y m
              · rw [List.mem_singleton.mp m]
                exact e1
            · have := e3.2.1
              have z0 : H D = none := Same.free (Same.refl H) (by
                cases q : H D with
                | none => rfl
                | some o => exact absurd (K2 D o q nD) (by rw [hD]; intro z; cases z))
              rw [← e, Z.2.1] at z0
              cases z0
        · rintro H' ⟨vs, xs, n', g1, g2, g3, g4, g5, g6⟩
          refine ⟨D, _, rfl, .inl ⟨SqL.of g4, fun l hl => ?_⟩⟩
          have sl : Same H' (upd H' l (.tup xs)) := Same.laid hl
          have z0 : H D = none := by
            cases q : H D with
            | none => rfl
            | some o => exact absurd (K2 D o q nD) (by rw [hD]; intro z; cases z)
          refine k _ (listV vs) (.ref l) n' (.l d vs (by omega) g2) (RepV.of (.inl upd_same) (RepL.of (Paired.mapP g3 fun _ _ z => z.keeps fun a ys e => sl a _ e))) (g5.same sl) fun b o e n1 => sl _ _ (g6 b o e n1 fun e2 => by rw [e2, z0] at e; cases e)
end
end OgW
/-! OgL4: _law_do. -/
namespace OgW
open PySem PySem.Spec PyProof.Rows L2 OgD Og OgT
/-! ### values as data, for == -/
mutual
def toD : Val → PyData
  | .w x => .str x
  | .nil => .tuple []
  | .cons h t => .tuple (toD h :: toDs t)
def toDs : Val → List PyData
  | .w _ => []
  | .nil => []
  | .cons h t => toD h :: toDs t
end
mutual
theorem RepV.dp {K : PySem.W.Frag} {H : Hp} : ∀ {v : Val} {x : V}, RepV K H v x → Dp K H x (toD v)
  | .w z, x, h => by
    have h : x = .str z := h
    subst h
    exact .str z
  | .nil, x, h => by
    obtain ⟨a, rfl, q⟩ := h
    exact .tup q.seq .nil
  | .cons a t, x, h => by
    obtain ⟨p, y, ys, rfl, q, r, l⟩ := h
    exact .tup q.seq (.cons (RepV.dp r) (RepL.dp l))
theorem RepL.dp {K : PySem.W.Frag} {H : Hp} : ∀ {v : Val} {xs : List V}, RepL K H v xs → DpAll K H xs (toDs v)
  | .w z, x, h => h.elim
  | .nil, x, h => by
    have h : x = [] := h
    subst h
    exact .nil
  | .cons a t, x, h => by
    obtain ⟨y, ys, rfl, r, l⟩ := h
    exact .cons (RepV.dp r) (RepL.dp l)
end
mutual
theorem toD_lay {N : Nat} : ∀ {v : Val}, good N v → (toD v).canLay0 = true
  | .w x, h => by
    show (PyData.str x).canLay0 = true
    unfold PyData.canLay0
    exact h
  | .nil, _ => rfl
  | .cons a t, h => by
    show (PyData.tuple (toD a :: toDs t)).canLay0 = true
    unfold PyData.canLay0 PyData.canLayAll0
    rw [toD_lay h.1, toDs_lay h.2.1]
    rfl
theorem toDs_lay {N : Nat} : ∀ {v : Val}, good N v → PyData.canLayAll0 (toDs v) = true
  | .w x, h => rfl
  | .nil, _ => rfl
  | .cons a t, h => by
    show PyData.canLayAll0 (toD a :: toDs t) = true
    unfold PyData.canLayAll0
    rw [toD_lay h.1, toDs_lay h.2.1]
    rfl
end
mutual
theorem toD_depth : ∀ {v : Val}, (toD v).depth ≤ v.dep + 1
  | .w x => by
    show (PyData.str x).depth ≤ _
    unfold PyData.depth
    omega
  | .nil => by
    show (PyData.tuple []).depth ≤ _
    unfold PyData.depth PyData.depthAll
    omega
  | .cons a t => by
    show (PyData.tuple (toD a :: toDs t)).depth ≤ max (a.dep + 1) t.dep + 1
    unfold PyData.depth PyData.depthAll
    have h1 := toD_depth (v := a)
    have h2 := toDs_depth (v := t)
    omega
theorem toDs_depth : ∀ {v : Val}, PyData.depthAll (toDs v) ≤ v.dep
  | .w x => by
    show PyData.depthAll [] ≤ _
    unfold PyData.depthAll
    omega
  | .nil => by
    show PyData.depthAll [] ≤ _
    unfold PyData.depthAll
    omega
  | .cons a t => by
    show PyData.depthAll (toD a :: toDs t) ≤ max (a.dep + 1) t.dep
    unfold PyData.depthAll
    have h1 := toD_depth (v := a)
    have h2 := toDs_depth (v := t)
    omega
end
theorem toD_shaped {N : Nat} {v : Val} (g : good N v) (h : v.dep ≤ 16) : SeqAt.shaped (toD v) = true := by
  have h1 := toD_depth (v := v)
  unfold SeqAt.shaped
  rw [toD_lay g, decide_eq_true (show (toD v).depth ≤ 64 by omega)]
  rfl
mutual
theorem toD_eqv : ∀ {v u : Val}, v.ok = true → u.ok = true → PyData.eqv (toD v) (toD u) = decide (v = u)
  | .w x, .w y, _, _ => by
    show PyData.eqv (.str x) (.str y) = _
    unfold PyData.eqv
    by_cases e : x = y
    · subst e
      simp
    · have e2 : ¬ Val.w x = Val.w y := fun z => e (by injection z)
      rw [decide_eq_false e2]
      simp [e]
  | .w x, .nil, _, _ => by
    show PyData.eqv (.str x) (.tuple []) = _
    unfold PyData.eqv
    rfl
  | .w x, .cons b s, _, _ => by
    show PyData.eqv (.str x) (.tuple (toD b :: toDs s)) = _
    unfold PyData.eqv
    rfl
  | .nil, .w y, _, _ => by
    show PyData.eqv (.tuple []) (.str y) = _
    unfold PyData.eqv
    rfl
  | .nil, .nil, _, _ => by
    show PyData.eqv (.tuple []) (.tuple []) = _
    unfold PyData.eqv PyData.eqvAll
    rfl
  | .nil, .cons b s, _, _ => by
    show PyData.eqv (.tuple []) (.tuple (toD b :: toDs s)) = _
    unfold PyData.eqv PyData.eqvAll
    rfl
  | .cons a t, .w y, _, _ => by
    show PyData.eqv (.tuple (toD a :: toDs t)) (.str y) = _
    unfold PyData.eqv
    rfl
  | .cons a t, .nil, _, _ => by
    show PyData.eqv (.tuple (toD a :: toDs t)) (.tuple []) = _
    unfold PyData.eqv PyData.eqvAll
    rfl
  | .cons a t, .cons b s, h1, h2 => by
    have h1 : (a.ok && (!t.isW && t.ok)) = true := h1
    have h2 : (b.ok && (!s.isW && s.ok)) = true := h2
    simp only [Bool.and_eq_true, Bool.not_eq_true'] at h1 h2
    show PyData.eqv (.tuple (toD a :: toDs t)) (.tuple (toD b :: toDs s)) = _
    unfold PyData.eqv PyData.eqvAll
    rw [toD_eqv h1.1 h2.1, toDs_eqv h1.2.2 h2.2.2 h1.2.1 h2.2.1]
    by_cases e1 : a = b <;> by_cases e2 : t = s <;> simp [e1, e2]
theorem toDs_eqv : ∀ {v u : Val}, v.ok = true → u.ok = true → v.isW = false → u.isW = false → PyData.eqvAll (toDs v) (toDs u) = decide (v = u)
  | .w x, _, _, _, h, _ => by cases h
  | .nil, .w y, _, _, _, h => by cases h
  | .cons _ _, .w y, _, _, _, h => by cases h
  | .nil, .nil, _, _, _, _ => by
    show PyData.eqvAll [] [] = _
    unfold PyData.eqvAll
    rfl
  | .nil, .cons b s, _, _, _, _ => by
    show PyData.eqvAll [] (toD b :: toDs s) = _
    unfold PyData.eqvAll
    rfl
  | .cons a t, .nil, _, _, _, _ => by
    show PyData.eqvAll (toD a :: toDs t) [] = _
    unfold PyData.eqvAll
    rfl
  | .cons a t, .cons b s, h1, h2, _, _ => by
    have h1 : (a.ok && (!t.isW && t.ok)) = true := h1
    have h2 : (b.ok && (!s.isW && s.ok)) = true := h2
    simp only [Bool.and_eq_true, Bool.not_eq_true'] at h1 h2
    show PyData.eqvAll (toD a :: toDs t) (toD b :: toDs s) = _
    unfold PyData.eqvAll
    rw [toD_eqv h1.1 h2.1, toDs_eqv h1.2.2 h2.2.2 h1.2.1 h2.2.1]
    by_cases e1 : a = b <;> by_cases e2 : t = s <;> simp [e1, e2]
end
theorem KpH.kq {h : Addr} {H H1 : Hp} {xs : List V} (a : KpH h H H1) (e : H h = some (.lst xs)) : Kq H H1 := ⟨a.kt e, fun b ys q => a b _ q (ne_of q e (by intro z; cases z))⟩
theorem RepL.len {K : PySem.W.Frag} {H : Hp} {v : Val} {xs : List V} (h : RepL K H v xs) : xs.length = v.items.length := (Paired.length (RepL.items h)).symm
theorem RepL.tail {K : PySem.W.Frag} {H : Hp} {h t : Val} {x : V} {xs : List V} (r : RepL K H (.cons h t) (x :: xs)) : RepL K H t xs := by
  obtain ⟨y, ys, e, _, l⟩ := r
  injection e with _ e
  subst e
  exact l
theorem WT.keeps {K : PySem.W.Frag} {H H' : Hp} {x : V} {b : Bool} (t : KT0 H H') (h : WT K H x b) : WT K H' x b := by
  rcases h with h | ⟨a, xs, e, q, z⟩
  · exact .inl h
  · exact .inr ⟨a, xs, e, q.keeps t, z⟩
theorem RepV.nil {K : PySem.W.Frag} {H : Hp} {a : Addr} (h : H a = some (.tup [])) : RepV K H .nil (.ref a) := ⟨a, rfl, .inl h⟩
theorem RepV.ofB {K : PySem.W.Frag} {H : Hp} {a : Addr} (h : H a = some (.tup [])) (b : Bool) : RepV K H (ofB b) (if b = true then .str "yes" else .ref a) := by
  cases b
  · exact RepV.nil h
  · rfl
section
variable {P : Program} {w : World} {K : PySem.W.Frag} {mg : Str → Option Value} {base : Heap}
def spLDo (K : PySem.W.Frag) : Sp := fun vs H Q _ => ∃ (k : Str) (fl : Addr) (F F' : List Val) (N : Nat) (ys : List V) (v : Val), vs = [.str k, .ref fl] ∧ H fl = some (.lst ys.reverse) ∧ Paired (fun v x => RepV K H v x) F ys ∧ opDo k F = some (v :: F') ∧ (∀ x ∈ F, good N x) ∧ N ≤ 900000 ∧
  ∀ (H' : Hp) (x : V) (ys' : List V), H' fl = some (.lst ys'.reverse) → Paired (fun v x => RepV K H' v x) F' ys' → RepV K H' v x → KpH fl H H' → Q x H'
theorem sc_ldo : FnScope ["_law_word", "_law_found", "_law_last", "_law_first"] ["_law_word", "_law_found"] (defScope s_law_do) := ⟨rfl, rfl, rfl, by decide +kernel, rfl, by decide +kernel, by decide +kernel⟩
theorem ok_ldo {f : Addr} {fd : FuncData} (F : FnS K s_law_do "_law_do" "_law_do" f fd) (T : Txt K mg) : FnOk P w K mg base CX0 1 f fd ["_law_word", "_law_found"] (spLDo K) := by
  refine ok0 F sc_ldo (fun vs H Q E h => ?_) (fun cdv A0 outer s0 H vs Q E0 hr h => ?_)
  · obtain ⟨k, fl, Fd, F', N, ys, v, rfl, _⟩ := h
    rfl
  · obtain ⟨k, fl, Fd, F', N, ys, v, rfl, hfl, pf, op, gd, hN, k'⟩ := h
    refine ⟨_, (pss_cons (ps_set (i := 2) sc_ldo.nd rfl (.inl rfl) (pe_bm0 PySem.F.plainAttrs_list PySem.F.slot_list_pop PySem.F.type_list_pop mt_pop (pv 1)))
 (pss_cons (ps_if (pt_cmpR op_eq (pv 0) pe_str (nomark _))
 (pss_one (ps_ret (pe_ix ix_list (pe_lst (pa_cons pe_str (pa_cons (pe_tup pa_nil) pa_nil))) (pe_callTy call_int1 (by rfl) T.int b_int (pa_cons (pe_callB call_isTup (by rfl) T.isi b_isi (pa_cons (pv 2) (pa_cons (pe_bltn (v := .ty "tuple") (by rfl) T.tup b_tuple rfl) pa_nil))) pa_nil)) (fun _ _ => rfl))))
 pss_nil)
 (pss_cons (ps_if (pt_cmpR op_eq (pv 0) pe_str (nomark _))
 (pss_cons (ps_if (PW.pt (pw_and (pt_val (pe_callB call_isTup (by rfl) T.isi b_isi (pa_cons (pv 2) (pa_cons (pe_bltn (v := .ty "tuple") (by rfl) T.tup b_tuple rfl) pa_nil)))) (pw_and1 (pt_cmpR op_gt (pe_callB call_len_seq (by rfl) T.len b_len (pa_cons (pv 2) pa_nil)) pe_int (nomark _)))))
 (pss_one (ps_ret (pe_ix ix_tup (pv 2) pe_int (fun _ _ => rfl))))
 pss_nil)
 (pss_one (ps_ret (pe_tup pa_nil))))
 pss_nil)
 (pss_cons (ps_if (pt_cmpR op_eq (pv 0) pe_str (nomark _))
 (pss_cons (ps_if (pt_val (pe_callB call_isTup (by rfl) T.isi b_isi (pa_cons (pv 2) (pa_cons (pe_bltn (v := .ty "tuple") (by rfl) T.tup b_tuple rfl) pa_nil))))
 (pss_one (ps_ret (pe_slice sl_tupA (pv 2) (po_some pe_int) po_none)))
 pss_nil)
 (pss_one (ps_ret (pe_tup pa_nil))))
 pss_nil)
 (pss_cons (ps_set (i := 3) sc_ldo.nd rfl (.inl rfl) (pe_bm0 PySem.F.plainAttrs_list PySem.F.slot_list_pop PySem.F.type_list_pop mt_pop (pv 1)))
 (pss_cons (ps_if (pt_cmpR op_eq (pv 0) pe_str (nomark _))
 (pss_one (ps_ret (pe_ix ix_list (pe_lst (pa_cons (pe_tup pa_nil) (pa_cons pe_str pa_nil))) (pe_callTy call_int1 (by rfl) T.int b_int (pa_cons (pe_cmpR (op_eqD hr.units) (pv 3) (pv 2) (nomark _)) pa_nil)) (fun _ _ => rfl))))
 pss_nil)
 (pss_cons (ps_if (pt_val (pe_callB call_isTup (by rfl) T.isi b_isi (pa_cons (pv 2) (pa_cons (pe_bltn (v := .ty "tuple") (by rfl) T.tup b_tuple rfl) pa_nil))))
 (pss_one (ps_ret (pe_op op_catT (pe_tup (pa_cons (pv 3) pa_nil)) (pv 2))))
 pss_nil)
 (pss_one (ps_ret (pe_tup (pa_cons (pv 3) pa_nil))))))))))), ?_⟩
    have l6 := line6
    cases pf with
    | nil =>
      rw [opDo_nil] at op
      cases op
    | @cons b y F1 ys1 rb pr =>
      have kt1 : KT0 H (upd H fl (.lst ys1.reverse)) := kt_lst hfl
      have k1 : KpH fl H (upd H fl (.lst ys1.reverse)) := KpH.upd
      have rb1 := rb.keeps kt1
      have pr1 := Paired.mapP pr fun _ _ z => z.keeps kt1
      have gb := gd b List.mem_cons_self
      have wb := rb1.wt
      refine ⟨_, rfl, .inl ⟨rfl, _, SqL.of hfl⟩, fl, _, _, rfl, rfl, hfl, rev_pop, ?_⟩
      rw [rev_drop]
      refine ⟨_, rfl, rfl, _, rfl, ?_⟩
      have fin1 : ∀ (H2 : Hp) (x : V), Same (upd H fl (.lst ys1.reverse)) H2 → F' = F1 → RepV K H2 v x → Q x H2 := fun H2 x s e r => by
        subst e
        exact k' H2 x ys1 (s _ _ upd_same) (Paired.mapP pr1 fun _ _ z => z.keeps (fun a xs q => s a _ q)) r (k1.trans (KpH.same s))
      by_cases h1 : k = "word"
      · subst h1
        rw [dec_strT]
        have op : some (ofB b.isW :: F1) = some (v :: F') := op
        injection op with op
        injection op with o1 o2
        refine iteT ⟨Nat.zero_le _, fun p hp => ⟨(by show 2 ≤ sizeLine; omega), fun l hl => ?_⟩⟩
        have s1 := Same.laid (o := HO.tup []) hp
        have s2 := s1.trans (Same.laid (o := HO.lst [.str "yes", .ref p]) hl)
        have kt := fun a xs q => s2 a (HO.tup xs) q
        have hp2 := Same.laid (o := HO.lst [.str "yes", .ref p]) hl _ _ (upd_same (H := upd H fl (.lst ys1.reverse)) (a := p) (o := HO.tup []))
        refine ⟨_, rfl, _, _, rfl, wb.keeps kt, .inr ⟨_, rfl, l, _, _, if b.isW = true then .str "yes" else .ref p, rfl, rfl, SqL.of upd_same, ?_, fin1 _ _ s2 o2.symm (by rw [← o1]; exact RepV.ofB hp2 _)⟩⟩
        cases b.isW
        · exact atI_nat (j := 1) rfl
        · exact atI_nat (j := 0) rfl
      · rw [dec_str2 h1]
        refine iteF ⟨_, rfl, rfl, _, rfl, ?_⟩
        by_cases h2 : k = "head"
        · subst h2
          rw [dec_strT]
          have op : some (b.hd :: F1) = some (v :: F') := op
          injection op with op
          injection op with o1 o2
          subst o1
          refine iteT ⟨_, rfl, _, _, rfl, wb, _, rfl, ?_⟩
          cases b with
          | w z =>
            refine iteF (iteF ?_)
            exact ⟨Nat.zero_le _, fun p hp => fin1 _ _ (Same.laid hp) o2.symm (RepV.nil upd_same)⟩
          | nil =>
            obtain ⟨a, rfl, q⟩ := rb1
            refine iteT ⟨_, rfl, a, _, rfl, .inr q.seq, _, _, rfl, rfl, _, rfl, ?_⟩
            rw [decide_eq_false (show ¬ (0 : Int) < ((([] : List V).length : Nat) : Int) by decide)]
            refine iteF ?_
            exact ⟨Nat.zero_le _, fun p hp => fin1 _ _ (Same.laid hp) o2.symm (RepV.nil upd_same)⟩
          | cons h t =>
            obtain ⟨a, z, zs, rfl, q, r, l⟩ := rb1
            refine iteT ⟨_, rfl, a, _, rfl, .inr q.seq, _, _, rfl, rfl, _, rfl, ?_⟩
            rw [decide_eq_true (show (0 : Int) < (((z :: zs).length : Nat) : Int) by rw [List.length_cons]; omega)]
            exact iteT ⟨_, rfl, a, _, _, z, rfl, rfl, q.seq, atI_nat (j := 0) rfl, fin1 _ _ (Same.refl _) o2.symm r⟩
        · rw [dec_str2 h2]
          refine iteF ⟨_, rfl, rfl, _, rfl, ?_⟩
          by_cases h3 : k = "tail"
          · subst h3
            rw [dec_strT]
            have op : some (b.tl :: F1) = some (v :: F') := op
            injection op with op
            injection op with o1 o2
            subst o1
            refine iteT ⟨_, rfl, _, _, rfl, wb, _, rfl, ?_⟩
            cases b with
            | w z => exact iteF ⟨Nat.zero_le _, fun p hp => fin1 _ _ (Same.laid hp) o2.symm (RepV.nil upd_same)⟩
            | nil =>
              obtain ⟨a, rfl, q⟩ := rb1
              refine iteT ⟨_, rfl, _, rfl, a, _, rfl, q.seq, fun _ => fin1 _ _ (Same.refl _) o2.symm ⟨a, rfl, q⟩, fun nw => absurd ?_ nw⟩
              exact ⟨rfl, rfl⟩
            | cons h t =>
              obtain ⟨a, z, zs, rfl, q, r, l⟩ := rb1
              refine iteT ⟨_, rfl, _, rfl, a, _, rfl, q.seq, fun hw => ?_, fun _ p hp => fin1 _ _ (Same.laid hp) o2.symm ?_⟩
              · exact absurd hw.1 (by
                  show ¬ HT.sIx (zs.length + 1) 0 (some 1) = 0
                  simp [HT.sIx])
              · rw [cut1]
                exact RepV.of (.inl upd_same) (l.keeps fun a xs q => Same.laid hp _ _ q)
          · rw [dec_str2 h3]
            refine iteF ?_
            cases pr with
            | nil =>
              exfalso
              have hk := opDo_mem op
              have hk : k ∈ (["same", "word", "head", "tail", "join"] : List Str) := hk
              simp only [List.mem_cons, List.not_mem_nil, or_false] at hk
              rcases hk with e | e | e | e | e
              · subst e
                cases op
              · exact h1 e
              · exact h2 e
              · exact h3 e
              · subst e
                cases op
            | @cons a x F2 ys2 ra pr2 =>
              have hfl1 : upd H fl (.lst (x :: ys2).reverse) fl = some (.lst (x :: ys2).reverse) := upd_same
              have kt2 : KT0 H (upd (upd H fl (.lst (x :: ys2).reverse)) fl (.lst ys2.reverse)) := fun c xs q => kt_lst hfl1 c xs (kt1 c xs q)
              have ra2 := ra.keeps kt2
              have rb2 := rb.keeps kt2
              have pr3 := Paired.mapP pr2 fun _ _ z => z.keeps kt2
              have ga := gd a (List.mem_cons_of_mem _ List.mem_cons_self)
              have wb2 := rb2.wt
              have fin2 : ∀ (H2 : Hp) (x2 : V), Same (upd (upd H fl (.lst (x :: ys2).reverse)) fl (.lst ys2.reverse)) H2 → F' = F2 → RepV K H2 v x2 → Q x2 H2 := fun H2 x2 s e r => by
                subst e
                exact k' H2 x2 ys2 (s _ _ upd_same) (Paired.mapP pr3 fun _ _ z => z.keeps (fun a xs q => s a _ q)) r ((k1.trans KpH.upd).trans (KpH.same s))
              refine ⟨_, rfl, .inl ⟨rfl, _, SqL.of hfl1⟩, fl, _, _, rfl, rfl, hfl1, rev_pop, ?_⟩
              rw [rev_drop]
              refine ⟨_, rfl, rfl, _, rfl, ?_⟩
              by_cases h4 : k = "same"
              · subst h4
                rw [dec_strT]
                have op : (if a.dep ≤ 16 ∧ b.dep ≤ 16 then some (ofB (decide (a = b)) :: F2) else none) = some (v :: F') := op
                by_cases hd : a.dep ≤ 16 ∧ b.dep ≤ 16
                · rw [if_pos hd] at op
                  injection op with op
                  injection op with o1 o2
                  refine iteT ⟨Nat.zero_le _, fun p hp => ⟨(by show 2 ≤ sizeLine; omega), fun l hl => ?_⟩⟩
                  have s1 := Same.laid (o := HO.tup []) hp
                  have s2 := s1.trans (Same.laid (o := HO.lst [.ref p, .str "yes"]) hl)
                  have kt := fun a xs q => s2 a (HO.tup xs) q
                  have hp2 := Same.laid (o := HO.lst [.ref p, .str "yes"]) hl _ _ (upd_same (H := upd (upd H fl (.lst (x :: ys2).reverse)) fl (.lst ys2.reverse)) (a := p) (o := HO.tup []))
                  refine ⟨_, rfl, _, rfl, toD a, toD b, (ra2.keeps kt).dp, (rb2.keeps kt).dp, toD_shaped ga hd.1, toD_shaped gb hd.2, .inr ⟨_, rfl, l, _, _, if decide (a = b) = true then .str "yes" else .ref p, rfl, rfl, SqL.of upd_same, ?_, fin2 _ _ s2 o2.symm (by rw [← o1]; exact RepV.ofB hp2 _)⟩⟩
                  rw [toD_eqv ra.ok rb.ok]
                  cases decide (a = b)
                  · exact atI_nat (j := 0) rfl
                  · exact atI_nat (j := 1) rfl
                · rw [if_neg hd] at op
                  cases op
              · rw [dec_str2 h4]
                have hk := opDo_mem op
                have h5 : k = "join" := by
                  have hk : k ∈ (["same", "word", "head", "tail", "join"] : List Str) := hk
                  simp only [List.mem_cons, List.not_mem_nil, or_false] at hk
                  rcases hk with e | e | e | e | e
                  · exact absurd e h4
                  · exact absurd e h1
                  · exact absurd e h2
                  · exact absurd e h3
                  · exact e
                subst h5
                have op : some (a.jn b :: F2) = some (v :: F') := op
                injection op with op
                injection op with o1 o2
                subst o1
                refine iteF ⟨_, rfl, _, _, rfl, wb2, _, rfl, ?_⟩
                cases b with
                | w z => exact iteF ⟨_, rfl, (by show 1 ≤ sizeLine; omega), fun p hp => fin2 _ _ (Same.laid hp) o2.symm ⟨p, x, [], rfl, .inl upd_same, ra2.keeps (fun a xs q => Same.laid hp _ _ q), rfl⟩⟩
                | nil =>
                  obtain ⟨c, rfl, q⟩ := rb2
                  refine iteT ⟨_, rfl, (by show 1 ≤ sizeLine; omega), fun p hp => ⟨_, rfl, ?_⟩⟩
                  have s1 := Same.laid (o := HO.tup [x]) hp
                  exact ⟨p, c, [x], [], rfl, rfl, .inl (.inl upd_same), (q.keeps fun a xs q => s1 _ _ q).seq, (by intro z; cases z), (by show 1 + 0 ≤ sizeLine; omega), fun _ => fin2 _ _ s1 o2.symm ⟨p, x, [], rfl, .inl upd_same, ra2.keeps (fun a xs q => s1 _ _ q), rfl⟩, fun z => absurd rfl z⟩
                | cons h t =>
                  obtain ⟨c, z, zs, rfl, q, r, l⟩ := rb2
                  refine iteT ⟨_, rfl, (by show 1 ≤ sizeLine; omega), fun p hp => ⟨_, rfl, ?_⟩⟩
                  have s1 := Same.laid (o := HO.tup [x]) hp
                  have lz : zs.length = t.items.length := l.len
                  have gl := gb.2.2
                  refine ⟨p, c, [x], z :: zs, rfl, rfl, .inl (.inl upd_same), (q.keeps fun a xs q => s1 _ _ q).seq, (by intro z; cases z), (by show 1 + (zs.length + 1) ≤ sizeLine; omega), (fun z => nomatch z), fun _ p2 hp2 => ?_⟩
                  have s2 := s1.trans (Same.laid (o := HO.tup ([x] ++ z :: zs)) hp2)
                  exact fin2 _ _ s2 o2.symm ⟨p2, x, z :: zs, rfl, .inl upd_same, ra2.keeps (fun a xs q => s2 _ _ q), z, zs, rfl, r.keeps (fun a xs q => s2 _ _ q), l.keeps (fun a xs q => s2 _ _ q)⟩
end
end OgW
/-! OgL5: what stands in the law's own run. -/
namespace OgW
open PySem PySem.Spec PyProof.Rows L2 OgD Og OgT
/-- names of parameters, with what they hold -/
def nmS (ps : List Str) (ys : List V) : List (Key × V) := (ps.zip ys).map fun q => ((.inr q.1 : Key), q.2)
theorem nmS_none {x : Str} : ∀ {ps : List Str} {ys : List V}, x ∉ ps → valV (nmS ps ys) (.inr x) = none
  | [], _, _ => rfl
  | _ :: _, [], _ => rfl
  | a :: ps, b :: ys, h => by
    show valV ((Sum.inr a, b) :: nmS ps ys) (.inr x) = none
    rw [valV_neg (p := ((.inr a : Key), b)) fun z => h (by rw [← Sum.inr.inj z]; exact List.mem_cons_self)]
    exact nmS_none fun m => h (List.mem_cons_of_mem _ m)
theorem nmS_snoc {i : Nat} {ps : List Str} {ys : List V} {a : Str} {b : V} (h1 : ps[i]? = some a) (h2 : ys[i]? = some b) : nmS (ps.take (i + 1)) (ys.take (i + 1)) = nmS (ps.take i) (ys.take i) ++ [((.inr a : Key), b)] := by
  unfold nmS
  have l1 := (List.getElem?_eq_some_iff.mp h1).1
  have l2 := (List.getElem?_eq_some_iff.mp h2).1
  rw [List.take_add_one, List.take_add_one, h1, h2, Option.toList_some, Option.toList_some, List.zip_append (by rw [List.length_take, List.length_take]; omega), List.map_append]
  rfl
theorem nmS_len (ps : List Str) (ys : List V) : (nmS ps ys).length ≤ ps.length := by
  unfold nmS
  rw [List.length_map, List.length_zip]
  omega
theorem nd_takeS {i : Nat} {ps : List Str} {a : Str} (nd : ps.Nodup) (h : ps[i]? = some a) : a ∉ ps.take i := fun m => by
  obtain ⟨j, hj, e⟩ := List.mem_iff_getElem.mp m
  rw [List.length_take] at hj
  rw [List.getElem_take] at e
  obtain ⟨hi, e2⟩ := List.getElem?_eq_some_iff.mp h
  have := (List.nodup_iff_pairwise_ne.mp nd)
  have q := List.pairwise_iff_getElem.mp this j i (by omega) hi (by omega)
  exact q (e.trans e2.symm)
def EnvL (K : PySem.W.Frag) (H : Hp) (n : VEnv) (d : Addr) : Prop := ∃ kvs : List (Key × V), H d = some (.dK kvs) ∧ Paired (fun (q : Str × Val) (p : Key × V) => ∃ y, p = (.inr q.1, y) ∧ RepV K H q.2 y) n kvs
theorem nmS_env {K : PySem.W.Frag} {H : Hp} : ∀ {ps : List Str} {args : List Val} {ys : List V}, Paired (fun v y => RepV K H v y) args ys → Paired (fun (q : Str × Val) (p : Key × V) => ∃ y, p = (.inr q.1, y) ∧ RepV K H q.2 y) (ps.zip args) (nmS ps ys)
  | [], _, _, _ => .nil
  | _ :: _, _, _, .nil => .nil
  | a :: ps, _, _, .cons r t => .cons ⟨_, rfl, r⟩ (nmS_env t)
def TaskL (K : PySem.W.Frag) (H : Hp) : Task → V → Prop
  | .ev e n, v => ∃ p x d, v = .ref p ∧ H p = some (.tup [.str "eval", x, .ref d]) ∧ RepV K H e x ∧ EnvL K H n d
  | .ite a b n, v => ∃ p x y d, v = .ref p ∧ H p = some (.tup [.str "if", x, y, .ref d]) ∧ RepV K H a x ∧ RepV K H b y ∧ EnvL K H n d
  | .op k, v => ∃ p, v = .ref p ∧ H p = some (.tup [.str "do", .str k])
  | .call f _, v => ∃ p, v = .ref p ∧ H p = some (.tup [.str "call", .str f])
  | .fin _ _, _ => False
def FnL (K : PySem.W.Frag) (H : Hp) (g : Fn) (p : Key × V) : Prop := ∃ t a b, p = (.inr g.name, .ref t) ∧ H t = some (.tup [.ref a, b]) ∧ TupAt K H a (g.ps.map V.str) ∧ RepV K H g.body b
section
variable {K : PySem.W.Frag} {H H' : Hp}
theorem EnvL.keeps (k : Kq H H') {n : VEnv} {d : Addr} (h : EnvL K H n d) : EnvL K H' n d := by
  obtain ⟨kvs, e, p⟩ := h
  exact ⟨kvs, k.2 _ _ e, Paired.mapP p fun _ _ ⟨y, z, r⟩ => ⟨y, z, r.keeps k.1⟩⟩
theorem TaskL.keeps (k : Kq H H') : ∀ {t : Task} {v : V}, TaskL K H t v → TaskL K H' t v
  | .ev _ _, _, ⟨p, x, d, e, h, r, n⟩ => ⟨p, x, d, e, k.1 _ _ h, r.keeps k.1, n.keeps k⟩
  | .ite _ _ _, _, ⟨p, x, y, d, e, h, r, r2, n⟩ => ⟨p, x, y, d, e, k.1 _ _ h, r.keeps k.1, r2.keeps k.1, n.keeps k⟩
  | .op _, _, ⟨p, e, h⟩ => ⟨p, e, k.1 _ _ h⟩
  | .call _ _, _, ⟨p, e, h⟩ => ⟨p, e, k.1 _ _ h⟩
  | .fin _ _, _, h => h.elim
theorem FnL.keeps (k : KT0 H H') {g : Fn} {p : Key × V} (h : FnL K H g p) : FnL K H' g p := by
  obtain ⟨t, a, b, e, h, r1, r2⟩ := h
  exact ⟨t, a, b, e, k _ _ h, r1.keeps k, r2.keeps k⟩
theorem FnL.none {f : Str} {l : List Fn} {kvs : List (Key × V)} (p : Paired (FnL K H) l kvs) (h : f ∉ l.map (·.name)) : valV kvs (.inr f) = none := by
  induction p with
  | nil => rfl
  | @cons a b l r hab t ih =>
    obtain ⟨ta, x, y, rfl, h1, h2, h3⟩ := hab
    rw [valV_neg (p := ((.inr a.name : Key), V.ref ta)) fun z => h (by rw [← Sum.inr.inj z]; exact List.mem_cons_self)]
    exact ih fun m => h (List.mem_cons_of_mem _ m)
theorem EnvL.val {n : VEnv} {d : Addr} (h : EnvL K H n d) {x : Str} {v : Val} (hv : lk n x = some v) : ∃ kvs y, H d = some (.dK kvs) ∧ valV kvs (.inr x) = some y ∧ RepV K H v y := by
  obtain ⟨kvs, e, p⟩ := h
  refine ⟨kvs, ?_⟩
  suffices q : ∃ y, valV kvs (.inr x) = some y ∧ RepV K H v y from let ⟨y, a, b⟩ := q; ⟨y, e, a, b⟩
  clear e
  induction p with
  | nil => cases hv
  | @cons a b l r hab t ih =>
    obtain ⟨z, u⟩ := a
    obtain ⟨y, rfl, ry⟩ := hab
    have hv : (if z = x then some u else lk l x) = some v := hv
    by_cases q : z = x
    · rw [if_pos q] at hv
      have hv := Option.some.inj hv
      subst hv q
      exact ⟨y, valV_pos (p := ((.inr z : Key), y)) rfl, ry⟩
    · rw [if_neg q] at hv
      obtain ⟨y2, a, b⟩ := ih hv
      exact ⟨y2, (valV_neg (p := ((.inr z : Key), y)) fun c => q (Sum.inr.inj c)).trans a, b⟩
theorem FnL.val {Pf : List Fn} {kvs : List (Key × V)} (p : Paired (FnL K H) Pf kvs) {f : Str} {g : Fn} (hg : fnOf Pf f = some g) : ∃ t a b, valV kvs (.inr f) = some (.ref t) ∧ H t = some (.tup [.ref a, b]) ∧ TupAt K H a (g.ps.map V.str) ∧ RepV K H g.body b := by
  induction p with
  | nil => cases hg
  | @cons a b l r hab t ih =>
    obtain ⟨ta, x, y, rfl, h1, h2, h3⟩ := hab
    have hg : (if a.name = f then some a else fnOf l f) = some g := hg
    by_cases q : a.name = f
    · rw [if_pos q] at hg
      have hg := Option.some.inj hg
      subst hg q
      exact ⟨ta, x, y, valV_pos (p := ((.inr a.name : Key), V.ref ta)) rfl, h1, h2, h3⟩
    · rw [if_neg q] at hg
      obtain ⟨t2, x2, y2, e, h⟩ := ih hg
      exact ⟨t2, x2, y2, (valV_neg (p := ((.inr a.name : Key), V.ref ta)) fun c => q (Sum.inr.inj c)).trans e, h⟩
end
/-- the law's own run, in the heap -/
structure LAt (K : PySem.W.Frag) (H0 H : Hp) (Pf : List Fn) (bd tl fl : Addr) (F : List Val) (T : List Task) : Prop where
  b : ∃ kvs, H bd = some (.dK kvs) ∧ Paired (FnL K H) Pf kvs
  t : ∃ ts, H tl = some (.lst ts.reverse) ∧ Paired (TaskL K H) T ts
  f : ∃ ys, H fl = some (.lst ys.reverse) ∧ Paired (fun v y => RepV K H v y) F ys
  ne : tl ≠ fl
  fr : Same H0 H
  n1 : H0 tl = none
  n2 : H0 fl = none
section
variable {K : PySem.W.Frag} {H0 H H' : Hp} {Pf : List Fn} {bd tl fl : Addr} {F F' : List Val} {T T' : List Task} {ys' ts' : List V}
theorem LAt.same (Z : LAt K H0 H Pf bd tl fl F T) (s : Same H H') : LAt K H0 H' Pf bd tl fl F T := by
  obtain ⟨kvs, a1, a2⟩ := Z.b
  obtain ⟨ts, b1, b2⟩ := Z.t
  obtain ⟨ys, c1, c2⟩ := Z.f
  have k := Kq.same s
  exact ⟨⟨kvs, s _ _ a1, Paired.mapP a2 fun _ _ z => z.keeps k.1⟩, ⟨ts, s _ _ b1, Paired.mapP b2 fun _ _ z => z.keeps k⟩, ⟨ys, s _ _ c1, Paired.mapP c2 fun _ _ z => z.keeps k.1⟩, Z.ne, Z.fr.trans s, Z.n1, Z.n2⟩
theorem LAt.setF (Z : LAt K H0 H Pf bd tl fl F T) (p : Paired (fun v y => RepV K H v y) F' ys') : LAt K H0 (upd H fl (.lst ys'.reverse)) Pf bd tl fl F' T := by
  obtain ⟨kvs, a1, a2⟩ := Z.b
  obtain ⟨ts, b1, b2⟩ := Z.t
  obtain ⟨ys, c1, c2⟩ := Z.f
  have k : Kq H (upd H fl (.lst ys'.reverse)) := Kq.lst c1
  exact ⟨⟨kvs, k.2 _ _ a1, Paired.mapP a2 fun _ _ z => z.keeps k.1⟩, ⟨ts, (upd_ne Z.ne).trans b1, Paired.mapP b2 fun _ _ z => z.keeps k⟩, ⟨ys', upd_same, Paired.mapP p fun _ _ z => z.keeps k.1⟩, Z.ne, fun b o e => (upd_ne (ne_of_none e Z.n2)).trans (Z.fr b o e), Z.n1, Z.n2⟩
theorem LAt.setT (Z : LAt K H0 H Pf bd tl fl F T) (p : Paired (TaskL K H) T' ts') : LAt K H0 (upd H tl (.lst ts'.reverse)) Pf bd tl fl F T' := by
  obtain ⟨kvs, a1, a2⟩ := Z.b
  obtain ⟨ts, b1, b2⟩ := Z.t
  obtain ⟨ys, c1, c2⟩ := Z.f
  have k : Kq H (upd H tl (.lst ts'.reverse)) := Kq.lst b1
  exact ⟨⟨kvs, k.2 _ _ a1, Paired.mapP a2 fun _ _ z => z.keeps k.1⟩, ⟨ts', upd_same, Paired.mapP p fun _ _ z => z.keeps k⟩, ⟨ys, (upd_ne Z.ne.symm).trans c1, Paired.mapP c2 fun _ _ z => z.keeps k.1⟩, Z.ne, fun b o e => (upd_ne (ne_of_none e Z.n1)).trans (Z.fr b o e), Z.n1, Z.n2⟩
/-- another list of what was found -/
theorem LAt.newF (Z : LAt K H0 H Pf bd tl fl F T) {p : Addr} (hp : H p = none) (q : Paired (fun v y => RepV K H v y) F' ys') : LAt K H0 (upd H p (.lst ys'.reverse)) Pf bd tl p F' T := by
  have s : Same H (upd H p (.lst ys'.reverse)) := Same.laid hp
  have Z2 := Z.same s
  obtain ⟨ts, b1, b2⟩ := Z.t
  exact ⟨Z2.b, Z2.t, ⟨ys', upd_same, Paired.mapP q fun _ _ z => z.keeps fun a xs e => s a _ e⟩, ne_of_none b1 hp, Z2.fr, Z.n1, Same.free Z.fr hp⟩
theorem LAt.popT {t : Task} (Z : LAt K H0 H Pf bd tl fl F (t :: T)) : ∃ x ts, H tl = some (.lst (x :: ts).reverse) ∧ TaskL K (upd H tl (.lst ts.reverse)) t x ∧ LAt K H0 (upd H tl (.lst ts.reverse)) Pf bd tl fl F T := by
  obtain ⟨ts, b1, b2⟩ := Z.t
  cases b2 with
  | @cons _ x _ ts r q => exact ⟨x, ts, b1, r.keeps (Kq.lst b1), Z.setT q⟩
theorem LAt.pushT {t : Task} {v : V} (Z : LAt K H0 H Pf bd tl fl F T) (r : TaskL K H t v) : ∃ xs, H tl = some (.lst xs) ∧ xs.length = T.length ∧ LAt K H0 (upd H tl (.lst (xs ++ [v]))) Pf bd tl fl F (t :: T) := by
  obtain ⟨ts, b1, b2⟩ := Z.t
  refine ⟨_, b1, by rw [List.length_reverse]; exact (Paired.length b2).symm, ?_⟩
  rw [rev_push]
  exact Z.setT (.cons r b2)
theorem LAt.pushF {v : Val} {y : V} (Z : LAt K H0 H Pf bd tl fl F T) (r : RepV K H v y) : ∃ xs, H fl = some (.lst xs) ∧ xs.length = F.length ∧ LAt K H0 (upd H fl (.lst (xs ++ [y]))) Pf bd tl fl (v :: F) T := by
  obtain ⟨ys, b1, b2⟩ := Z.f
  refine ⟨_, b1, by rw [List.length_reverse]; exact (Paired.length b2).symm, ?_⟩
  rw [rev_push]
  exact Z.setF (.cons r b2)
/-- what the law's word did to the list of what was found -/
theorem LAt.kpF (Z : LAt K H0 H Pf bd tl fl F T) (k : KpH fl H H') (e : H' fl = some (.lst ys'.reverse)) (q : Paired (fun v y => RepV K H' v y) F' ys') : LAt K H0 H' Pf bd tl fl F' T := by
  obtain ⟨kvs, a1, a2⟩ := Z.b
  obtain ⟨ts, b1, b2⟩ := Z.t
  obtain ⟨ys, c1, c2⟩ := Z.f
  have kq : Kq H H' := k.kq c1
  exact ⟨⟨kvs, kq.2 _ _ a1, Paired.mapP a2 fun _ _ z => z.keeps kq.1⟩, ⟨ts, k _ _ b1 Z.ne, Paired.mapP b2 fun _ _ z => z.keeps kq⟩, ⟨ys', e, q⟩, Z.ne, fun b o h => k b o (Z.fr b o h) (ne_of_none h Z.n2), Z.n1, Z.n2⟩
end
theorem paired_drop {α β : Type} {R : α → β → Prop} : ∀ {l : List α} {r : List β} (k : Nat), Paired R l r → Paired R (l.drop k) (r.drop k)
  | _, _, 0, h => h
  | _, _, _ + 1, .nil => .nil
  | _, _, k + 1, .cons _ t => paired_drop k t
theorem opDo_cons {k : Str} {F F' : List Val} (h : opDo k F = some F') : ∃ v R, F' = v :: R := by
  unfold opDo at h
  repeat' split at h
  all_goals try cases h
  all_goals exact ⟨_, _, rfl⟩
theorem last_at {ys : List V} {k j : Nat} {z : V} (hk : k ≤ ys.length) (hz : (ys.take k).reverse[j]? = some z) : atI ys.reverse (((ys.reverse.length : Nat) : Int) - (k : Nat) + (j : Nat)) = some z := by
  have hj := (List.getElem?_eq_some_iff.mp hz).1
  rw [List.length_reverse, List.length_take] at hj
  have e : ((ys.reverse.length : Nat) : Int) - (k : Nat) + (j : Nat) = ((ys.length - k + j : Nat) : Int) := by
    rw [List.length_reverse]
    omega
  rw [e]
  refine atI_nat ?_
  have e2 : ys.reverse = (ys.drop k).reverse ++ (ys.take k).reverse := by rw [← List.reverse_append, List.take_append_drop]
  rw [e2, List.getElem?_append_right (by rw [List.length_reverse, List.length_drop]; omega), ← hz]
  congr 1
  rw [List.length_reverse, List.length_drop]
  omega
theorem cut_front {ys : List V} {k : Nat} (hk : k ≤ ys.length) : cutV ys.reverse none (some (((ys.reverse.length : Nat) : Int) - (k : Nat))) = (ys.drop k).reverse := by
  have e : ((ys.reverse.length : Nat) : Int) - (k : Nat) = ((ys.length - k : Nat) : Int) := by
    rw [List.length_reverse]
    omega
  rw [e, cut_take _ _ (by rw [List.length_reverse]; omega), List.take_reverse]
  congr 2
  omega
end OgW
/-! OgL6: _law_run. -/
namespace OgW
open PySem PySem.Spec PyProof.Rows L2 OgD Og OgT
section
variable {P : Program} {w : World} {K : PySem.W.Frag} {mg : Str → Option Value} {base : Heap}
/-- between two turns of the law's own run -/
def LInv (K : PySem.W.Frag) (H0 H : Hp) (Pf : List Fn) (a li bd tl : Addr) (lim N i : Nat) (σ : L2.St) : Prop := ∃ (S : MSt) (fl : Addr) (y4 y5 y6 y7 y8 y12 y13 y14 y15 y16 : Option V),
  σ = [some (.ref a), some (.ref li), some (.int lim), some (.ref bd), y4, y5, y6, y7, y8, some (.ref tl), some (.ref fl), some (.int S.steps), y12, y13, y14, y15, y16] ∧ LAt K H0 H Pf bd tl fl S.found S.todo ∧ Forever false Pf S ∧ Small N i S ∧ S.steps ≤ lim
def spLRun (K : PySem.W.Frag) : Sp := fun vs H Q _ => ∃ (vp : V) (li : Addr) (lim N : Nat) (g0 : Fn) (r : List Fn) (args : List Val) (avs : List V), vs = [vp, .ref li, .int lim] ∧ Ask K H vp li g0 r args avs ∧ lim ≤ 1000 ∧ Endless false (g0 :: r) args ∧ (∀ g ∈ g0 :: r, good N g.body) ∧ (∀ v ∈ args, good N v) ∧ N ≤ 100000 ∧
  ∀ (H' : Hp) (q : Addr), H' q = some (.tup [.str "tired"]) → Same H H' → Q (.ref q) H'
theorem sc_lrun : FnScope ["_law_program", "_law_inputs", "_law_limit", "_law_bodies", "_law_name", "_law_parameters", "_law_body", "_law_names", "_law_k", "_law_todo", "_law_found", "_law_steps", "_law_turn", "_law_task", "_law_branch", "_law_one", "_law_word"] ["_law_program", "_law_inputs", "_law_limit"] (defScope s_law_run) := ⟨rfl, rfl, rfl, by decide +kernel, rfl, by decide +kernel, by decide +kernel⟩
/-- the parts of an expression, the last one first -/
theorem eval_end {H0 H : Hp} {Pf : List Fn} {bd tl fl tx d : Addr} {F : List Val} {Td : List Task} {tk : Task} {k wd : Str} {zs : List V} {et : Val} {n : VEnv} {a0 a1 a2 a3 a4 a5 a6 a8 a10 a11 a12 a13 a14 : Option V} {D : Ends}
    (Z : LAt K H0 H Pf bd tl fl F Td) (hx : TupAt K H tx (.str k :: zs)) (rl : RepL K H et zs) (en : EnvL K H n d) (htk : ∀ H q, H q = some (.tup [.str wd, .str k]) → TaskL K H tk (.ref q)) (l12 : et.items.length ≤ 12) (lT : Td.length < 900000)
    (k' : ∀ H' y8, LAt K H0 H' Pf bd tl fl F (et.items.map (Task.ev · n) ++ tk :: Td) → D.nx [a0, a1, a2, a3, a4, a5, a6, some (.ref d), y8, some (.ref tl), a10, a11, a12, a13, a14, some (.ref tx), some (.str wd)] H') :
    (tSeq (tDrop (tBM K "list" rAppend (tVar 9) (tCons (tTup (tCons (tVar 16) (tCons (tOp (rIxT K) (tVar 15) (tC (.int 0))) tNil))) tNil)))
      (tFor (iRng1 (tCons (tOp (rI0 fun i j => .int (i - j)) (tCB (fun xs H Q => ∃ p ys, xs = [.ref p] ∧ (SqL K H p ys ∨ SqT K H p ys) ∧ Q (.int ys.length) H) (tCons (tVar 15) tNil)) (tC (.int 1))) tNil)) (gName 8)
        (tDrop (tBM K "list" rAppend (tVar 9) (tCons (tTup (tCons (tC (.str "eval")) (tCons (tOp (rIxT K) (tVar 15) (tOp (rI0 fun i j => .int (i - j)) (tOp (rI0 fun i j => .int (i - j)) (tCB (fun xs H Q => ∃ p ys, xs = [.ref p] ∧ (SqL K H p ys ∨ SqT K H p ys) ∧ Q (.int ys.length) H) (tCons (tVar 15) tNil)) (tC (.int 1))) (tVar 8))) (tCons (tVar 7) tNil)))) tNil)))))
      D [a0, a1, a2, a3, a4, a5, a6, some (.ref d), a8, some (.ref tl), a10, a11, a12, a13, a14, some (.ref tx), some (.str wd)] H := by
  have l6 := line6
  have u62 : (2 : Int) ^ 62 = 4611686018427387904 := by decide
  obtain ⟨ts, tlh, _⟩ := Z.t
  have lz : zs.length = et.items.length := rl.len
  refine ⟨_, rfl, .inl ⟨rfl, _, SqL.of tlh⟩, _, rfl, _, rfl, tx, _, _, .str k, rfl, rfl, hx.seq, atI_nat (j := 0) rfl, (by show 2 ≤ sizeLine; omega), fun q hq => ?_⟩
  have sq := Same.laid (o := HO.tup [.str wd, .str k]) hq
  have Z2 := Z.same sq
  obtain ⟨xs, w1, w2, Z3⟩ := Z2.pushT (htk _ q upd_same)
  have k3 : Kq H _ := (Kq.same sq).trans (Kq.lst (ys := xs ++ [.ref q]) w1)
  refine ⟨tl, xs, _, rfl, rfl, w1, by omega, ?_⟩
  have hx3 := hx.keeps k3.1
  have ej : ((((V.str k :: zs).length : Nat) : Int) - 1) = (et.items.length : Nat) := by
    rw [List.length_cons, lz]
    omega
  refine ⟨_, rfl, tx, _, rfl, .inr hx3.seq, _, _, rfl, rfl, _, rfl, by rw [List.length_cons]; omega, by rw [List.length_cons]; omega, ?_⟩
  rw [ej]
  refine for_range (lo := 0) (n := et.items.length) (fun j σ H' => (∃ y8, σ = [a0, a1, a2, a3, a4, a5, a6, some (.ref d), y8, some (.ref tl), a10, a11, a12, a13, a14, some (.ref tx), some (.str wd)]) ∧ LAt K H0 H' Pf bd tl fl F ((et.items.drop (et.items.length - j)).map (Task.ev · n) ++ tk :: Td) ∧ Kq H H')
    ⟨⟨_, rfl⟩, ?_, k3⟩ ?_ ?_
  · rw [Nat.sub_zero, List.drop_length]
    exact Z3
  · rintro j σ H' hj ⟨⟨y8, rfl⟩, Z4, k4⟩
    rw [Int.zero_add]
    have hj2 : et.items.length - 1 - j < et.items.length := by omega
    have hx4 := hx.keeps k4.1
    obtain ⟨z, hz, rz⟩ := paired_get rl.items (List.getElem?_eq_getElem hj2)
    have hz2 : (V.str k :: zs)[et.items.length - j]? = some z := by
      have e : et.items.length - j = et.items.length - 1 - j + 1 := by omega
      rw [e, List.getElem?_cons_succ]
      exact hz
    have ei : ((((V.str k :: zs).length : Nat) : Int) - 1 - (j : Nat)) = (et.items.length - j : Nat) := by
      rw [List.length_cons, lz]
      omega
    have at1 : atI (V.str k :: zs) ((((V.str k :: zs).length : Nat) : Int) - 1 - (j : Nat)) = some z := by
      rw [ei]
      exact atI_nat hz2
    obtain ⟨ts4, tlh4, _⟩ := Z4.t
    refine ⟨_, rfl, .inl ⟨rfl, _, SqL.of tlh4⟩, _, rfl, _, rfl, tx, _, rfl, .inr hx4.seq, _, _, rfl, rfl, _, rfl, _, _, rfl, rfl, tx, _, _, z, rfl, rfl, hx4.seq, at1, _, rfl, (by show 3 ≤ sizeLine; omega), fun q2 hq2 => ?_⟩
    have sq2 := Same.laid (o := HO.tup [V.str "eval", z, .ref d]) hq2
    have Z5 := Z4.same sq2
    obtain ⟨xs5, w3, w4, Z6⟩ := Z5.pushT (t := .ev et.items[et.items.length - 1 - j] n) (v := .ref q2) ⟨q2, z, d, rfl, upd_same, (rz.keeps k4.1).keeps (Kq.same sq2).1, (en.keeps k4).keeps (Kq.same sq2)⟩
    have hl : ((et.items.drop (et.items.length - j)).map (Task.ev · n)).length ≤ 12 := by
      rw [List.length_map, List.length_drop]
      omega
    refine ⟨tl, xs5, _, rfl, rfl, w3, ?_, ⟨_, rfl⟩, ?_, (k4.trans (Kq.same sq2)).trans (Kq.lst w3)⟩
    · have w4 : xs5.length = ((et.items.drop (et.items.length - j)).map (Task.ev · n) ++ tk :: Td).length := w4
      rw [List.length_append, List.length_cons] at w4
      omega
    · have ed : et.items.drop (et.items.length - (j + 1)) = et.items[et.items.length - 1 - j] :: et.items.drop (et.items.length - j) := by
        have e1 : et.items.length - (j + 1) = et.items.length - 1 - j := by omega
        have e2 : et.items.length - j = et.items.length - 1 - j + 1 := by omega
        rw [e1, e2]
        exact List.drop_eq_getElem_cons hj2
      rw [ed]
      exact Z6
  · rintro σ H' ⟨⟨y8, rfl⟩, Z4, k4⟩
    rw [Nat.sub_self, List.drop_zero] at Z4
    exact k' H' y8 Z4
theorem ok_lrun {f : Addr} {fd : FuncData} (F : FnS K s_law_run "_law_run" "_law_run" f fd) (T : Txt K mg) (gD : Glob P w K mg base "_law_do" 1 ["_law_word", "_law_found"] (spLDo K)) : FnOk P w K mg base CX0 2 f fd ["_law_program", "_law_inputs", "_law_limit"] (spLRun K) := by
  obtain ⟨fD, fdD, GD, mD, kD, bD⟩ := gD
  refine ok0 F sc_lrun (fun vs H Q E h => ?_) (fun cdv A0 outer s0 H vs Q E0 hr h => ?_)
  · obtain ⟨vp, li, lim, N, g0, r, args, avs, rfl, _⟩ := h
    rfl
  · obtain ⟨vp, li, lim, N, g0, r, args, avs, rfl, ask, hlim, el, gp, ga, hN, k'⟩ := h
    refine ⟨_, (pss_cons (ps_set (i := 3) sc_lrun.nd rfl (.inl rfl) pe_dnewK)
 (pss_cons (ps_for PassesOwn.never rfl (pi_tup (pv 0)) (pg_tup rfl (pgs_cons (pg_name (i := 4) sc_lrun.nd rfl (.inl rfl)) (pgs_cons (pg_name (i := 5) sc_lrun.nd rfl (.inl rfl)) (pgs_cons (pg_name (i := 6) sc_lrun.nd rfl (.inl rfl)) pgs_nil))))
 (pss_one (ps_dput (hu_of hr) (pv 3) (pv 4) (pe_tup (pa_cons (pv 5) (pa_cons (pv 6) pa_nil))) rfl)))
 (pss_cons (ps_set (i := 7) sc_lrun.nd rfl (.inl rfl) pe_dnewK)
 (pss_cons (ps_for PassesOwn.never rfl (pi_range1 (by rfl) T.range (pa_cons (pe_callB call_len_seq (by rfl) T.len b_len (pa_cons (pv 1) pa_nil)) pa_nil)) (pg_name (i := 8) sc_lrun.nd rfl (.inl rfl))
 (pss_one (ps_dput (hu_of hr) (pv 7) (pe_ix ix_tup (pe_ix ix_tup (pe_ix ix_tup (pv 0) pe_int (fun _ _ => rfl)) pe_int (fun _ _ => rfl)) (pv 8) (fun _ _ => rfl)) (pe_ix ix_list (pv 1) (pv 8) (fun _ _ => rfl)) rfl)))
 (pss_cons (ps_set (i := 9) sc_lrun.nd rfl (.inl rfl) (pe_lst (pa_cons (pe_tup (pa_cons pe_str (pa_cons (pe_ix ix_tup (pe_ix ix_tup (pv 0) pe_int (fun _ _ => rfl)) pe_int (fun _ _ => rfl)) (pa_cons (pv 7) pa_nil)))) pa_nil)))
 (pss_cons (ps_set (i := 10) sc_lrun.nd rfl (.inl rfl) (pe_lst pa_nil))
 (pss_cons (ps_set (i := 11) sc_lrun.nd rfl (.inl rfl) pe_int)
 (pss_cons (ps_for PassesOwn.never rfl (pi_range1 (by rfl) T.range (pa_cons (pe_op op_add (pe_op op_mul pe_int (pv 2)) pe_int) pa_nil)) (pg_name (i := 12) sc_lrun.nd rfl (.inl rfl))
 (pss_cons (ps_if (pt_cmpR op_eq (pe_callB call_len_seq (by rfl) T.len b_len (pa_cons (pv 9) pa_nil)) pe_int (nomark _))
 (pss_one (ps_ret pe_no))
 pss_nil)
 (pss_cons (ps_set (i := 13) sc_lrun.nd rfl (.inl rfl) (pe_bm0 PySem.F.plainAttrs_list PySem.F.slot_list_pop PySem.F.type_list_pop mt_pop (pv 9)))
 (pss_one (ps_if (pt_cmpR op_eq (pe_ix ix_tup (pv 13) pe_int (fun _ _ => rfl)) pe_str (nomark _))
 (pss_one (ps_expr (pe_bm PySem.F.plainAttrs_list PySem.F.slot_list_append PySem.F.type_list_append mt_append (pv 10) (pa_cons (pe_call GD hr (by rfl) mD kD bD .nil pass0 (pa_cons (pe_ix ix_tup (pv 13) pe_int (fun _ _ => rfl)) (pa_cons (pv 10) pa_nil))) pa_nil))))
 (pss_one (ps_if (pt_cmpR op_eq (pe_ix ix_tup (pv 13) pe_int (fun _ _ => rfl)) pe_str (nomark _))
 (pss_cons (ps_set (i := 14) sc_lrun.nd rfl (.inl rfl) (pe_ix ix_tup (pv 13) pe_int (fun _ _ => rfl)))
 (pss_cons (ps_if (pt_cmpR (op_eqD hr.units) (pe_bm0 PySem.F.plainAttrs_list PySem.F.slot_list_pop PySem.F.type_list_pop mt_pop (pv 10)) (pe_tup pa_nil) (nomark _))
 (pss_one (ps_set (i := 14) sc_lrun.nd rfl (.inl rfl) (pe_ix ix_tup (pv 13) pe_int (fun _ _ => rfl))))
 pss_nil)
 (pss_one (ps_expr (pe_bm PySem.F.plainAttrs_list PySem.F.slot_list_append PySem.F.type_list_append mt_append (pv 9) (pa_cons (pe_tup (pa_cons pe_str (pa_cons (pv 14) (pa_cons (pe_ix ix_tup (pv 13) pe_int (fun _ _ => rfl)) pa_nil)))) pa_nil))))))
 (pss_one (ps_if (pt_cmpR op_eq (pe_ix ix_tup (pv 13) pe_int (fun _ _ => rfl)) pe_str (nomark _))
 (pss_cons (ps_asg (pe_dget (hu_of hr) (pv 3) (pe_ix ix_tup (pv 13) pe_int (fun _ _ => rfl)) (fun _ _ => rfl)) (pg_tup rfl (pgs_cons (pg_name (i := 5) sc_lrun.nd rfl (.inl rfl)) (pgs_cons (pg_name (i := 6) sc_lrun.nd rfl (.inl rfl)) pgs_nil))))
 (pss_cons (ps_set (i := 7) sc_lrun.nd rfl (.inl rfl) pe_dnewK)
 (pss_cons (ps_for PassesOwn.never rfl (pi_range1 (by rfl) T.range (pa_cons (pe_callB call_len_seq (by rfl) T.len b_len (pa_cons (pv 5) pa_nil)) pa_nil)) (pg_name (i := 8) sc_lrun.nd rfl (.inl rfl))
 (pss_one (ps_dput (hu_of hr) (pv 7) (pe_ix ix_tup (pv 5) (pv 8) (fun _ _ => rfl)) (pe_ix ix_list (pv 10) (pe_op op_add (pe_op op_sub (pe_callB call_len_seq (by rfl) T.len b_len (pa_cons (pv 10) pa_nil)) (pe_callB call_len_seq (by rfl) T.len b_len (pa_cons (pv 5) pa_nil))) (pv 8)) (fun _ _ => rfl)) rfl)))
 (pss_cons (ps_set (i := 10) sc_lrun.nd rfl (.inl rfl) (pe_slice sl_list (pv 10) po_none (po_some (pe_op op_sub (pe_callB call_len_seq (by rfl) T.len b_len (pa_cons (pv 10) pa_nil)) (pe_callB call_len_seq (by rfl) T.len b_len (pa_cons (pv 5) pa_nil))))))
 (pss_one (ps_expr (pe_bm PySem.F.plainAttrs_list PySem.F.slot_list_append PySem.F.type_list_append mt_append (pv 9) (pa_cons (pe_tup (pa_cons pe_str (pa_cons (pv 6) (pa_cons (pv 7) pa_nil)))) pa_nil))))))))
 (pss_cons (ps_if (pt_cmpR op_eq (pv 11) (pv 2) (nomark _))
 (pss_one (ps_ret (pe_tup (pa_cons pe_str pa_nil))))
 pss_nil)
 (pss_cons (ps_set (i := 11) sc_lrun.nd rfl (.inl rfl) (pe_op op_add (pv 11) pe_int))
 (pss_cons (ps_par (i := 15) (j := 7) rfl sc_lrun.nd rfl rfl (by decide) rfl rfl (pa_cons (pe_ix ix_tup (pv 13) pe_int (fun _ _ => rfl)) (pa_cons (pe_ix ix_tup (pv 13) pe_int (fun _ _ => rfl)) pa_nil)) rfl)
 (pss_one (ps_if (pt_val (pe_callB call_isStr (by rfl) T.isi b_isi (pa_cons (pv 15) (pa_cons (pe_bltn (v := .ty "str") (by rfl) T.str b_str rfl) pa_nil))))
 (pss_one (ps_expr (pe_bm PySem.F.plainAttrs_list PySem.F.slot_list_append PySem.F.type_list_append mt_append (pv 10) (pa_cons (pe_dget (hu_of hr) (pv 7) (pv 15) (fun _ _ => rfl)) pa_nil))))
 (pss_one (ps_if (pt_cmpR op_eq (pe_ix ix_tup (pv 15) pe_int (fun _ _ => rfl)) pe_str (nomark _))
 (pss_one (ps_expr (pe_bm PySem.F.plainAttrs_list PySem.F.slot_list_append PySem.F.type_list_append mt_append (pv 10) (pa_cons (pe_ix ix_tup (pv 15) pe_int (fun _ _ => rfl)) pa_nil))))
 (pss_one (ps_if (pt_cmpR op_eq (pe_ix ix_tup (pv 15) pe_int (fun _ _ => rfl)) pe_str (nomark _))
 (pss_cons (ps_expr (pe_bm PySem.F.plainAttrs_list PySem.F.slot_list_append PySem.F.type_list_append mt_append (pv 9) (pa_cons (pe_tup (pa_cons pe_str (pa_cons (pe_ix ix_tup (pv 15) pe_int (fun _ _ => rfl)) (pa_cons (pe_ix ix_tup (pv 15) pe_int (fun _ _ => rfl)) (pa_cons (pv 7) pa_nil))))) pa_nil)))
 (pss_one (ps_expr (pe_bm PySem.F.plainAttrs_list PySem.F.slot_list_append PySem.F.type_list_append mt_append (pv 9) (pa_cons (pe_tup (pa_cons pe_str (pa_cons (pe_ix ix_tup (pv 15) pe_int (fun _ _ => rfl)) (pa_cons (pv 7) pa_nil)))) pa_nil)))))
 (pss_cons (ps_set (i := 16) sc_lrun.nd rfl (.inl rfl) pe_str)
 (pss_cons (ps_if (pt_cmpR op_in_seq (pe_ix ix_tup (pv 15) pe_int (fun _ _ => rfl)) (pe_lst (pa_cons pe_str (pa_cons pe_str (pa_cons pe_str (pa_cons pe_str (pa_cons pe_str pa_nil)))))) (by with_unfolding_all rfl))
 (pss_one (ps_set (i := 16) sc_lrun.nd rfl (.inl rfl) pe_str))
 pss_nil)
 (pss_cons (ps_expr (pe_bm PySem.F.plainAttrs_list PySem.F.slot_list_append PySem.F.type_list_append mt_append (pv 9) (pa_cons (pe_tup (pa_cons (pv 16) (pa_cons (pe_ix ix_tup (pv 15) pe_int (fun _ _ => rfl)) pa_nil))) pa_nil)))
 (pss_one (ps_for PassesOwn.never rfl (pi_range1 (by rfl) T.range (pa_cons (pe_op op_sub (pe_callB call_len_seq (by rfl) T.len b_len (pa_cons (pv 15) pa_nil)) pe_int) pa_nil)) (pg_name (i := 8) sc_lrun.nd rfl (.inl rfl))
 (pss_one (ps_expr (pe_bm PySem.F.plainAttrs_list PySem.F.slot_list_append PySem.F.type_list_append mt_append (pv 9) (pa_cons (pe_tup (pa_cons pe_str (pa_cons (pe_ix ix_tup (pv 15) (pe_op op_sub (pe_op op_sub (pe_callB call_len_seq (by rfl) T.len b_len (pa_cons (pv 15) pa_nil)) pe_int) (pv 8)) (fun _ _ => rfl)) (pa_cons (pv 7) pa_nil)))) pa_nil)))))))))))))))))))))))))))
 (pss_one (ps_ret (pe_tup (pa_cons pe_str pa_nil)))))))))))), ?_⟩
    have l6 := line6
    have u62 : (2 : Int) ^ 62 = 4611686018427387904 := by decide
    obtain ⟨a, pvs, rfl, tp, pp⟩ := encP_rep ask.rp
    have lpv : pvs.length = (g0 :: r).length := (Paired.length pp).symm
    have rps := ask.ra
    have lav : avs.length = args.length := (Paired.length rps).symm
    have lps : g0.ps.length = avs.length := ask.lg.trans lav.symm
    have ps0 := ask.ck.ps g0 List.mem_cons_self
    have nd0 : g0.ps.Nodup := ps0.1
    have l12 : g0.ps.length ≤ 12 := ps0.2.1
    have llen := ask.ck.len
    obtain ⟨x0, hx0, rf0⟩ := paired_get pp (m := 0) (a := g0) rfl
    obtain ⟨ta0, tb0, y0, rfl, tf0, tbs0, ry0⟩ := encF_rep rf0
    refine fun bd hbd => ?_
    have sb : Same H (upd H bd (.dK [])) := Same.laid hbd
    refine ⟨_, rfl, a, rfl, ⟨_, (tp.keeps fun b xs e => sb b _ e).seq⟩, for_tup (xs := pvs) (fun i σ H' => ∃ (kvs : List (Key × V)) (x4 x5 x6 : Option V), σ = [some (.ref a), some (.ref li), some (.int lim), some (.ref bd), x4, x5, x6, none, none, none, none, none, none, none, none, none, none] ∧ H' bd = some (.dK kvs) ∧ Paired (FnL K H') ((g0 :: r).take i) kvs ∧ Same H H')
      ⟨[], none, none, none, rfl, upd_same, .nil, sb⟩ (fun i σ H' _ q => ?_) ?_ ?_⟩
    · obtain ⟨_, _, _, _, _, _, _, s⟩ := q
      exact (tp.keeps fun b xs e => s b _ e).seq
    · rintro i x σ H' hx ⟨kvs, x4, x5, x6, rfl, g1, g2, g3⟩
      have hi : i < (g0 :: r).length := by rw [← lpv]; exact (List.getElem?_eq_some_iff.mp hx).1
      have hg := List.getElem?_eq_getElem hi
      generalize (g0 :: r)[i] = g at hg
      obtain ⟨x', hx', rf⟩ := paired_get pp hg
      rw [hx] at hx'
      have hx' := Option.some.inj hx'
      subst hx'
      obtain ⟨ta, tb, y, rfl, tf, tbs, ry⟩ := encF_rep rf
      have kt0 : KT0 H H' := fun b xs e => g3 b _ e
      have lk : kvs.length < sizeLine := by
        have := Paired.length g2
        rw [List.length_take] at this
        omega
      refine ⟨ta, _, rfl, (tf.keeps kt0).seq, rfl, _, _, rfl, _, _, rfl, _, _, rfl, rfl, ?_⟩
      refine ⟨_, rfl, _, rfl, (by show 2 ≤ sizeLine; omega), fun t ht => ⟨_, rfl, _, rfl, bd, _, rfl, DPut.k (k := .inr g.name) (Same.laid ht _ _ g1) lk, ?_⟩⟩
      have nn : g.name ∉ ((g0 :: r).take i).map (·.name) := by
        rw [List.map_take]
        refine nd_takeS ask.ck.nd ?_
        rw [List.getElem?_map, hg]
        rfl
      rw [putK_new _ (FnL.none g2 nn)]
      have st : Same H' (upd H' t (.tup [.ref tb, y])) := Same.laid ht
      have kt : KT0 H' (upd (upd H' t (.tup [.ref tb, y])) bd (.dK (kvs ++ [(.inr g.name, .ref t)]))) := fun b xs e => (upd_ne (ne_of e g1 (by intro z; cases z))).trans (st _ _ e)
      have nt : t ≠ bd := (ne_of_none g1 ht).symm
      refine ⟨_, _, _, _, rfl, upd_same, ?_, fun b o e => (upd_ne (ne_of_none e hbd)).trans (st _ _ (g3 b o e))⟩
      rw [List.take_add_one, hg]
      exact snocP (Paired.mapP g2 fun _ _ z => z.keeps kt) ⟨t, tb, y, rfl, (upd_ne nt).trans upd_same, (tbs.keeps kt0).keeps kt, (ry.keeps kt0).keeps kt⟩
    · rintro σ H1 ⟨kvs, x4, x5, x6, rfl, g1, g2, g3⟩
      rw [lpv, List.take_length] at g2
      have kt1 : KT0 H H1 := fun b xs e => g3 b _ e
      refine fun d hd => ?_
      have hli1 := g3 _ _ ask.li
      have sd : Same H1 (upd H1 d (.dK [])) := Same.laid hd
      refine ⟨_, rfl, li, _, rfl, .inl (SqL.of (sd _ _ hli1)), (avs.length : Nat), rfl, by omega, by omega, for_range (lo := 0) (n := avs.length) (fun i σ H' => (∃ x8, σ = [some (.ref a), some (.ref li), some (.int lim), some (.ref bd), x4, x5, x6, some (.ref d), x8, none, none, none, none, none, none, none, none]) ∧ Same H1 H' ∧ H' d = some (.dK (nmS (g0.ps.take i) (avs.take i))))
        ⟨⟨none, rfl⟩, sd, upd_same⟩ ?_ ?_⟩
      · rintro i σ H' hi ⟨⟨x8, rfl⟩, s1, hd1⟩
        rw [Int.zero_add]
        have hi2 : i < g0.ps.length := by omega
        have kt2 : KT0 H H' := fun b xs e => s1 b _ (kt1 b xs e)
        refine ⟨_, rfl, _, rfl, li, _, _, avs[i], rfl, rfl, SqL.of (s1 _ _ hli1), atI_nat (List.getElem?_eq_getElem hi), _, rfl, _, rfl, a, _, _, _, rfl, rfl, (tp.keeps kt2).seq, atI_nat (j := 0) hx0, ta0, _, _, .ref tb0, rfl, rfl, (tf0.keeps kt2).seq, atI_nat (j := 1) rfl, _, rfl, tb0, _, _, .str g0.ps[i], rfl, rfl, (tbs0.keeps kt2).seq, atI_nat (by rw [List.getElem?_map, List.getElem?_eq_getElem hi2]; rfl), d, _, rfl, DPut.k (k := .inr g0.ps[i]) hd1 ?_, ⟨_, rfl⟩, fun b o e => (upd_ne (ne_of_none e hd)).trans (s1 b o e), ?_⟩
        · have := nmS_len (g0.ps.take i) (avs.take i)
          rw [List.length_take] at this
          omega
        · rw [upd_same, putK_new _ (nmS_none (nd_takeS nd0 (List.getElem?_eq_getElem hi2))), nmS_snoc (List.getElem?_eq_getElem hi2) (List.getElem?_eq_getElem hi)]
      · rintro σ H2 ⟨⟨x8, rfl⟩, s1, hd1⟩
        have e1 : nmS (g0.ps.take avs.length) (avs.take avs.length) = nmS g0.ps avs := by rw [List.take_length, ← lps, List.take_length]
        rw [e1] at hd1
        have s2 : Same H H2 := g3.trans s1
        have kt2 : KT0 H H2 := fun b xs e => s2 b _ e
        refine ⟨_, rfl, a, _, _, _, rfl, rfl, (tp.keeps kt2).seq, atI_nat (j := 0) hx0, ta0, _, _, y0, rfl, rfl, (tf0.keeps kt2).seq, atI_nat (j := 2) rfl, _, rfl, (by show 3 ≤ sizeLine; omega), fun p hp => ⟨(by show 1 ≤ sizeLine; omega), fun tl htl => ⟨Nat.zero_le _, fun fl hfl => ?_⟩⟩⟩
        obtain ⟨S0, hS, Fv⟩ := el
        have sm0 := Small.start hS gp ga
        obtain ⟨g, hg, hgl, rfl⟩ := start_eq hS
        have hg0 : fnOf (g0 :: r) "main" = some g0 := by
          show (if g0.name = "main" then some g0 else fnOf r "main") = some g0
          rw [if_pos ask.nm]
        rw [hg0] at hg
        have hg := Option.some.inj hg
        subst hg
        have s3 : Same H2 (upd H2 p (.tup [.str "eval", y0, .ref d])) := Same.laid hp
        have s4 := s3.trans (Same.laid (o := HO.lst [.ref p]) htl)
        have s5 := s4.trans (Same.laid (o := HO.lst []) hfl)
        have kt5 : KT0 H1 _ := fun b xs e => s5 b _ (s1 b (.tup xs) e)
        have f1 : upd (upd (upd H2 p (.tup [.str "eval", y0, .ref d])) tl (.lst [.ref p])) fl (.lst []) tl = some (.lst ([V.ref p] : List V).reverse) := Same.laid hfl _ _ upd_same
        have f2 : upd (upd (upd H2 p (.tup [.str "eval", y0, .ref d])) tl (.lst [.ref p])) fl (.lst []) p = some (.tup [.str "eval", y0, .ref d]) := Same.laid hfl _ _ (Same.laid htl _ _ upd_same)
        have kt6 : KT0 H _ := fun b xs e => s5 b _ (s2 b (.tup xs) e)
        have Z0 : LAt K H (upd (upd (upd H2 p (.tup [.str "eval", y0, .ref d])) tl (.lst [.ref p])) fl (.lst [])) (g0 :: r) bd tl fl [] [.ev g0.body (g0.ps.zip args)] :=
          ⟨⟨kvs, s5 _ _ (s1 _ _ g1), Paired.mapP g2 fun _ _ z => z.keeps kt5⟩, ⟨[.ref p], f1, .cons ⟨p, y0, d, rfl, f2, ry0.keeps kt6, _, s5 _ _ hd1, nmS_env (Paired.mapP rps fun _ _ z => z.keeps kt6)⟩ .nil⟩, ⟨[], upd_same, .nil⟩, ne_of_none upd_same hfl, s2.trans s5, Same.free (s2.trans s3) htl, Same.free (s2.trans s4) hfl⟩
        refine ⟨_, rfl, _, _, rfl, rfl, .inl ⟨by decide, by decide⟩, _, _, rfl, rfl, _, rfl, by omega, by omega, for_range (lo := 0) (n := (4 * (lim : Int) + 4).toNat) (fun i σ H' => LInv K H H' (g0 :: r) a li bd tl lim N i σ)
          ⟨_, fl, _, _, _, _, _, _, _, _, _, _, rfl, Z0, Fv, sm0, Nat.zero_le _⟩ ?_ ?_⟩
        · rintro i σ H' hi ⟨S, fl, y4, y5, y6, y7, y8, y12, y13, y14, y15, y16, rfl, Z, Fv, sm, hs⟩
          rw [Int.zero_add]
          obtain ⟨S1, h1⟩ := Fv.next
          have Fv1 := Fv.mStep h1
          have sm1 := sm.step h1 gp
          have lF := sm.f
          have lT := sm.t
          have gF := sm.g.f
          have hi : i < 4 * lim + 4 := by omega
          obtain ⟨s, Fd, Td0⟩ := S
          cases Td0 with
          | nil => cases h1
          | cons t Td =>
            obtain ⟨x, ts, e1, rt, Z1⟩ := Z.popT
            have lT : Td.length + 1 ≤ 13 * i + 1 := lT
            have lF : Fd.length ≤ i := lF
            have gF : ∀ v ∈ Fd, good (N + i) v := gF
            obtain ⟨ys, hfl1, pf1⟩ := Z1.f
            have lys : ys.length = Fd.length := (Paired.length pf1).symm
            refine ⟨_, rfl, tl, _, rfl, .inl (SqL.of e1), rfl, _, rfl, ?_⟩
            rw [decide_eq_false (show ¬ V.int (((x :: ts).reverse.length : Nat) : Int) = V.int 0 from fun z => by
              injection z with z
              rw [List.length_reverse, List.length_cons] at z
              omega)]
            refine iteF ⟨_, rfl, .inl ⟨rfl, _, SqL.of e1⟩, tl, _, _, rfl, rfl, e1, rev_pop, ?_⟩
            rw [rev_drop]
            cases t with
            | fin c k => exact rt.elim
            | op k =>
              obtain ⟨p, rfl, hp⟩ := rt
              refine ⟨_, rfl, p, _, _, .str "do", rfl, rfl, SqT.of hp, atI_nat (j := 0) rfl, rfl, _, rfl, ?_⟩
              rw [dec_strT]
              have h1 : (match opDo k Fd with
                | some F => some (⟨s, F, Td⟩ : MSt)
                | none => none) = some S1 := h1
              cases ho : opDo k Fd with
              | none =>
                rw [ho] at h1
                cases h1
              | some F2 =>
                rw [ho] at h1
                have h1 := Option.some.inj h1
                subst h1
                obtain ⟨v, R, rfl⟩ := opDo_cons ho
                have lo := opDo_lens ho
                have lo : R.length + 1 ≤ Fd.length := lo
                refine iteT ⟨_, rfl, .inl ⟨rfl, _, SqL.of hfl1⟩, _, rfl, p, _, _, .str k, rfl, rfl, SqT.of hp, atI_nat (j := 1) rfl, _, rfl, k, fl, Fd, R, N + i, ys, v, rfl, hfl1, pf1, ho, gF, (by omega), fun H2' y ys2 q1 q2 q3 q4 => ?_⟩
                have Z2 := Z1.kpF q4 q1 q2
                obtain ⟨xs, w1, w2, Z3⟩ := Z2.pushF q3
                exact ⟨fl, xs, _, rfl, rfl, w1, by omega, ⟨s, v :: R, Td⟩, fl, _, _, _, _, _, _, _, _, _, _, rfl, Z3, Fv1, sm1, hs⟩
            | ite c1 c2 n =>
              obtain ⟨p, v1, v2, d, rfl, hp, r1, r2, en⟩ := rt
              refine ⟨_, rfl, p, _, _, .str "if", rfl, rfl, SqT.of hp, atI_nat (j := 0) rfl, rfl, _, rfl, ?_⟩
              rw [dec_str2 (by decide)]
              refine iteF ⟨_, rfl, p, _, _, .str "if", rfl, rfl, SqT.of hp, atI_nat (j := 0) rfl, rfl, _, rfl, ?_⟩
              rw [dec_strT]
              cases Fd with
              | nil => cases h1
              | cons v F1 =>
                have h1 : (if v.dep ≤ 16 then some (⟨s, F1, .ev (if v = .nil then c2 else c1) n :: Td⟩ : MSt) else none) = some S1 := h1
                by_cases hd : v.dep ≤ 16
                · rw [if_pos hd] at h1
                  have h1 := Option.some.inj h1
                  subst h1
                  have gv := gF v List.mem_cons_self
                  cases pf1 with
                  | @cons _ y _ ys1 ry pr =>
                    refine iteT ⟨_, rfl, p, _, _, v1, rfl, rfl, SqT.of hp, atI_nat (j := 1) rfl, ?_⟩
                    refine ⟨_, rfl, .inl ⟨rfl, _, SqL.of hfl1⟩, fl, _, _, rfl, rfl, hfl1, rev_pop, ?_⟩
                    rw [rev_drop]
                    have Z2 := Z1.setF (ys' := ys1) (F' := F1) pr
                    refine ⟨Nat.zero_le _, fun q hq => ?_⟩
                    have sq := Same.laid (o := HO.tup []) hq
                    have kq2 := (Kq.lst (ys := ys1.reverse) hfl1).trans (Kq.same sq)
                    have ev : PyData.eqv (toD v) (.tuple []) = decide (v = .nil) := toD_eqv (u := .nil) ry.ok rfl
                    refine ⟨toD v, .tuple [], (ry.keeps kq2.1).dp, .tup (.inl (.inl upd_same)) .nil, toD_shaped gv hd, toD_shaped (N := 0) (v := .nil) True.intro (by decide), _, rfl, ?_⟩
                    rw [ev]
                    have Z3 := Z2.same sq
                    obtain ⟨ts3, tlh, pt3⟩ := Z3.t
                    have hp3 := kq2.1 _ _ hp
                    refine iteB (fun hv => ⟨_, rfl, p, _, _, v2, rfl, rfl, SqT.of hp3, atI_nat (j := 2) rfl, ?_⟩) (fun hv => ?_)
                    · have hv := of_decide_eq_true hv
                      rw [if_pos hv] at Fv1 sm1
                      refine ⟨_, rfl, .inl ⟨rfl, _, SqL.of tlh⟩, _, rfl, _, rfl, p, _, _, .ref d, rfl, rfl, SqT.of hp3, atI_nat (j := 3) rfl, (by show 3 ≤ sizeLine; omega), fun q2 hq2 => ?_⟩
                      have sq2 := Same.laid (o := HO.tup [V.str "eval", v2, .ref d]) hq2
                      have Z4 := Z3.same sq2
                      obtain ⟨xs, w1, w2, Z5⟩ := Z4.pushT (t := .ev c2 n) (v := .ref q2) ⟨q2, v2, d, rfl, upd_same, (r2.keeps kq2.1).keeps (Kq.same sq2).1, (en.keeps kq2).keeps (Kq.same sq2)⟩
                      exact ⟨tl, xs, _, rfl, rfl, w1, by omega, ⟨s, F1, .ev c2 n :: Td⟩, fl, _, _, _, _, _, _, _, _, _, _, rfl, Z5, Fv1, sm1, hs⟩
                    · have hv := of_decide_eq_false hv
                      rw [if_neg hv] at Fv1 sm1
                      refine ⟨_, rfl, .inl ⟨rfl, _, SqL.of tlh⟩, _, rfl, _, rfl, p, _, _, .ref d, rfl, rfl, SqT.of hp3, atI_nat (j := 3) rfl, (by show 3 ≤ sizeLine; omega), fun q2 hq2 => ?_⟩
                      have sq2 := Same.laid (o := HO.tup [V.str "eval", v1, .ref d]) hq2
                      have Z4 := Z3.same sq2
                      obtain ⟨xs, w1, w2, Z5⟩ := Z4.pushT (t := .ev c1 n) (v := .ref q2) ⟨q2, v1, d, rfl, upd_same, (r1.keeps kq2.1).keeps (Kq.same sq2).1, (en.keeps kq2).keeps (Kq.same sq2)⟩
                      exact ⟨tl, xs, _, rfl, rfl, w1, by omega, ⟨s, F1, .ev c1 n :: Td⟩, fl, _, _, _, _, _, _, _, _, _, _, rfl, Z5, Fv1, sm1, hs⟩
                · rw [if_neg hd] at h1
                  cases h1
            | call f k =>
              obtain ⟨p, rfl, hp⟩ := rt
              refine ⟨_, rfl, p, _, _, .str "call", rfl, rfl, SqT.of hp, atI_nat (j := 0) rfl, rfl, _, rfl, ?_⟩
              rw [dec_str2 (by decide)]
              refine iteF ⟨_, rfl, p, _, _, .str "call", rfl, rfl, SqT.of hp, atI_nat (j := 0) rfl, rfl, _, rfl, ?_⟩
              rw [dec_str2 (by decide)]
              refine iteF ⟨_, rfl, p, _, _, .str "call", rfl, rfl, SqT.of hp, atI_nat (j := 0) rfl, rfl, _, rfl, ?_⟩
              rw [dec_strT]
              have h1 : (if k ≤ Fd.length then beginAt false (g0 :: r) ⟨f, (Fd.take k).reverse⟩ s (Fd.drop k) Td else none) = some S1 := h1
              by_cases hk : k ≤ Fd.length
              · rw [if_pos hk] at h1
                have h1 : (match fnOf (g0 :: r) f with
                  | some g => if g.ps.length = ((Fd.take k).reverse).length then some (⟨s, Fd.drop k, .ev g.body (g.ps.zip (Fd.take k).reverse) :: Td⟩ : MSt) else none
                  | none => none) = some S1 := h1
                cases hg : fnOf (g0 :: r) f with
                | none =>
                  rw [hg] at h1
                  cases h1
                | some g =>
                  rw [hg] at h1
                  have h1 : (if g.ps.length = ((Fd.take k).reverse).length then some (⟨s, Fd.drop k, .ev g.body (g.ps.zip (Fd.take k).reverse) :: Td⟩ : MSt) else none) = some S1 := h1
                  by_cases hl : g.ps.length = ((Fd.take k).reverse).length
                  · rw [if_pos hl] at h1
                    have h1 := Option.some.inj h1
                    subst h1
                    have hl : g.ps.length = k := by
                      rw [List.length_reverse, List.length_take] at hl
                      omega
                    have pg := ask.ck.ps g (fnOf_mem hg)
                    have ndg := pg.1
                    have lg12 := pg.2.1
                    obtain ⟨bk, hb1, pb1⟩ := Z1.b
                    obtain ⟨tf, pa, pb, hv, htf, tpa, rb⟩ := FnL.val pb1 hg
                    have dg : DGet (upd H' tl (.lst ts.reverse)) bd (.str f) (some (.ref tf)) := by
                      rw [← hv]
                      exact DGet.k (k := .inr f) hb1
                    refine iteT ⟨_, rfl, _, rfl, p, _, _, .str f, rfl, rfl, SqT.of hp, atI_nat (j := 1) rfl, bd, .ref tf, rfl, dg, tf, _, rfl, SqT.of htf, rfl, _, _, rfl, _, _, rfl, rfl, ?_⟩
                    refine fun d hd => ?_
                    have sd := Same.laid (o := HO.dK []) hd
                    have lpm : (g.ps.map V.str).length = k := by rw [List.length_map]; exact hl
                    have pz : Paired (fun v y => RepV K (upd H' tl (.lst ts.reverse)) v y) (Fd.take k).reverse (ys.take k).reverse := paired_rev (paired_take pf1 k)
                    have lz : (ys.take k).reverse.length = k := by
                      rw [List.length_reverse, List.length_take]
                      omega
                    refine ⟨_, rfl, pa, _, rfl, .inr (tpa.keeps (Kq.same sd).1).seq, ((g.ps.map V.str).length : Nat), rfl, by omega, by omega, for_range (lo := 0) (n := (g.ps.map V.str).length) (fun j σ H3 => (∃ y8, σ = [some (.ref a), some (.ref li), some (.int lim), some (.ref bd), y4, some (.ref pa), some pb, some (.ref d), y8, some (.ref tl), some (.ref fl), some (.int s), some (.int i), some (.ref p), y14, y15, y16]) ∧ Same (upd H' tl (.lst ts.reverse)) H3 ∧ H3 d = some (.dK (nmS (g.ps.take j) ((ys.take k).reverse.take j))))
                      ⟨⟨y8, rfl⟩, sd, upd_same⟩ ?_ ?_⟩
                    · rintro j σ H3 hj ⟨⟨y8, rfl⟩, s1, hd1⟩
                      rw [Int.zero_add]
                      have hj2 : j < g.ps.length := by omega
                      have hj3 : j < (ys.take k).reverse.length := by omega
                      have hfl3 := s1 _ _ hfl1
                      have tpa3 := (tpa.keeps (Kq.same s1).1)
                      have at1 : atI ys.reverse (((ys.reverse.length : Nat) : Int) - (((g.ps.map V.str).length : Nat) : Int) + (j : Nat)) = some (ys.take k).reverse[j] := by
                        rw [lpm]
                        exact last_at (by omega) (List.getElem?_eq_getElem hj3)
                      refine ⟨_, rfl, _, rfl, fl, _, rfl, .inl (SqL.of hfl3), _, rfl, pa, _, rfl, .inr tpa3.seq, _, _, rfl, rfl, _, rfl, _, _, rfl, rfl, fl, _, _, _, rfl, rfl, SqL.of hfl3, at1, _, rfl, _, rfl, _, rfl, pa, _, _, .str g.ps[j], rfl, rfl, tpa3.seq, atI_nat (by rw [List.getElem?_map, List.getElem?_eq_getElem hj2]; rfl), d, _, rfl, DPut.k (k := .inr g.ps[j]) hd1 ?_, ⟨_, rfl⟩, fun b o e => (upd_ne (ne_of_none e hd)).trans (s1 b o e), ?_⟩
                      · have := nmS_len (g.ps.take j) ((ys.take k).reverse.take j)
                        rw [List.length_take] at this
                        omega
                      · rw [upd_same, putK_new _ (nmS_none (nd_takeS ndg (List.getElem?_eq_getElem hj2))), nmS_snoc (List.getElem?_eq_getElem hj2) (List.getElem?_eq_getElem hj3)]
                    · rintro σ H3 ⟨⟨y8, rfl⟩, s1, hd1⟩
                      have e1 : nmS (g.ps.take (g.ps.map V.str).length) ((ys.take k).reverse.take (g.ps.map V.str).length) = nmS g.ps (ys.take k).reverse := by
                        rw [lpm, ← hl, List.take_length, hl]
                        congr 1
                        exact List.take_of_length_le (by omega)
                      rw [e1] at hd1
                      have Z2 := Z1.same s1
                      have hfl3 := s1 _ _ hfl1
                      have tpa3 := (tpa.keeps (Kq.same s1).1)
                      refine ⟨_, rfl, _, rfl, fl, _, rfl, .inl (SqL.of hfl3), _, rfl, pa, _, rfl, .inr tpa3.seq, _, _, rfl, rfl, _, rfl, fl, _, rfl, SqL.of hfl3, fun fl2 hfl2 => ?_⟩
                      have pF : Paired (fun v y => RepV K H3 v y) (Fd.drop k) (ys.drop k) := paired_drop k (Paired.mapP pf1 fun _ _ z => z.keeps (Kq.same s1).1)
                      have ec : cutV ys.reverse none (some (((ys.reverse.length : Nat) : Int) - (((g.ps.map V.str).length : Nat) : Int))) = (ys.drop k).reverse := by
                        rw [lpm]
                        exact cut_front (by omega)
                      rw [ec]
                      have Z3 := Z2.newF (ys' := ys.drop k) (F' := Fd.drop k) hfl2 pF
                      have s2 := s1.trans (Same.laid (o := HO.lst (ys.drop k).reverse) hfl2)
                      obtain ⟨ts3, tlh, pt3⟩ := Z3.t
                      refine ⟨_, rfl, .inl ⟨rfl, _, SqL.of tlh⟩, _, rfl, _, rfl, (by show 3 ≤ sizeLine; omega), fun q2 hq2 => ?_⟩
                      have s3 := s2.trans (Same.laid (o := HO.tup [V.str "eval", pb, .ref d]) hq2)
                      have Z4 := Z3.same (Same.laid (o := HO.tup [V.str "eval", pb, .ref d]) hq2)
                      have hd3 := Same.laid (o := HO.tup [V.str "eval", pb, .ref d]) hq2 _ _ (Same.laid (o := HO.lst (ys.drop k).reverse) hfl2 _ _ hd1)
                      obtain ⟨xs, w1, w2, Z5⟩ := Z4.pushT (t := .ev g.body (g.ps.zip (Fd.take k).reverse)) (v := .ref q2) ⟨q2, pb, d, rfl, upd_same, rb.keeps (Kq.same s3).1, _, hd3, nmS_env (Paired.mapP pz fun _ _ z => z.keeps (Kq.same s3).1)⟩
                      exact ⟨tl, xs, _, rfl, rfl, w1, by omega, ⟨s, Fd.drop k, .ev g.body (g.ps.zip (Fd.take k).reverse) :: Td⟩, fl2, _, _, _, _, _, _, _, _, _, _, rfl, Z5, Fv1, sm1, hs⟩
                  · rw [if_neg hl] at h1
                    cases h1
              · rw [if_neg hk] at h1
                cases h1
            | ev e n =>
              obtain ⟨p, x1, d, rfl, hp, r1, en⟩ := rt
              refine ⟨_, rfl, p, _, _, .str "eval", rfl, rfl, SqT.of hp, atI_nat (j := 0) rfl, rfl, _, rfl, ?_⟩
              rw [dec_str2 (by decide)]
              refine iteF ⟨_, rfl, p, _, _, .str "eval", rfl, rfl, SqT.of hp, atI_nat (j := 0) rfl, rfl, _, rfl, ?_⟩
              rw [dec_str2 (by decide)]
              refine iteF ⟨_, rfl, p, _, _, .str "eval", rfl, rfl, SqT.of hp, atI_nat (j := 0) rfl, rfl, _, rfl, ?_⟩
              rw [dec_str2 (by decide)]
              by_cases hlm : s = lim
              · subst hlm
                refine ⟨_, rfl, _, rfl, rfl, _, rfl, ?_⟩
                rw [decide_eq_true (rfl : V.int (s : Nat) = V.int (s : Nat))]
                refine iteT ?_
                exact ⟨(by show 1 ≤ sizeLine; omega), fun q hq => k' _ q upd_same (Z1.fr.trans (Same.laid hq))⟩
              · refine ⟨_, rfl, _, rfl, rfl, _, rfl, ?_⟩
                rw [decide_eq_false (show ¬ V.int (s : Nat) = V.int (lim : Nat) from fun z => hlm (by injection z with z; omega))]
                have hs : s ≤ lim := hs
                have hs1 : s + 1 ≤ lim := by omega
                refine iteF ⟨_, rfl, _, _, rfl, rfl, _, rfl, p, _, _, x1, rfl, rfl, SqT.of hp, atI_nat (j := 1) rfl, _, rfl, p, _, _, .ref d, rfl, rfl, SqT.of hp, atI_nat (j := 2) rfl, _, _, rfl, ?_⟩
                have es : (s : Int) + 1 = (s + 1 : Nat) := rfl
                refine ⟨_, rfl, _, _, rfl, r1.wt, _, rfl, ?_⟩
                cases e with
                | w z =>
                  have r1 : x1 = .str z := r1
                  subst r1
                  refine iteT ?_
                  have h1 : (match lk n z with
                    | some v => some (⟨s + 1, v :: Fd, Td⟩ : MSt)
                    | none => none) = some S1 := h1
                  cases hv : lk n z with
                  | none =>
                    rw [hv] at h1
                    cases h1
                  | some v =>
                    rw [hv] at h1
                    have h1 := Option.some.inj h1
                    subst h1
                    obtain ⟨kvs2, y, hd1, hv1, ry⟩ := en.val hv
                    have dg : DGet (upd H' tl (.lst ts.reverse)) d (.str z) (some y) := by
                      rw [← hv1]
                      exact DGet.k (k := .inr z) hd1
                    obtain ⟨xs, w1, w2, Z3⟩ := Z1.pushF ry
                    exact ⟨_, rfl, .inl ⟨rfl, _, SqL.of hfl1⟩, _, rfl, _, rfl, d, y, rfl, dg, fl, xs, _, rfl, rfl, w1, by omega, ⟨s + 1, v :: Fd, Td⟩, fl, _, _, _, _, _, _, _, _, _, _, rfl, Z3, Fv1, sm1, hs1⟩
                | nil => cases h1
                | cons eh et =>
                  cases eh with
                  | nil => cases h1
                  | cons _ _ => cases h1
                  | w k =>
                    refine iteF ?_
                    have h1 : evDo (.cons (.w k) et) n s Fd Td = some S1 := h1
                    obtain ⟨tx, yk, zs, rfl, tq, rk, rl⟩ := r1
                    have rk : yk = .str k := rk
                    subst rk
                    have tlh : upd H' tl (.lst ts.reverse) tl = some (.lst ts.reverse) := upd_same
                    refine ⟨_, rfl, tx, _, _, .str k, rfl, rfl, tq.seq, atI_nat (j := 0) rfl, rfl, _, rfl, ?_⟩
                    by_cases hq : k = "quote"
                    · subst hq
                      rw [dec_strT]
                      obtain ⟨v, rfl, rfl⟩ := evDo_quote h1
                      obtain ⟨y, zs, rfl, ry, rl⟩ := rl
                      obtain ⟨xs, w1, w2, Z3⟩ := Z1.pushF ry
                      refine iteT ?_
                      exact ⟨_, rfl, .inl ⟨rfl, _, SqL.of hfl1⟩, _, rfl, tx, _, _, y, rfl, rfl, tq.seq, atI_nat (j := 1) rfl, fl, xs, _, rfl, rfl, w1, by omega, ⟨s + 1, v :: Fd, Td⟩, fl, _, _, _, _, _, _, _, _, _, _, rfl, Z3, Fv1, sm1, hs1⟩
                    · rw [dec_str2 hq]
                      refine iteF ⟨_, rfl, tx, _, _, .str k, rfl, rfl, tq.seq, atI_nat (j := 0) rfl, rfl, _, rfl, ?_⟩
                      by_cases hif : k = "if"
                      · subst hif
                        rw [dec_strT]
                        obtain ⟨e1, e2, e3, rfl, rfl⟩ := evDo_if h1
                        obtain ⟨z1, zs, rfl, rz1, z2, zs, rfl, rz2, z3, zs, rfl, rz3, rl⟩ := rl
                        refine iteT ⟨_, rfl, .inl ⟨rfl, _, SqL.of tlh⟩, _, rfl, tx, _, _, z2, rfl, rfl, tq.seq, atI_nat (j := 2) rfl, _, rfl, tx, _, _, z3, rfl, rfl, tq.seq, atI_nat (j := 3) rfl, _, rfl, (by show 4 ≤ sizeLine; omega), fun q1 hq1 => ?_⟩
                        have s1 := Same.laid (o := HO.tup [V.str "if", z2, z3, .ref d]) hq1
                        have Z2 := Z1.same s1
                        obtain ⟨xs, w1, w2, Z3⟩ := Z2.pushT (t := .ite e2 e3 n) (v := .ref q1) ⟨q1, z2, z3, d, rfl, upd_same, rz2.keeps (Kq.same s1).1, rz3.keeps (Kq.same s1).1, en.keeps (Kq.same s1)⟩
                        refine ⟨tl, xs, _, rfl, rfl, w1, by omega, ?_⟩
                        have k3 := (Kq.same s1).trans (Kq.lst (ys := xs ++ [.ref q1]) w1)
                        obtain ⟨ts3, tlh3, _⟩ := Z3.t
                        refine ⟨_, rfl, .inl ⟨rfl, _, SqL.of tlh3⟩, _, rfl, tx, _, _, z1, rfl, rfl, (tq.keeps k3.1).seq, atI_nat (j := 1) rfl, _, rfl, (by show 3 ≤ sizeLine; omega), fun q2 hq2 => ?_⟩
                        have s2 := Same.laid (o := HO.tup [V.str "eval", z1, .ref d]) hq2
                        have Z4 := Z3.same s2
                        obtain ⟨xs4, w3, w4, Z5⟩ := Z4.pushT (t := .ev e1 n) (v := .ref q2) ⟨q2, z1, d, rfl, upd_same, (rz1.keeps k3.1).keeps (Kq.same s2).1, (en.keeps k3).keeps (Kq.same s2)⟩
                        have w4 : xs4.length = Td.length + 1 := w4
                        exact ⟨tl, xs4, _, rfl, rfl, w3, by omega, ⟨s + 1, Fd, .ev e1 n :: .ite e2 e3 n :: Td⟩, fl, _, _, _, _, _, _, _, _, _, _, rfl, Z5, Fv1, sm1, hs1⟩
                      · rw [dec_str2 hif]
                        obtain ⟨l12, rfl⟩ := evDo_other h1 hq hif
                        refine iteF ⟨_, rfl, tx, _, _, .str k, rfl, rfl, tq.seq, atI_nat (j := 0) rfl, (by show 5 ≤ sizeLine; omega), fun l hl => ?_⟩
                        have sl := Same.laid (o := HO.lst [V.str "same", .str "word", .str "head", .str "tail", .str "join"]) hl
                        have kl := Kq.same sl
                        have Z2 := Z1.same sl
                        refine ⟨l, _, rfl, .inl (SqL.of upd_same), rfl, rfl, _, rfl, ?_⟩
                        have e : (if false = true then !inV (.str k) [V.str "same", .str "word", .str "head", .str "tail", .str "join"] else inV (.str k) [V.str "same", .str "word", .str "head", .str "tail", .str "join"]) = decide (k ∈ plainW) := by
                          rw [if_neg Bool.false_ne_true, inV_plain]
                        rw [e]
                        refine iteB (fun hp => ?_) fun hp => ?_
                        · have hp := of_decide_eq_true hp
                          rw [if_pos hp] at Fv1 sm1
                          exact eval_end (K := K) (tk := .op k) Z2 (tq.keeps kl.1) (rl.keeps kl.1) (en.keeps kl) (fun H q hq => ⟨q, rfl, hq⟩) l12 (by omega) fun H3 y8 Z3 => ⟨⟨s + 1, Fd, et.items.map (Task.ev · n) ++ .op k :: Td⟩, fl, _, _, _, _, _, _, _, _, _, _, rfl, Z3, Fv1, sm1, hs1⟩
                        · have hp := of_decide_eq_false hp
                          rw [if_neg hp] at Fv1 sm1
                          exact eval_end (K := K) (tk := .call k et.items.length) Z2 (tq.keeps kl.1) (rl.keeps kl.1) (en.keeps kl) (fun H q hq => ⟨q, rfl, hq⟩) l12 (by omega) fun H3 y8 Z3 => ⟨⟨s + 1, Fd, et.items.map (Task.ev · n) ++ .call k et.items.length :: Td⟩, fl, _, _, _, _, _, _, _, _, _, _, rfl, Z3, Fv1, sm1, hs1⟩
        · rintro σ H' ⟨S, fl, y4, y5, y6, y7, y8, y12, y13, y14, y15, y16, rfl, Z, Fv, sm, hs⟩
          exact ⟨(by show 1 ≤ sizeLine; omega), fun q hq => k' _ q upd_same (Z.fr.trans (Same.laid hq))⟩
end
end OgW
/-! OgCk: the law's programs are good and small. -/
namespace OgW
open PySem PySem.Spec PyProof.Rows L2 OgD Og OgT
def nmB (x : Str) : Bool := decide (x.length ≤ 100) && (match x.cps.toList[0]? with
  | some c => decide (Str.mk #[c] ≠ "f") || (decide (cutS x (some 1) none ≠ "") && decide (Txt.stripChars (cutS x (some 1) none) "0123456789" ≠ ""))
  | none => false)
theorem nmB_ok {x : Str} (h : nmB x = true) : nmOk x := by
  unfold nmB at h
  obtain ⟨h1, h2⟩ := Bool.and_eq_true_iff.mp h
  refine ⟨of_decide_eq_true h1, ?_⟩
  split at h2
  · rename_i c e
    refine ⟨c, e, ?_⟩
    rcases Bool.or_eq_true_iff.mp h2 with h2 | h2
    · exact .inl (of_decide_eq_true h2)
    · obtain ⟨h3, h4⟩ := Bool.and_eq_true_iff.mp h2
      exact .inr ⟨of_decide_eq_true h3, of_decide_eq_true h4⟩
  · cases h2
def namesB (l : List Str) : Bool := decide l.Nodup && (l.all fun x => decide (x ∉ SPW.map (·.1)) && nmB x)
def pssB (l : List (List Str)) : Bool := l.all fun ps => decide ps.Nodup && (decide (ps.length ≤ 12) && ps.all fun p => decide (p ∉ SPW.map (·.1)))
theorem body_size {g : Fn} : ∀ {P : List Fn}, g ∈ P → g.body.size ≤ (encP P).size
  | [], h => by cases h
  | a :: P, h => by
    have e : (encP (a :: P)).size = (encF a).size + (encP P).size + 1 := rfl
    rcases List.mem_cons.mp h with rfl | h
    · have e2 : (encF g).size = 1 + ((listV (g.ps.map .w)).size + (g.body.size + 1 + 1) + 1) + 1 := rfl
      omega
    · have := body_size h
      omega
theorem CkP.of {P : List Fn} (names : List Str) (pss : List (List Str)) (hn : P.map (·.name) = names) (hp : P.map (·.ps) = pss) (b : namesB names = true) (c : pssB pss = true) (ne : P ≠ []) (len : P.length ≤ 1000) (bd : (P.all fun g => fitsB P g.ps g.body) = true) (sz : (encP P).size ≤ 50000) : CkP P := by
  subst hn hp
  obtain ⟨b1, b2⟩ := Bool.and_eq_true_iff.mp b
  have b2 := List.all_eq_true.mp b2
  have c := List.all_eq_true.mp c
  have bd := List.all_eq_true.mp bd
  refine ⟨ne, len, of_decide_eq_true b1, fun g hg => ?_, fun g hg => ?_, fun g hg => ?_, fun g hg => ⟨bd g hg, ?_⟩⟩
  · exact of_decide_eq_true (Bool.and_eq_true_iff.mp (b2 _ (List.mem_map_of_mem hg))).1
  · exact nmB_ok (Bool.and_eq_true_iff.mp (b2 _ (List.mem_map_of_mem hg))).2
  · obtain ⟨c1, c2⟩ := Bool.and_eq_true_iff.mp (c _ (List.mem_map_of_mem (f := (·.ps)) hg))
    obtain ⟨c2, c3⟩ := Bool.and_eq_true_iff.mp c2
    exact ⟨of_decide_eq_true c1, of_decide_eq_true c2, fun p hp => of_decide_eq_true (List.all_eq_true.mp c3 p hp)⟩
  · have := body_size hg
    omega
/-- the law's program by its kind -/
inductive LawP : List Fn → Prop
  | k0 (w : Val) (h : VD 1 w) : LawP (K0 w)
  | k1 (w : Val) (h : VD 1 w) : LawP (K1 w)
  | k2 (w : Val) (h : VD 1 w) : LawP (K2 w)
  | k3 (w : Val) (h : VD 1 w) : LawP (K3 w)
  | k4 : LawP K4
theorem size1 {w : Val} (h : VD 1 w) : w.size ≤ 7 := h.size
theorem LawP.size {P : List Fn} (h : LawP P) : (encP P).size ≤ 1000 := by
  cases h with
  | k4 => decide +kernel
  | k0 w h =>
    have := size1 h
    simp only [encP, K0, List.map, encF, listV, Val.size, lw]
    omega
  | k1 w h =>
    have := size1 h
    simp only [encP, K1, List.map, encF, listV, Val.size, lw]
    omega
  | k2 w h =>
    have := size1 h
    simp only [encP, K2, List.map, encF, listV, Val.size, lw]
    omega
  | k3 w h =>
    have := size1 h
    simp only [encP, K3, List.map, encF, listV, Val.size, lw]
    omega
theorem LawP.ck {P : List Fn} (h : LawP P) : CkP P := by
  have sz := h.size
  cases h with
  | k0 w h => exact CkP.of ["main"] [["x"]] rfl rfl (by decide +kernel) (by decide +kernel) (fun z => by cases z) (by show 1 ≤ 1000; omega) rfl (by omega)
  | k1 w h => exact CkP.of ["main", "one", "two"] [["x"], ["x", "y"], ["x", "y"]] rfl rfl (by decide +kernel) (by decide +kernel) (fun z => by cases z) (by show 3 ≤ 1000; omega) rfl (by omega)
  | k2 w h => exact CkP.of ["main", "down"] [["x"], ["x"]] rfl rfl (by decide +kernel) (by decide +kernel) (fun z => by cases z) (by show 2 ≤ 1000; omega) rfl (by omega)
  | k3 w h => exact CkP.of ["main", "turn"] [["x"], ["x", "y"]] rfl rfl (by decide +kernel) (by decide +kernel) (fun z => by cases z) (by show 2 ≤ 1000; omega) rfl (by omega)
  | k4 => exact CkP.of ["main"] [["x"]] rfl rfl (by decide +kernel) (by decide +kernel) (fun z => by cases z) (by show 1 ≤ 1000; omega) rfl (by omega)
theorem uni_size : (encP UNI).size ≤ 5000 := by decide +kernel
theorem uni_ck : CkP UNI := by
  have sz := uni_size
  exact CkP.of (UNI.map (·.name)) (UNI.map (·.ps)) rfl rfl (by decide +kernel) (by decide +kernel) (fun z => by cases z) (by decide +kernel) (by decide +kernel) (by omega)
theorem VD.good {d : Nat} {v : Val} (h : VD d v) : good 25 v := by
  have sh : ∀ {l : List Val}, (∀ x ∈ l, Og.good 25 x) → l.length ≤ 25 → Og.good 25 (listV l) := fun {l} => by
    induction l with
    | nil => exact fun _ _ => True.intro
    | cons a l ih =>
      intro g hl
      have hl : l.length + 1 ≤ 25 := hl
      exact ⟨g a List.mem_cons_self, ih (fun x m => g x (List.mem_cons_of_mem _ m)) (by omega), by rw [items_listV]; exact hl⟩
  induction h with
  | w d o m =>
    have : ∀ o ∈ menu, wok o = true := by decide +kernel
    exact this o m
  | l d l h3 h ih => exact sh ih (by omega)
theorem LawP.good {P : List Fn} (h : LawP P) : ∀ g ∈ P, Og.good 25 g.body := by
  have wk : ∀ x ∈ (["main", "x", "join", "quote", "one", "y", "if", "same", "two", "down", "tail", "turn", "head"] : List Str), wok x = true := by decide +kernel
  have w1 := wk "main" (by decide)
  have w2 := wk "x" (by decide)
  have w3 := wk "join" (by decide)
  have w4 := wk "quote" (by decide)
  have w5 := wk "one" (by decide)
  have w6 := wk "y" (by decide)
  have w7 := wk "if" (by decide)
  have w8 := wk "same" (by decide)
  have w9 := wk "two" (by decide)
  have w10 := wk "down" (by decide)
  have w11 := wk "tail" (by decide)
  have w12 := wk "turn" (by decide)
  have w13 := wk "head" (by decide)
  cases h with
  | k0 w h =>
    have := h.good
    intro g hg
    simp only [K0, List.mem_cons, List.not_mem_nil, or_false] at hg
    subst hg
    simp [listV, lw, Og.good, Val.items, *]
  | k1 w h =>
    have := h.good
    intro g hg
    simp only [K1, List.mem_cons, List.not_mem_nil, or_false] at hg
    rcases hg with rfl | rfl | rfl <;> simp [listV, lw, Og.good, Val.items, *]
  | k2 w h =>
    have := h.good
    intro g hg
    simp only [K2, List.mem_cons, List.not_mem_nil, or_false] at hg
    rcases hg with rfl | rfl <;> simp [listV, lw, Og.good, Val.items, *]
  | k3 w h =>
    have := h.good
    intro g hg
    simp only [K3, List.mem_cons, List.not_mem_nil, or_false] at hg
    rcases hg with rfl | rfl <;> simp [listV, lw, Og.good, Val.items, *]
  | k4 =>
    intro g hg
    simp only [K4, List.mem_cons, List.not_mem_nil, or_false] at hg
    subst hg
    simp [listV, lw, Og.good, Val.items, *]
/-- what each program comes to -/
theorem LawP.kind {P : List Fn} (h : LawP P) : ∃ g0 r k a b, P = g0 :: r ∧ g0.name = "main" ∧ g0.ps.length = 1 ∧ g0.body = .cons (.w k) (.cons a b) ∧ k ≠ "quote" ∧ k ≠ "if" ∧ b.items.length ≤ 11 ∧ ((k = "main" ∧ ∀ v, VD 2 v → Res P true v) ∨ (k ≠ "main" ∧ ∀ v, VD 2 v → Res P false v)) := by
  cases h with
  | k0 w h => exact ⟨_, _, _, _, _, rfl, rfl, rfl, rfl, by decide +kernel, by decide +kernel, by show 1 ≤ 11; omega, .inr ⟨by decide +kernel, fun v hv => res0 (hv.sm (by decide)) (h.sm (by decide))⟩⟩
  | k1 w h => exact ⟨_, _, _, _, _, rfl, rfl, rfl, rfl, by decide +kernel, by decide +kernel, by show 1 ≤ 11; omega, .inr ⟨by decide +kernel, fun v hv => res1 (hv.sm (by decide)) (h.sm (by decide))⟩⟩
  | k2 w h => exact ⟨_, _, _, _, _, rfl, rfl, rfl, rfl, by decide +kernel, by decide +kernel, by show 0 ≤ 11; omega, .inr ⟨by decide +kernel, fun v hv => res2 (hv.sm (by decide)) (h.sm (by decide))⟩⟩
  | k3 w h => exact ⟨_, _, _, _, _, rfl, rfl, rfl, rfl, by decide +kernel, by decide +kernel, by show 1 ≤ 11; omega, .inr ⟨by decide +kernel, fun v hv => res3 (hv.sm (by decide)) (h.sm (by decide))⟩⟩
  | k4 => exact ⟨_, _, _, _, _, rfl, rfl, rfl, rfl, by decide +kernel, by decide +kernel, by show 0 ≤ 11; omega, .inl ⟨rfl, fun v hv => res4⟩⟩
theorem uni_main : ∃ g0 r, UNI = g0 :: r ∧ g0.name = "main" ∧ g0.ps.length = 2 := ⟨_, _, rfl, rfl, rfl⟩
/-- the first function, and no call at step 2 -/
theorem LawP.main {P : List Fn} (h : LawP P) : ∃ g0 r, P = g0 :: r ∧ g0.name = "main" ∧ g0.ps.length = 1 := by
  cases h <;> exact ⟨_, _, rfl, rfl, rfl⟩
end OgW
/-! OgL7: _law_endless. Printed by gen_l7.py. -/
namespace OgW
open PySem PySem.Spec PyProof.Rows L2 OgD Og OgT
/-- an expression makes a value -/
def EvV (K : PySem.W.Frag) (t : TE) (σ : L2.St) (Hb : Hp) (v : Val) : Prop := ∀ (H : Hp) (Q : VK), Same Hb H → (∀ H' x, Same H H' → RepV K H' v x → Q x H') → t σ H Q
def EvVs (K : PySem.W.Frag) (t : TA) (σ : L2.St) (Hb : Hp) (l : List Val) : Prop := ∀ (H : Hp) (Q : List V → Hp → Prop), Same Hb H → (∀ H' xs, Same H H' → Paired (fun v x => RepV K H' v x) l xs → Q xs H') → t σ H Q
section
variable {K : PySem.W.Frag} {σ : L2.St} {Hb : Hp}
theorem EvV.str {z : Str} : EvV K (tC (.str z)) σ Hb (.w z) := fun H Q s k => k H (.str z) (Same.refl H) rfl
theorem EvV.var {i : Nat} {x : V} {v : Val} (h : σ[i]? = some (some x)) (r : RepV K Hb v x) : EvV K (tVar i) σ Hb v := fun H Q s k => ⟨x, h, k H x (Same.refl H) (r.keeps fun a xs e => s a _ e)⟩
theorem EvVs.nil : EvVs K tNil σ Hb [] := fun H Q s k => k H [] (Same.refl H) .nil
theorem EvVs.cons {t : TE} {ts : TA} {v : Val} {l : List Val} (h : EvV K t σ Hb v) (hs : EvVs K ts σ Hb l) : EvVs K (tCons t ts) σ Hb (v :: l) := fun H Q s k =>
  h H _ s fun H1 x s1 r => hs H1 _ (s.trans s1) fun H2 xs s2 rs => k H2 (x :: xs) (s1.trans s2) (.cons (r.keeps fun a xs e => s2 a _ e) rs)
theorem EvV.tup {ts : TA} {l : List Val} (hs : EvVs K ts σ Hb l) (hl : l.length ≤ 100) : EvV K (tTup ts) σ Hb (listV l) := fun H Q s k =>
  hs H _ s fun H1 xs s1 rs => ⟨by have := line6; have := Paired.length rs; omega, fun p hp => k _ (.ref p) (s1.trans (Same.laid hp)) (RepV.of (.inl upd_same) (RepL.of (Paired.mapP rs fun _ _ z => z.keeps fun a xs e => Same.laid hp _ _ e)))⟩
theorem EvV.asg {t : TE} {v : Val} {i : Nat} {rest : TS} {D : Ends} {H : Hp} (h : EvV K t σ Hb v) (s : Same Hb H) (k : ∀ H' x, Same H H' → RepV K H' v x → rest D (σ.set i (some x)) H') : (tSeq (tAsg t (gName i)) rest) D σ H := h H _ s fun H' x s r => k H' x s r
theorem EvV.ret {t : TE} {v : Val} {D : Ends} {H : Hp} (h : EvV K t σ Hb v) (s : Same Hb H) (k : ∀ H' x, Same H H' → RepV K H' v x → D.rt x H') : (tRet t) D σ H := h H _ s fun H' x s r => k H' x s r
end
section
variable {P : Program} {w : World} {K : PySem.W.Frag} {mg : Str → Option Value} {base : Heap}
def spEnd (K : PySem.W.Frag) : Sp := fun vs H Q _ => ∃ (h dl : Addr) (ds : List Int) (n : Nat), vs = [.ref h] ∧ HandAt H h dl ds n ∧
  ∀ (H' : Hp) (Pf : List Fn) (x : V) (n' : Nat), LawP Pf → RepV K H' (encP Pf) x → HandAt H' h dl ds n' → KpH h H H' → Q x H'
theorem sc_lend : FnScope ["_law_hand", "_law_word", "_law_kind", "_law_one", "_law_down", "_law_turn"] ["_law_hand"] (defScope s_law_endless) := ⟨rfl, rfl, rfl, by decide +kernel, rfl, by decide +kernel, by decide +kernel⟩
theorem ok_lend {f : Addr} {fd : FuncData} (F : FnS K s_law_endless "_law_endless" "_law_endless" f fd) (T : Txt K mg) (gT : Glob P w K mg base "_law_take" 1 ["_law_hand", "_law_many"] spTake) (gV : Glob P w K mg base "_law_value" 3 ["_law_hand", "_law_depth"] (spVal K 1)) : FnOk P w K mg base CX0 4 f fd ["_law_hand"] (spEnd K) := by
  obtain ⟨fT, fdT, GT, mT, kT, bT⟩ := gT
  obtain ⟨fV, fdV, GV, mV, kV, bV⟩ := gV
  refine ok0 F sc_lend (fun vs H Q E h => ?_) (fun cdv A0 outer s0 H vs Q E0 hr h => ?_)
  · obtain ⟨h, dl, ds, n, rfl, _⟩ := h
    rfl
  · obtain ⟨h, dl, ds, n, rfl, Z, k⟩ := h
    refine ⟨_, (pss_cons (ps_set (i := 1) sc_lend.nd rfl (.inl rfl) (pe_call GV hr (by rfl) mV kV bV .nil pass0 (pa_cons (pv 0) (pa_cons pe_int pa_nil))))
 (pss_cons (ps_set (i := 2) sc_lend.nd rfl (.inl rfl) (pe_call GT (hr.mono (by decide)) (by rfl) mT kT bT .nil pass0 (pa_cons (pv 0) (pa_cons pe_int pa_nil))))
 (pss_cons (ps_if (pt_cmpR op_eq (pv 2) pe_int (nomark _))
 (pss_one (ps_ret (pe_tup (pa_cons (pe_tup (pa_cons pe_str (pa_cons (pe_tup (pa_cons pe_str pa_nil)) (pa_cons (pe_tup (pa_cons pe_str (pa_cons (pe_tup (pa_cons pe_str (pa_cons (pv 1) pa_nil))) (pa_cons (pe_tup (pa_cons pe_str (pa_cons pe_str pa_nil))) pa_nil)))) pa_nil)))) pa_nil))))
 pss_nil)
 (pss_cons (ps_if (pt_cmpR op_eq (pv 2) pe_int (nomark _))
 (pss_cons (ps_set (i := 3) sc_lend.nd rfl (.inl rfl) (pe_tup (pa_cons pe_str (pa_cons (pe_tup (pa_cons pe_str (pa_cons pe_str pa_nil))) (pa_cons (pe_tup (pa_cons pe_str (pa_cons (pe_tup (pa_cons pe_str (pa_cons pe_str (pa_cons pe_str pa_nil)))) (pa_cons (pe_tup (pa_cons pe_str (pa_cons pe_str (pa_cons pe_str pa_nil)))) (pa_cons (pe_tup (pa_cons pe_str (pa_cons pe_str (pa_cons pe_str pa_nil)))) pa_nil))))) pa_nil)))))
 (pss_one (ps_ret (pe_tup (pa_cons (pe_tup (pa_cons pe_str (pa_cons (pe_tup (pa_cons pe_str pa_nil)) (pa_cons (pe_tup (pa_cons pe_str (pa_cons pe_str (pa_cons (pe_tup (pa_cons pe_str (pa_cons (pv 1) pa_nil))) pa_nil)))) pa_nil)))) (pa_cons (pv 3) (pa_cons (pe_tup (pa_cons pe_str (pa_cons (pe_tup (pa_cons pe_str (pa_cons pe_str pa_nil))) (pa_cons (pe_tup (pa_cons pe_str (pa_cons pe_str (pa_cons pe_str pa_nil)))) pa_nil)))) pa_nil)))))))
 pss_nil)
 (pss_cons (ps_if (pt_cmpR op_eq (pv 2) pe_int (nomark _))
 (pss_cons (ps_set (i := 4) sc_lend.nd rfl (.inl rfl) (pe_tup (pa_cons pe_str (pa_cons (pe_tup (pa_cons pe_str pa_nil)) (pa_cons (pe_tup (pa_cons pe_str (pa_cons pe_str (pa_cons (pe_tup (pa_cons pe_str (pa_cons (pe_tup (pa_cons pe_str (pa_cons pe_str pa_nil))) pa_nil))) (pa_cons (pe_tup (pa_cons pe_str (pa_cons (pe_tup (pa_cons pe_str (pa_cons (pv 1) pa_nil))) pa_nil))) pa_nil))))) pa_nil)))))
 (pss_one (ps_ret (pe_tup (pa_cons (pe_tup (pa_cons pe_str (pa_cons (pe_tup (pa_cons pe_str pa_nil)) (pa_cons (pe_tup (pa_cons pe_str (pa_cons pe_str pa_nil))) pa_nil)))) (pa_cons (pv 4) pa_nil))))))
 pss_nil)
 (pss_cons (ps_if (pt_cmpR op_eq (pv 2) pe_int (nomark _))
 (pss_cons (ps_set (i := 5) sc_lend.nd rfl (.inl rfl) (pe_tup (pa_cons pe_str (pa_cons (pe_tup (pa_cons pe_str (pa_cons pe_str pa_nil))) (pa_cons (pe_tup (pa_cons pe_str (pa_cons (pe_tup (pa_cons pe_str (pa_cons pe_str (pa_cons pe_str pa_nil)))) pa_nil))) pa_nil)))))
 (pss_one (ps_ret (pe_tup (pa_cons (pe_tup (pa_cons pe_str (pa_cons (pe_tup (pa_cons pe_str pa_nil)) (pa_cons (pe_tup (pa_cons pe_str (pa_cons pe_str (pa_cons (pe_tup (pa_cons pe_str (pa_cons (pv 1) pa_nil))) pa_nil)))) pa_nil)))) (pa_cons (pv 5) pa_nil))))))
 pss_nil)
 (pss_one (ps_ret (pe_tup (pa_cons (pe_tup (pa_cons pe_str (pa_cons (pe_tup (pa_cons pe_str pa_nil)) (pa_cons (pe_tup (pa_cons pe_str (pa_cons (pe_tup (pa_cons pe_str (pa_cons pe_str (pa_cons pe_str pa_nil)))) pa_nil))) pa_nil)))) pa_nil)))))))))), ?_⟩
    have l6 := line6
    refine ⟨_, rfl, h, dl, ds, n, rfl, Z, fun H1 wv xw n1 vd rw1 Z1 K1 => ⟨_, rfl, h, dl, ds, n1, 5, rfl, Z1, by decide, fun r hr5 => ?_⟩⟩
    have Z2 : HandAt (upd H1 h (.lst [.ref dl, .int (n1 + 1 : Nat)])) h dl ds (n1 + 1) := Z1.next
    have K12 : KpH h H (upd H1 h (.lst [.ref dl, .int (n1 + 1 : Nat)])) := K1.trans KpH.upd
    have rw2 := rw1.keeps (kt_lst (ys := [.ref dl, .int (n1 + 1 : Nat)]) Z1.1)
    have fin : ∀ (H' : Hp) (x : V) (Pf : List Fn), LawP Pf → RepV K H' (encP Pf) x → Same (upd H1 h (.lst [.ref dl, .int (n1 + 1 : Nat)])) H' → Q x H' := fun H' x Pf lp rp s => k H' Pf x _ lp rp (Z2.same s) (K12.trans (KpH.same s))
    refine ⟨_, rfl, rfl, _, rfl, ?_⟩
    by_cases h0 : r = 0
    · subst h0
      rw [decide_eq_true (show V.int ((0 : Nat) : Int) = V.int (0 : Int) from rfl)]
      refine iteT ?_
      exact EvV.ret (K := K) (EvV.tup (EvVs.cons (EvV.tup (EvVs.cons EvV.str (EvVs.cons (EvV.tup (EvVs.cons EvV.str EvVs.nil) (Nat.le_of_ble_eq_true rfl)) (EvVs.cons (EvV.tup (EvVs.cons EvV.str (EvVs.cons (EvV.tup (EvVs.cons EvV.str (EvVs.cons (EvV.var (v := wv) rfl rw2) EvVs.nil)) (Nat.le_of_ble_eq_true rfl)) (EvVs.cons (EvV.tup (EvVs.cons EvV.str (EvVs.cons EvV.str EvVs.nil)) (Nat.le_of_ble_eq_true rfl)) EvVs.nil))) (Nat.le_of_ble_eq_true rfl)) EvVs.nil))) (Nat.le_of_ble_eq_true rfl)) EvVs.nil) (Nat.le_of_ble_eq_true rfl)) (Same.refl _) fun H' x s r => fin H' x _ (.k0 wv vd) r s
    · rw [decide_eq_false (show ¬ V.int (r : Nat) = V.int 0 from fun z => h0 (by injection z with z; omega))]
      refine iteF ?_
      refine ⟨_, rfl, rfl, _, rfl, ?_⟩
      by_cases h1 : r = 1
      · subst h1
        rw [decide_eq_true (show V.int ((1 : Nat) : Int) = V.int (1 : Int) from rfl)]
        refine iteT ?_
        refine EvV.asg (K := K) (EvV.tup (EvVs.cons EvV.str (EvVs.cons (EvV.tup (EvVs.cons EvV.str (EvVs.cons EvV.str EvVs.nil)) (Nat.le_of_ble_eq_true rfl)) (EvVs.cons (EvV.tup (EvVs.cons EvV.str (EvVs.cons (EvV.tup (EvVs.cons EvV.str (EvVs.cons EvV.str (EvVs.cons EvV.str EvVs.nil))) (Nat.le_of_ble_eq_true rfl)) (EvVs.cons (EvV.tup (EvVs.cons EvV.str (EvVs.cons EvV.str (EvVs.cons EvV.str EvVs.nil))) (Nat.le_of_ble_eq_true rfl)) (EvVs.cons (EvV.tup (EvVs.cons EvV.str (EvVs.cons EvV.str (EvVs.cons EvV.str EvVs.nil))) (Nat.le_of_ble_eq_true rfl)) EvVs.nil)))) (Nat.le_of_ble_eq_true rfl)) EvVs.nil))) (Nat.le_of_ble_eq_true rfl)) (Same.refl _) fun H' x s r => ?_
        exact EvV.ret (K := K) (EvV.tup (EvVs.cons (EvV.tup (EvVs.cons EvV.str (EvVs.cons (EvV.tup (EvVs.cons EvV.str EvVs.nil) (Nat.le_of_ble_eq_true rfl)) (EvVs.cons (EvV.tup (EvVs.cons EvV.str (EvVs.cons EvV.str (EvVs.cons (EvV.tup (EvVs.cons EvV.str (EvVs.cons (EvV.var (v := wv) rfl (rw2.keeps fun a xs e => s a _ e)) EvVs.nil)) (Nat.le_of_ble_eq_true rfl)) EvVs.nil))) (Nat.le_of_ble_eq_true rfl)) EvVs.nil))) (Nat.le_of_ble_eq_true rfl)) (EvVs.cons (EvV.var rfl r) (EvVs.cons (EvV.tup (EvVs.cons EvV.str (EvVs.cons (EvV.tup (EvVs.cons EvV.str (EvVs.cons EvV.str EvVs.nil)) (Nat.le_of_ble_eq_true rfl)) (EvVs.cons (EvV.tup (EvVs.cons EvV.str (EvVs.cons EvV.str (EvVs.cons EvV.str EvVs.nil))) (Nat.le_of_ble_eq_true rfl)) EvVs.nil))) (Nat.le_of_ble_eq_true rfl)) EvVs.nil))) (Nat.le_of_ble_eq_true rfl)) (Same.refl _) fun H2 x2 s2 r2 => fin H2 x2 _ (.k1 wv vd) r2 (s.trans s2)
      · rw [decide_eq_false (show ¬ V.int (r : Nat) = V.int 1 from fun z => h1 (by injection z with z; omega))]
        refine iteF ?_
        refine ⟨_, rfl, rfl, _, rfl, ?_⟩
        by_cases h2 : r = 2
        · subst h2
          rw [decide_eq_true (show V.int ((2 : Nat) : Int) = V.int (2 : Int) from rfl)]
          refine iteT ?_
          refine EvV.asg (K := K) (EvV.tup (EvVs.cons EvV.str (EvVs.cons (EvV.tup (EvVs.cons EvV.str EvVs.nil) (Nat.le_of_ble_eq_true rfl)) (EvVs.cons (EvV.tup (EvVs.cons EvV.str (EvVs.cons EvV.str (EvVs.cons (EvV.tup (EvVs.cons EvV.str (EvVs.cons (EvV.tup (EvVs.cons EvV.str (EvVs.cons EvV.str EvVs.nil)) (Nat.le_of_ble_eq_true rfl)) EvVs.nil)) (Nat.le_of_ble_eq_true rfl)) (EvVs.cons (EvV.tup (EvVs.cons EvV.str (EvVs.cons (EvV.tup (EvVs.cons EvV.str (EvVs.cons (EvV.var (v := wv) rfl rw2) EvVs.nil)) (Nat.le_of_ble_eq_true rfl)) EvVs.nil)) (Nat.le_of_ble_eq_true rfl)) EvVs.nil)))) (Nat.le_of_ble_eq_true rfl)) EvVs.nil))) (Nat.le_of_ble_eq_true rfl)) (Same.refl _) fun H' x s r => ?_
          exact EvV.ret (K := K) (EvV.tup (EvVs.cons (EvV.tup (EvVs.cons EvV.str (EvVs.cons (EvV.tup (EvVs.cons EvV.str EvVs.nil) (Nat.le_of_ble_eq_true rfl)) (EvVs.cons (EvV.tup (EvVs.cons EvV.str (EvVs.cons EvV.str EvVs.nil)) (Nat.le_of_ble_eq_true rfl)) EvVs.nil))) (Nat.le_of_ble_eq_true rfl)) (EvVs.cons (EvV.var rfl r) EvVs.nil)) (Nat.le_of_ble_eq_true rfl)) (Same.refl _) fun H2 x2 s2 r2 => fin H2 x2 _ (.k2 wv vd) r2 (s.trans s2)
        · rw [decide_eq_false (show ¬ V.int (r : Nat) = V.int 2 from fun z => h2 (by injection z with z; omega))]
          refine iteF ?_
          refine ⟨_, rfl, rfl, _, rfl, ?_⟩
          by_cases h3 : r = 3
          · subst h3
            rw [decide_eq_true (show V.int ((3 : Nat) : Int) = V.int (3 : Int) from rfl)]
            refine iteT ?_
            refine EvV.asg (K := K) (EvV.tup (EvVs.cons EvV.str (EvVs.cons (EvV.tup (EvVs.cons EvV.str (EvVs.cons EvV.str EvVs.nil)) (Nat.le_of_ble_eq_true rfl)) (EvVs.cons (EvV.tup (EvVs.cons EvV.str (EvVs.cons (EvV.tup (EvVs.cons EvV.str (EvVs.cons EvV.str (EvVs.cons EvV.str EvVs.nil))) (Nat.le_of_ble_eq_true rfl)) EvVs.nil)) (Nat.le_of_ble_eq_true rfl)) EvVs.nil))) (Nat.le_of_ble_eq_true rfl)) (Same.refl _) fun H' x s r => ?_
            exact EvV.ret (K := K) (EvV.tup (EvVs.cons (EvV.tup (EvVs.cons EvV.str (EvVs.cons (EvV.tup (EvVs.cons EvV.str EvVs.nil) (Nat.le_of_ble_eq_true rfl)) (EvVs.cons (EvV.tup (EvVs.cons EvV.str (EvVs.cons EvV.str (EvVs.cons (EvV.tup (EvVs.cons EvV.str (EvVs.cons (EvV.var (v := wv) rfl (rw2.keeps fun a xs e => s a _ e)) EvVs.nil)) (Nat.le_of_ble_eq_true rfl)) EvVs.nil))) (Nat.le_of_ble_eq_true rfl)) EvVs.nil))) (Nat.le_of_ble_eq_true rfl)) (EvVs.cons (EvV.var rfl r) EvVs.nil)) (Nat.le_of_ble_eq_true rfl)) (Same.refl _) fun H2 x2 s2 r2 => fin H2 x2 _ (.k3 wv vd) r2 (s.trans s2)
          · rw [decide_eq_false (show ¬ V.int (r : Nat) = V.int 3 from fun z => h3 (by injection z with z; omega))]
            refine iteF ?_
            dsimp only [tNext]
            exact EvV.ret (K := K) (EvV.tup (EvVs.cons (EvV.tup (EvVs.cons EvV.str (EvVs.cons (EvV.tup (EvVs.cons EvV.str EvVs.nil) (Nat.le_of_ble_eq_true rfl)) (EvVs.cons (EvV.tup (EvVs.cons EvV.str (EvVs.cons (EvV.tup (EvVs.cons EvV.str (EvVs.cons EvV.str (EvVs.cons EvV.str EvVs.nil))) (Nat.le_of_ble_eq_true rfl)) EvVs.nil)) (Nat.le_of_ble_eq_true rfl)) EvVs.nil))) (Nat.le_of_ble_eq_true rfl)) EvVs.nil) (Nat.le_of_ble_eq_true rfl)) (Same.refl _) fun H' x s r => fin H' x _ (.k4) r s
end
end OgW
/-! OgL8: law. -/
namespace OgW
open PySem PySem.Spec PyProof.Rows L2 OgD Og OgT
section
variable {P : Program} {w : World} {K : PySem.W.Frag} {mg : Str → Option Value} {base : Heap}
def spLaw (K : PySem.W.Frag) : Sp := fun vs H Q _ => ∃ (s : Addr) (xs : List Int), vs = [.ref s] ∧ SqL K H s (xs.map .int) ∧ xs.length ≤ 63 ∧ ∀ H', Q (.bl true) H'
theorem sc_law : FnScope ["_law_script", "_law_hand", "_law_program", "_law_value_here", "_law_limit", "_law_seen", "_law_through"] ["_law_script"] (defScope s_law) := ⟨rfl, rfl, rfl, by decide +kernel, rfl, by decide +kernel, by decide +kernel⟩
theorem ok_law {f : Addr} {fd : FuncData} (F : FnS K s_law "law" "law" f fd) (T : Txt K mg) (hU : ∀ H, RepV K H (encP UNI) (.ref (He.ga K "UNIVERSAL")))
    (gA : Glob P w K mg base "_law_draws" 1 ["_law_script", "_law_many"] (spDraws K)) (gT : Glob P w K mg base "_law_take" 1 ["_law_hand", "_law_many"] spTake) (gV : Glob P w K mg base "_law_value" 4 ["_law_hand", "_law_depth"] (spVal K 2)) (gE : Glob P w K mg base "_law_endless" 4 ["_law_hand"] (spEnd K))
    (gU : Glob P w K mg base "_law_run" 2 ["_law_program", "_law_inputs", "_law_limit"] (spLRun K)) (gR : Glob P w K mg base "run_program" 7 ["program", "inputs", "limit"] (spRP K)) (gW : Glob P w K mg base "watch_program" 7 ["program", "inputs", "limit"] (spWP K)) (gN : Glob P w K mg base "check_never" 7 ["program", "inputs", "paper"] (spCN K)) (gI : Glob P w K mg base "universal" 1 [] (spUni K)) :
    FnOk P w K mg base CX0 8 f fd ["_law_script"] (spLaw K) := by
  obtain ⟨fA, fdA, GA, mA, kA, bA⟩ := gA
  obtain ⟨fT, fdT, GT, mT, kT, bT⟩ := gT
  obtain ⟨fV, fdV, GV, mV, kV, bV⟩ := gV
  obtain ⟨fE, fdE, GE, mE, kE, bE⟩ := gE
  obtain ⟨fU, fdU, GU, mU, kU, bU⟩ := gU
  obtain ⟨fR, fdR, GR, mR, kR, bR⟩ := gR
  obtain ⟨fW, fdW, GW, mW, kW, bW⟩ := gW
  obtain ⟨fN, fdN, GN, mN, kN, bN⟩ := gN
  obtain ⟨fI, fdI, GI, mI, kI, bI⟩ := gI
  refine ok0 F sc_law (fun vs H Q E h => ?_) (fun cdv A0 outer s0 H vs Q E0 hr h => ?_)
  · obtain ⟨s, xs, rfl, _⟩ := h
    rfl
  · obtain ⟨s, xs, rfl, hs, lx, k'⟩ := h
    refine ⟨_, (pss_cons (ps_set (i := 1) sc_law.nd rfl (.inl rfl) (pe_lst (pa_cons (pe_call GA (hr.mono (by decide)) (by rfl) mA kA bA .nil pass0 (pa_cons (pv 0) (pa_cons pe_int pa_nil))) (pa_cons pe_int pa_nil))))
 (pss_cons (ps_set (i := 2) sc_law.nd rfl (.inl rfl) (pe_call GE (hr.mono (by decide)) (by rfl) mE kE bE .nil pass0 (pa_cons (pv 1) pa_nil)))
 (pss_cons (ps_set (i := 3) sc_law.nd rfl (.inl rfl) (pe_call GV (hr.mono (by decide)) (by rfl) mV kV bV .nil pass0 (pa_cons (pv 1) (pa_cons pe_int pa_nil))))
 (pss_cons (ps_set (i := 4) sc_law.nd rfl (.inl rfl) (pe_op op_add pe_int (pe_call GT (hr.mono (by decide)) (by rfl) mT kT bT .nil pass0 (pa_cons (pv 1) (pa_cons pe_int pa_nil)))))
 (pss_cons (ps_if (pt_cmpR op_ne (pe_fld (pe_call GR hr (by rfl) mR kR bR .nil pass0 (pa_cons (pv 2) (pa_cons (pe_lst (pa_cons (pv 3) pa_nil)) (pa_cons (pv 4) pa_nil)))) rfl) pe_str (nomark _))
 (pss_one (ps_ret pe_bl))
 pss_nil)
 (pss_cons (ps_if (pt_cmpR (op_neD hr.units) (pe_call GU (hr.mono (by decide)) (by rfl) mU kU bU .nil pass0 (pa_cons (pv 2) (pa_cons (pe_lst (pa_cons (pv 3) pa_nil)) (pa_cons pe_int pa_nil)))) (pe_tup (pa_cons pe_str pa_nil)) (nomark _))
 (pss_one (ps_ret pe_bl))
 pss_nil)
 (pss_cons (ps_set (i := 5) sc_law.nd rfl (.inl rfl) (pe_call GW hr (by rfl) mW kW bW .nil pass0 (pa_cons (pv 2) (pa_cons (pe_lst (pa_cons (pv 3) pa_nil)) (pa_cons (pv 4) pa_nil)))))
 (pss_cons (ps_set (i := 6) sc_law.nd rfl (.inl rfl) (pe_call GW hr (by rfl) mW kW bW .nil pass0 (pa_cons (pe_call0 GI (hr.mono (by decide)) (by rfl) mI kI bI .nil pass0) (pa_cons (pe_lst (pa_cons (pv 2) (pa_cons (pe_tup (pa_cons (pv 3) pa_nil)) pa_nil))) (pa_cons pe_int pa_nil)))))
 (pss_cons (ps_if (pt_cmpR op_eq (pe_ix ix_tup (pe_ix ix_tup (pe_ix ix_tup (pv 2) pe_int (fun _ _ => rfl)) pe_int (fun _ _ => rfl)) pe_int (fun _ _ => rfl)) pe_str (nomark _))
 (pss_one (ps_ret (pe_and (pe_cmpR (op_eqD hr.units) (pv 5) (pe_tup (pa_cons pe_str pa_nil)) (nomark _)) (pe_one (pe_cmpR (op_eqD hr.units) (pv 6) (pe_tup (pa_cons pe_str pa_nil)) (nomark _))))))
 pss_nil)
 (pss_cons (ps_if (PW.pt (pw_or (pt_cmpR op_ne (pe_ix ix_tup (pv 5) pe_int (fun _ _ => rfl)) pe_str (nomark _)) (pw_or1 (pt_cmpR op_ne (pe_ix ix_tup (pv 6) pe_int (fun _ _ => rfl)) pe_str (nomark _)))))
 (pss_one (ps_ret pe_bl))
 pss_nil)
 (pss_cons (ps_if (PW.pt (pw_or (pt_cmpR op_isnot_bl (pe_call GN hr (by rfl) mN kN bN .nil pass0 (pa_cons (pv 2) (pa_cons (pe_lst (pa_cons (pv 3) pa_nil)) (pa_cons (pe_ix ix_tup (pv 5) pe_int (fun _ _ => rfl)) pa_nil)))) pe_bl (nomark _)) (pw_or1 (pt_cmpR op_isnot_bl (pe_call GN hr (by rfl) mN kN bN .nil pass0 (pa_cons (pv 2) (pa_cons (pe_lst (pa_cons (pv 3) pa_nil)) (pa_cons (pe_tup (pa_cons pe_int (pa_cons pe_int pa_nil))) pa_nil)))) pe_bl (nomark _)))))
 (pss_one (ps_ret pe_bl))
 pss_nil)
 (pss_one (ps_ret (pe_cmpR op_is_bl (pe_call GN hr (by rfl) mN kN bN .nil pass0 (pa_cons (pe_call0 GI (hr.mono (by decide)) (by rfl) mI kI bI .nil pass0) (pa_cons (pe_lst (pa_cons (pv 2) (pa_cons (pe_tup (pa_cons (pv 3) pa_nil)) pa_nil))) (pa_cons (pe_ix ix_tup (pv 6) pe_int (fun _ _ => rfl)) pa_nil)))) pe_bl (nomark _))))))))))))))), ?_⟩
    have l6 := line6
    refine ⟨_, rfl, s, xs, 60, rfl, hs, by omega, by omega, fun H1 dl ds hdl _ _ => ⟨(by show 2 ≤ sizeLine; omega), fun h hh => ?_⟩⟩
    have Z0 : HandAt (upd H1 h (.lst [.ref dl, .int (0 : Nat)])) h dl ds 0 := ⟨upd_same, Same.laid hh _ _ hdl, (ne_of_none hdl hh).symm⟩
    refine ⟨_, rfl, h, dl, ds, 0, rfl, Z0, fun H3 Pf vp n1 lp rp3 Z1 K1 => ?_⟩
    refine ⟨_, rfl, h, dl, ds, n1, rfl, Z1, fun H4 v x n2 vd rv4 Z2 K2 => ?_⟩
    refine ⟨_, rfl, h, dl, ds, n2, 300, rfl, Z2, by decide, fun r hr3 => ⟨_, _, rfl, rfl, ?_⟩⟩
    have kt5 : KT0 H4 (upd H4 h (.lst [.ref dl, .int (n2 + 1 : Nat)])) := kt_lst Z2.1
    have rv := rv4.keeps kt5
    have rp := (rp3.keeps (K2.kt Z1.1)).keeps kt5
    have sz := lp.size
    have ck := lp.ck
    have gd := lp.good
    have vs2 := vd.size
    have vs2 : v.size ≤ 25 := vs2
    have gv := vd.good
    have usz := uni_size
    have uck := uni_ck
    generalize upd H4 h (.lst [.ref dl, .int (n2 + 1 : Nat)]) = H5 at rv rp
    obtain ⟨g0, rr, kw, ba, bb, rfl, nm, lg, hb, hk1, hk2, hb3, res⟩ := lp.kind
    obtain ⟨u0, ur, eU, unm, ulg⟩ := uni_main
    have endl : Endless false (g0 :: rr) [v] := by
      rcases res with ⟨_, res⟩ | ⟨_, res⟩
      · exact (res v vd).run
      · exact (res v vd).run
    have s1v : sizes [v] ≤ 100 := by
      show v.size + 0 ≤ 100
      omega
    have askP : ∀ (Hx : Hp) (li : Addr), Same H5 Hx → Hx li = none → Ask K (upd Hx li (.lst [x])) vp li g0 rr [v] [x] := fun Hx li sx hn => by
      have s2 := sx.trans (Same.laid (o := HO.lst [x]) hn)
      have kt : KT0 H5 _ := fun b ys e => s2 b (.tup ys) e
      exact ⟨rp.keeps kt, upd_same, .cons (rv.keeps kt) .nil, ck, nm, lg, by omega⟩
    have askU : ∀ (Hx : Hp) (t li : Addr), Same H5 Hx → Hx t = none → upd Hx t (.tup [x]) li = none → Ask K (upd (upd Hx t (.tup [x])) li (.lst [vp, .ref t])) (.ref (He.ga K "UNIVERSAL")) li u0 ur [encP (g0 :: rr), .cons v .nil] [vp, .ref t] := fun Hx t li sx hn hn2 => by
      have s2 := (sx.trans (Same.laid (o := HO.tup [x]) hn)).trans (Same.laid (o := HO.lst [vp, .ref t]) hn2)
      have kt : KT0 H5 _ := fun b ys e => s2 b (.tup ys) e
      have ht := Same.laid (o := HO.lst [vp, .ref t]) hn2 _ _ (upd_same (H := Hx) (a := t) (o := HO.tup [x]))
      rw [eU] at hU usz uck
      refine ⟨hU _, upd_same, .cons (rp.keeps kt) (.cons ⟨t, x, [], rfl, .inl ht, rv.keeps kt, rfl⟩ .nil), uck, unm, ulg, ?_⟩
      show (encP (u0 :: ur)).size + ((encP (g0 :: rr)).size + ((v.size + 1 + 1) + 0)) ≤ 100000
      omega
    obtain ⟨S, S', n, r1, r2, r3⟩ := run_tired endl (200 + r)
    refine ⟨_, rfl, _, rfl, (by show 1 ≤ sizeLine; omega), fun li hli => ⟨_, rfl, vp, li, 200 + r, g0, rr, [v], [x], S, S', n, rfl, askP _ li (Same.refl _) hli, by omega, r1, r2, r3, fun H7 q dx hq s7 => ?_⟩⟩
    refine ⟨q, CR K, dx, _, _, rfl, hq, T.clR, T.r1, rfl, rfl, _, rfl, ?_⟩
    rw [dec_strT]
    refine iteF ?_
    have t7 : Same H5 H7 := (Same.laid hli).trans s7
    clear S S' n r1 r2 r3
    refine ⟨_, rfl, _, rfl, (by show 1 ≤ sizeLine; omega), fun li2 hli2 => ⟨vp, li2, 200, 25, g0, rr, [v], [x], rfl, askP _ li2 t7 hli2, by omega, endl, gd, (fun y my => by rw [List.mem_singleton.mp my]; exact gv), by omega, fun H8 q2 hq2 s8 => ?_⟩⟩
    have t8 : Same H5 H8 := (t7.trans (Same.laid hli2)).trans s8
    have eqT : ∀ (Hx : Hp) (a b : Addr), Hx a = some (.tup [.str "tired"]) → Hx b = some (.tup [.str "tired"]) → True := fun _ _ _ _ _ => True.intro
    refine ⟨(by show 1 ≤ sizeLine; omega), fun t ht => ⟨.tuple [.str "tired"], .tuple [.str "tired"], .tup (.inl (.inl (Same.laid ht _ _ hq2))) (.cons (.str _) .nil), .tup (.inl (.inl upd_same)) (.cons (.str _) .nil), by decide +kernel, by decide +kernel, _, rfl, ?_⟩⟩
    rw [show (!PyData.eqv (.tuple [.str "tired"]) (.tuple [.str "tired"])) = false by decide +kernel]
    refine iteF ?_
    have t9 : Same H5 _ := t8.trans (Same.laid (o := HO.tup [.str "tired"]) ht)
    clear eqT
    generalize upd H8 t (.tup [.str "tired"]) = H9 at t9
    obtain ⟨a, pvs, rfl, tp, pp⟩ := encP_rep rp
    obtain ⟨x0, hx0, rf0⟩ := paired_get pp (m := 0) (a := g0) rfl
    obtain ⟨ta0, tb0, y0, rfl, tf0, tbs0, ry0⟩ := encF_rep rf0
    rw [hb] at ry0
    obtain ⟨ty, yk, zs, rfl, ty0, rk, _⟩ := ry0
    have rk : yk = .str kw := rk
    subst rk
    rcases res with ⟨rfl, res⟩ | ⟨hkm, res⟩
    · obtain ⟨w1, w2⟩ := (res v vd).yes rfl
      rw [eU] at w2
      obtain ⟨S, S', n, r1, r2, r3⟩ := watch_tired w1 (200 + r)
      obtain ⟨U, U', m, q1, q2, q3⟩ := watch_tired w2 8000
      refine ⟨_, rfl, _, rfl, (by show 1 ≤ sizeLine; omega), fun li hli => ⟨_, rfl, .ref a, li, 200 + r, g0, rr, [v], [x], S, S', n, none, rfl, askP _ li t9 hli, by omega, r1, r2, .inl ⟨rfl, r3, fun H10 q10 hq10 s10 => ?_⟩⟩⟩
      have t10 : Same H5 H10 := (t9.trans (Same.laid hli)).trans s10
      refine ⟨rfl, _, rfl, _, rfl, (by show 1 ≤ sizeLine; omega), fun t ht => ⟨(by show 2 ≤ sizeLine; omega), fun lj hlj => ⟨.ref (He.ga K "UNIVERSAL"), lj, 8000, u0, ur, _, _, U, U', m, none, rfl, askU _ t lj t10 ht hlj, by omega, q1, q2, .inl ⟨rfl, q3, fun H11 q11 hq11 s11 => ?_⟩⟩⟩⟩
      have s1011 : Same H10 H11 := ((Same.laid ht).trans (Same.laid hlj)).trans s11
      have t11 := t10.trans s1011
      have kt : KT0 H5 H11 := fun b ys e => t11 b _ e
      refine ⟨_, rfl, a, _, _, _, rfl, rfl, (tp.keeps kt).seq, atI_nat (j := 0) hx0, ta0, _, _, .ref ty, rfl, rfl, (tf0.keeps kt).seq, atI_nat (j := 2) rfl, ty, _, _, .str "main", rfl, rfl, (ty0.keeps kt).seq, atI_nat (j := 0) rfl, rfl, _, rfl, ?_⟩
      rw [dec_strT]
      have ee : PyData.eqv (.tuple [.str "tired"]) (.tuple [.str "tired"]) = true := by decide +kernel
      have es : SeqAt.shaped (.tuple [.str "tired"]) = true := by decide +kernel
      have hq10b := s1011 _ _ hq10
      refine iteT ⟨_, rfl, (by show 1 ≤ sizeLine; omega), fun t1 ht1 => ⟨.tuple [.str "tired"], .tuple [.str "tired"], .tup (.inl (.inl (Same.laid ht1 _ _ hq10b))) (.cons (.str _) .nil), .tup (.inl (.inl upd_same)) (.cons (.str _) .nil), es, es, ?_⟩⟩
      rw [ee]
      refine ⟨_, rfl, iteT ⟨_, rfl, (by show 1 ≤ sizeLine; omega), fun t2 ht2 => ⟨.tuple [.str "tired"], .tuple [.str "tired"], .tup (.inl (.inl (Same.laid ht2 _ _ (Same.laid ht1 _ _ hq11)))) (.cons (.str _) .nil), .tup (.inl (.inl upd_same)) (.cons (.str _) .nil), es, es, ?_⟩⟩⟩
      rw [ee]
      exact k' _
    · obtain ⟨w1, w2⟩ := (res v vd).no rfl
      rw [eU] at w2
      obtain ⟨S, S', n, c, b, pS⟩ := watch_pair w1 (lim := 200 + r) (by omega)
      obtain ⟨U, U', m, c2, b2, pU⟩ := watch_pair w2 (lim := 8000) (by omega)
      obtain ⟨Z, Z', z1, z2, z3⟩ := no12 (P := g0 :: rr) (args := [v]) (g := g0) (by show (if g0.name = "main" then some g0 else fnOf rr "main") = some g0; rw [if_pos nm]) (lg.trans rfl) hb hk1 hk2 hb3
      have leS := pS.le
      have leU := pU.le
      refine ⟨_, rfl, _, rfl, (by show 1 ≤ sizeLine; omega), fun li hli => ⟨_, rfl, .ref a, li, 200 + r, g0, rr, [v], [x], S, S', n, some (c, b + 1), rfl, askP _ li t9 hli, by omega, pS.st, pS.go, .inr ⟨c, b + 1, rfl, pS.le, fun H10 q10 p10 hq10 hp10 s10 => ?_⟩⟩⟩
      have t10 : Same H5 H10 := (t9.trans (Same.laid hli)).trans s10
      refine ⟨rfl, _, rfl, _, rfl, (by show 1 ≤ sizeLine; omega), fun t ht => ⟨(by show 2 ≤ sizeLine; omega), fun lj hlj => ⟨.ref (He.ga K "UNIVERSAL"), lj, 8000, u0, ur, _, _, U, U', m, some (c2, b2 + 1), rfl, askU _ t lj t10 ht hlj, by omega, pU.st, pU.go, .inr ⟨c2, b2 + 1, rfl, pU.le, fun H11 q11 p11 hq11 hp11 s11 => ?_⟩⟩⟩⟩
      have s1011 : Same H10 H11 := ((Same.laid ht).trans (Same.laid hlj)).trans s11
      have t11 := t10.trans s1011
      have kt : KT0 H5 H11 := fun b ys e => t11 b _ e
      refine ⟨_, rfl, a, _, _, _, rfl, rfl, (tp.keeps kt).seq, atI_nat (j := 0) hx0, ta0, _, _, .ref ty, rfl, rfl, (tf0.keeps kt).seq, atI_nat (j := 2) rfl, ty, _, _, .str kw, rfl, rfl, (ty0.keeps kt).seq, atI_nat (j := 0) rfl, rfl, _, rfl, ?_⟩
      rw [dec_str2 hkm]
      have hq10b := s1011 _ _ hq10
      have hp10b := s1011 _ _ hp10
      refine iteF ⟨_, rfl, q10, _, _, .str "never", rfl, rfl, SqT.of hq10b, atI_nat (j := 0) rfl, rfl, _, rfl, ?_⟩
      rw [dec_strT]
      refine iteF ⟨_, rfl, q11, _, _, .str "never", rfl, rfl, SqT.of hq11, atI_nat (j := 0) rfl, rfl, _, rfl, ?_⟩
      rw [dec_strT]
      refine iteF ?_
      refine ⟨_, rfl, _, rfl, (by show 1 ≤ sizeLine; omega), fun l1 hl1 => ?_⟩
      have s12 := Same.laid (o := HO.lst [x]) hl1
      refine ⟨_, rfl, q10, _, _, .ref p10, rfl, rfl, SqT.of (s12 _ _ hq10b), atI_nat (j := 1) rfl, .ref a, l1, p10, c, b, g0, rr, [v], [x], S, S', n, some (c, b + 1), true, rfl, askP _ l1 t11 hl1, SqT.of (s12 _ _ hp10b), pS.pos, pS.lt, by omega, pS.st, pS.go2, (fun y z e => by cases e; exact Nat.le_refl _), .inl ⟨rfl, pS.ex, pS.all⟩, (fun H' s' => SqT.of (s' _ _ (s12 _ _ hp10b))), fun H13 s13 => ?_⟩
      have t13 := (t11.trans s12).trans s13
      have s1113 := s12.trans s13
      refine ⟨_, _, rfl, rfl, _, rfl, iteF ?_⟩
      refine ⟨_, rfl, _, rfl, (by show 1 ≤ sizeLine; omega), fun l2 hl2 => ⟨(by show 2 ≤ sizeLine; omega), fun pp hpp => ?_⟩⟩
      have s14 := Same.laid (o := HO.tup [V.int 1, .int 2]) hpp
      have as2 := askP _ l2 t13 hl2
      have hp14 : upd (upd H13 l2 (.lst [x])) pp (.tup [V.int 1, .int 2]) pp = some (.tup [V.int (1 : Nat), .int (1 + 1 : Nat)]) := upd_same
      refine ⟨.ref a, l2, pp, 1, 1, g0, rr, [v], [x], Z, Z', 1, none, false, rfl, ⟨as2.rp.keeps (fun b ys e => s14 b _ e), s14 _ _ as2.li, Paired.mapP as2.ra fun _ _ z => z.keeps (fun b ys e => s14 b _ e), as2.ck, as2.nm, as2.lg, as2.sz⟩, SqT.of hp14, Nat.le_refl _, by omega, by omega, z1, z2, (fun y z e => by cases e), .inr ⟨rfl, z3⟩, (fun H' s' => SqT.of (s' _ _ hp14)), fun H15 s15 => ?_⟩
      have s1315 := ((Same.laid (o := HO.lst [x]) hl2).trans s14).trans s15
      have t15 := t13.trans s1315
      have s1115 := s1113.trans s1315
      refine ⟨_, _, rfl, rfl, _, rfl, iteF ?_⟩
      have hq11b := s1115 _ _ hq11
      have hp11b := s1115 _ _ hp11
      refine ⟨rfl, _, rfl, _, rfl, (by show 1 ≤ sizeLine; omega), fun t3 ht3 => ⟨(by show 2 ≤ sizeLine; omega), fun l3 hl3 => ?_⟩⟩
      have s16 := (Same.laid (o := HO.tup [x]) ht3).trans (Same.laid (o := HO.lst [.ref a, .ref t3]) hl3)
      refine ⟨_, rfl, q11, _, _, .ref p11, rfl, rfl, SqT.of (s16 _ _ hq11b), atI_nat (j := 1) rfl, .ref (He.ga K "UNIVERSAL"), l3, p11, c2, b2, u0, ur, _, _, U, U', m, some (c2, b2 + 1), true, rfl, askU _ t3 l3 t15 ht3 hl3, SqT.of (s16 _ _ hp11b), pU.pos, pU.lt, by omega, pU.st, pU.go2, (fun y z e => by cases e; exact Nat.le_refl _), .inl ⟨rfl, pU.ex, pU.all⟩, (fun H' s' => SqT.of (s' _ _ (s16 _ _ hp11b))), fun H17 s17 => ?_⟩
      exact ⟨_, _, rfl, rfl, k' _⟩
end
end OgW
set_option maxHeartbeats 0
/-! OgHead: the text by places, the facts of the top, its run. Began as a print of gen_head.py. -/
namespace OgT
open PySem PySem.Spec PyProof.Rows L2
def d_is_word : He.DefD := ⟨("is_word", none), "is_word", "is_word", defArgs s_is_word, defBody s_is_word, defScope s_is_word, [], []⟩
def d_has_head : He.DefD := ⟨("has_head", none), "has_head", "has_head", defArgs s_has_head, defBody s_has_head, defScope s_has_head, [], []⟩
def d_counts_of : He.DefD := ⟨("counts_of", none), "counts_of", "counts_of", defArgs s_counts_of, defBody s_counts_of, defScope s_counts_of, [], []⟩
def d_name_fits : He.DefD := ⟨("name_fits", none), "name_fits", "name_fits", defArgs s_name_fits, defBody s_name_fits, defScope s_name_fits, [], []⟩
def d_parameters_fit : He.DefD := ⟨("parameters_fit", none), "parameters_fit", "parameters_fit", defArgs s_parameters_fit, defBody s_parameters_fit, defScope s_parameters_fit, [], []⟩
def d_body_fits : He.DefD := ⟨("body_fits", none), "body_fits", "body_fits", defArgs s_body_fits, defBody s_body_fits, defScope s_body_fits, [], []⟩
def d_check_program : He.DefD := ⟨("check_program", none), "check_program", "check_program", defArgs s_check_program, defBody s_check_program, defScope s_check_program, [], []⟩
def d_inputs_of : He.DefD := ⟨("inputs_of", none), "inputs_of", "inputs_of", defArgs s_inputs_of, defBody s_inputs_of, defScope s_inputs_of, [], []⟩
def d_Store_init : He.DefD := ⟨("Store", some "__init__"), "__init__", "Store.__init__", defArgs s_Store_init, defBody s_Store_init, defScope s_Store_init, [], []⟩
def d_Store_number_of : He.DefD := ⟨("Store", some "number_of"), "number_of", "Store.number_of", defArgs s_Store_number_of, defBody s_Store_number_of, defScope s_Store_number_of, [], []⟩
def d_Store_is_word : He.DefD := ⟨("Store", some "is_word"), "is_word", "Store.is_word", defArgs s_Store_is_word, defBody s_Store_is_word, defScope s_Store_is_word, [], []⟩
def d_Store_first : He.DefD := ⟨("Store", some "first"), "first", "Store.first", defArgs s_Store_first, defBody s_Store_first, defScope s_Store_first, [], []⟩
def d_Store_rest : He.DefD := ⟨("Store", some "rest"), "rest", "Store.rest", defArgs s_Store_rest, defBody s_Store_rest, defScope s_Store_rest, [], []⟩
def d_Store_pair_up : He.DefD := ⟨("Store", some "pair_up"), "pair_up", "Store.pair_up", defArgs s_Store_pair_up, defBody s_Store_pair_up, defScope s_Store_pair_up, [], []⟩
def d_Store_put : He.DefD := ⟨("Store", some "put"), "put", "Store.put", defArgs s_Store_put, defBody s_Store_put, defScope s_Store_put, [], []⟩
def d_Store_items_of : He.DefD := ⟨("Store", some "items_of"), "items_of", "Store.items_of", defArgs s_Store_items_of, defBody s_Store_items_of, defScope s_Store_items_of, [], []⟩
def d_Run_init : He.DefD := ⟨("Run", some "__init__"), "__init__", "Run.__init__", defArgs s_Run_init, defBody s_Run_init, defScope s_Run_init, [], []⟩
def d_Machine_init : He.DefD := ⟨("Machine", some "__init__"), "__init__", "Machine.__init__", defArgs s_Machine_init, defBody s_Machine_init, defScope s_Machine_init, [], [("keeping", .bl false)]⟩
def d_Machine_begin : He.DefD := ⟨("Machine", some "begin"), "begin", "Machine.begin", defArgs s_Machine_begin, defBody s_Machine_begin, defScope s_Machine_begin, [], []⟩
def d_Machine_is_done : He.DefD := ⟨("Machine", some "is_done"), "is_done", "Machine.is_done", defArgs s_Machine_is_done, defBody s_Machine_is_done, defScope s_Machine_is_done, [], []⟩
def d_Machine_go_on : He.DefD := ⟨("Machine", some "go_on"), "go_on", "Machine.go_on", defArgs s_Machine_go_on, defBody s_Machine_go_on, defScope s_Machine_go_on, [], []⟩
def d_Machine_evaluate : He.DefD := ⟨("Machine", some "evaluate"), "evaluate", "Machine.evaluate", defArgs s_Machine_evaluate, defBody s_Machine_evaluate, defScope s_Machine_evaluate, [], []⟩
def d_Machine_do : He.DefD := ⟨("Machine", some "do"), "do", "Machine.do", defArgs s_Machine_do, defBody s_Machine_do, defScope s_Machine_do, [], []⟩
def d_started : He.DefD := ⟨("started", none), "started", "started", defArgs s_started, defBody s_started, defScope s_started, [], []⟩
def d_run_program : He.DefD := ⟨("run_program", none), "run_program", "run_program", defArgs s_run_program, defBody s_run_program, defScope s_run_program, [], []⟩
def d_watch_program : He.DefD := ⟨("watch_program", none), "watch_program", "watch_program", defArgs s_watch_program, defBody s_watch_program, defScope s_watch_program, [], []⟩
def d_open_calls : He.DefD := ⟨("open_calls", none), "open_calls", "open_calls", defArgs s_open_calls, defBody s_open_calls, defScope s_open_calls, [], []⟩
def d_check_never : He.DefD := ⟨("check_never", none), "check_never", "check_never", defArgs s_check_never, defBody s_check_never, defScope s_check_never, [], []⟩
def d_universal : He.DefD := ⟨("universal", none), "universal", "universal", defArgs s_universal, defBody s_universal, defScope s_universal, [], []⟩
def d_law_draws : He.DefD := ⟨("_law_draws", none), "_law_draws", "_law_draws", defArgs s_law_draws, defBody s_law_draws, defScope s_law_draws, [], []⟩
def d_law_take : He.DefD := ⟨("_law_take", none), "_law_take", "_law_take", defArgs s_law_take, defBody s_law_take, defScope s_law_take, [], []⟩
def d_law_value : He.DefD := ⟨("_law_value", none), "_law_value", "_law_value", defArgs s_law_value, defBody s_law_value, defScope s_law_value, [], []⟩
def d_law_do : He.DefD := ⟨("_law_do", none), "_law_do", "_law_do", defArgs s_law_do, defBody s_law_do, defScope s_law_do, [], []⟩
def d_law_run : He.DefD := ⟨("_law_run", none), "_law_run", "_law_run", defArgs s_law_run, defBody s_law_run, defScope s_law_run, [], []⟩
def d_law_endless : He.DefD := ⟨("_law_endless", none), "_law_endless", "_law_endless", defArgs s_law_endless, defBody s_law_endless, defScope s_law_endless, [], []⟩
def d_law : He.DefD := ⟨("law", none), "law", "law", defArgs s_law, defBody s_law, defScope s_law, [], []⟩
def fn : List He.DefD := [d_is_word, d_has_head, d_counts_of, d_name_fits, d_parameters_fit, d_body_fits, d_check_program, d_inputs_of, d_Store_init, d_Store_number_of, d_Store_is_word, d_Store_first, d_Store_rest, d_Store_pair_up, d_Store_put, d_Store_items_of, d_Run_init, d_Machine_init, d_Machine_begin, d_Machine_is_done, d_Machine_go_on, d_Machine_evaluate, d_Machine_do, d_started, d_run_program, d_watch_program, d_open_calls, d_check_never, d_universal, d_law_draws, d_law_take, d_law_value, d_law_do, d_law_run, d_law_endless, d_law]
def fa0 : List He.Fa := [.glo "is_word", .glo "has_head", .glo "counts_of", .glo "name_fits", .glo "parameters_fit", .glo "body_fits", .glo "check_program", .glo "inputs_of", .glo "started", .glo "run_program", .glo "watch_program", .glo "open_calls", .glo "check_never", .glo "universal", .glo "_law_draws", .glo "_law_take", .glo "_law_value", .glo "_law_do", .glo "_law_run", .glo "_law_endless", .glo "law", .glo "Store", .glo "Run", .glo "Machine", .glo "SPECIAL_WORDS"]
def fa1 : List He.Fa := [.glo "PLAIN", .glo "UNIVERSAL", .free "isinstance", .free "len", .free "dict", .free "enumerate", .free "int", .free "min", .free "max", .free "range", .free "reversed", .free "tuple", .free "zip", .free "str", .free "abs", .int "EMPTY" 0, .int "MOST_PARTS" 200000, .int "MOST_DEPTH" 200, .int "MOST_PARAMETERS" 12, .int "MOST_STEPS" 10000000, .str "FIGURES" "0123456789", .cls "Store", .mkr "Store", .noat "Store" "entries", .noat "Store" "numbers"]
def fa2 : List He.Fa := [.noat "Store" "sizes", .noat "Store" "depths", .meth "Store" "number_of", .meth "Store" "is_word", .meth "Store" "first", .meth "Store" "rest", .meth "Store" "pair_up", .meth "Store" "put", .meth "Store" "items_of", .cls "Run", .mkr "Run", .noat "Run" "kind", .noat "Run" "value", .noat "Run" "steps", .cls "Machine", .mkr "Machine", .noat "Machine" "store", .noat "Machine" "yes", .noat "Machine" "functions", .noat "Machine" "keeping", .noat "Machine" "kept", .noat "Machine" "pair", .noat "Machine" "steps", .noat "Machine" "found", .noat "Machine" "todo"]
def fa3 : List He.Fa := [.meth "Machine" "begin", .meth "Machine" "is_done", .meth "Machine" "go_on", .meth "Machine" "evaluate", .meth "Machine" "do"]
def fa : List He.Fa := fa0 ++ fa1 ++ fa2 ++ fa3
def spW : List Str := ["quote", "if", "same", "word", "head", "tail", "join"]
def ts : List He.Tab := [(fun K => He.ga K "SPECIAL_WORDS", spW)]
def tupA (g : Addr → Option Obj) : Nat → Addr → List Addr
  | 0, _ => []
  | n + 1, a => a :: (match g a with
    | some ⟨_, _, .seq its _, _⟩ => its.toList.flatMap fun v => match v with
      | .ref b => tupA g n b
      | _ => []
    | _ => [])
def asU (g : Addr → Option Obj) : List Addr := He.asD g 5 ++ tupA g 16 (He.ga (He.frG g [mainGlobals]) "UNIVERSAL")
/-- the entries of a written dict -/
def entB : List (Str × Int) → List DictEntry → Bool
  | [], [] => true
  | q :: qs, e :: es => (match e.key with
    | .str x _ => decide (x = q.1)
    | _ => false) && ((match e.val with
    | .int j _ => decide (j = q.2)
    | _ => false) && entB qs es)
  | _, _ => false
def wdB (K : PySem.W.Frag) (a : Addr) (kvs : List (Str × Int)) : Bool := match K.lookup a with
  | some ⟨_, _, .dict es _, _⟩ => entB kvs es.toList
  | _ => false
def ex (K : PySem.W.Frag) : Bool := He.tupB K "PLAIN" [.str "same", .str "word", .str "head", .str "tail", .str "join"] && (wdB K (He.ga K "SPECIAL_WORDS") [("quote", 1), ("if", 3), ("same", 2), ("word", 1), ("head", 1), ("tail", 1), ("join", 2)] && OgW.repVB K (Og.encP Og.UNI) (.ref (He.ga K "UNIVERSAL")))
abbrev AlU : Type := He.AlT × Bool
def obsU (g : Addr → Option Obj) : AlU := (He.obsT fa fn ts (He.frG g (asU g)), ex (He.frG g (asU g)))
def hk : PySem.W.Hook where
  α := AlU
  obs := fun s => obsU s.heap.get?
  val := fun w => (He.valT fn ts w, true)
  says := fun w h => ∃ K : PySem.W.Frag, K.In h ∧ He.SaysT fa fn ts w K ∧ ex K = true
  of := fun _ _ e => ⟨_, He.frG_in, congrArg (fun z : AlU => z.1) e, congrArg (fun z : AlU => z.2) e⟩
  keeps := fun _ _ _ ⟨K, hK, c⟩ k => ⟨K, PySem.W.Frag.In.keeps hK k, c⟩
abbrev R : PySem.W.OpenRow := PySem.W.OpenLaw.row PySem.Challenge.rw_ownglass_k47_whole_never_through_univers
def ob (s : PySem.W.SharedT) : AlU := obsU (HandSHeadRun.getT s)
theorem ob_eq (s : PySem.W.SharedT) : ob s = hk.obs s.abs := by
  have e : HandSHeadRun.getT s = s.abs.heap.get? := funext (HandSHeadRun.getT_eq s)
  unfold ob
  rw [e]
  rfl
def lo1 : List Str := ["__name__", "GlassError", "BadProgram", "BadInputs", "SPECIAL_WORDS", "FIGURES", "MOST_PARAMETERS", "is_word", "has_head", "counts_of", "name_fits", "parameters_fit", "body_fits", "check_program", "inputs_of", "EMPTY", "MOST_PARTS", "MOST_DEPTH", "Store", "PLAIN", "Run", "Machine", "started", "run_program", "MOST_STEPS", "watch_program", "open_calls", "check_never", "UNIVERSAL", "universal"]
def lo2 : List Str := ["_law_draws", "_law_take", "_law_value", "_law_do", "_law_run", "_law_endless"]
theorem runF (w : World) : HandSHeadRun.RunEq R (PySem.W.view R.prog [42]) hk ob 4000 (lo1 ++ lo2) (w.withFollow "special-get-raises" false) := by
  intro os
  kernel_rfl
theorem runT (w : World) : HandSHeadRun.RunEq R (PySem.W.view R.prog [42]) hk ob 4000 (lo1 ++ lo2) (w.withFollow "special-get-raises" true) := by
  intro os
  kernel_rfl
theorem run (w : World) : HandSHeadRun.RunEq R (PySem.W.view R.prog [42]) hk ob 4000 (lo1 ++ lo2) w := PySem.W.byRow2 "special-get-raises" (P := fun w => HandSHeadRun.RunEq R (PySem.W.view R.prog [42]) hk ob 4000 (lo1 ++ lo2) w) runF runT w
end OgT
set_option maxHeartbeats 0
/-! OgEnd: the head's facts, the promises joined. Printed by gen_end.py. -/
namespace OgT
open PySem PySem.Spec PyProof.Rows L2 OgD Og OgW
theorem entB_ok : ∀ {qs : List (Str × Int)} {es : List DictEntry}, entB qs es = true → Paired (fun (q : Str × Int) (e : DictEntry) => (∃ t, e.key = .str q.1 t) ∧ ∃ t, e.val = .int q.2 t) qs es
  | [], [], _ => .nil
  | [], _ :: _, h => by cases h
  | _ :: _, [], h => by cases h
  | q :: qs, e :: es, h => by
    have h : ((match e.key with
      | .str x _ => decide (x = q.1)
      | _ => false) && ((match e.val with
      | .int j _ => decide (j = q.2)
      | _ => false) && entB qs es)) = true := h
    obtain ⟨h1, h2⟩ := Bool.and_eq_true_iff.mp h
    obtain ⟨h2, h3⟩ := Bool.and_eq_true_iff.mp h2
    refine .cons ⟨?_, ?_⟩ (entB_ok h3)
    · split at h1
      · rename_i x t ek
        exact ⟨t, by rw [ek, of_decide_eq_true h1]⟩
      · cases h1
    · split at h2
      · rename_i j t ek
        exact ⟨t, by rw [ek, of_decide_eq_true h2]⟩
      · cases h2
theorem wd_of {K : PySem.W.Frag} {w : World} {a : Addr} {es : Array DictEntry} {n : Nat} (D : KDict K w a es n) (h : wdB K a SPW = true) : WD K w a SPW := by
  refine ⟨es, n, D, ?_, by decide +kernel, by decide +kernel⟩
  unfold wdB at h
  rw [D.at_] at h
  exact entB_ok h
theorem facts {P : Program} {w : World} {K : PySem.W.Frag} {h : Heap} {mg : Str → Option Value} {f : Addr} (X : K.In h) (G : h.Ns mainGlobals mg) (hfa : mg ("law" : Str) = some (.ref f)) (c : He.SaysT fa fn ts w K) (e : ex K = true) :
    ∃ fd : FuncData, (∀ (s : Shared) (v : Value), BindsTo s fd ⟨[v], []⟩ [("_law_script", v)]) ∧ ∀ base : Heap, K.In base → base.Ns mainGlobals mg → FnOk P w K mg base CX0 8 f fd ["_law_script"] (spLaw K) := by
  obtain ⟨e1, e2⟩ := Bool.and_eq_true_iff.mp e
  obtain ⟨e2, e3⟩ := Bool.and_eq_true_iff.mp e2
  have T : Txt K mg := ⟨He.cls_ok (c.d.fact 46 (f := .cls "Store") rfl),
    He.cls_ok (c.d.fact 59 (f := .cls "Run") rfl),
    He.cls_ok (c.d.fact 64 (f := .cls "Machine") rfl),
    He.noat_ok (c.d.fact 48 (f := .noat "Store" "entries") rfl),
    He.noat_ok (c.d.fact 49 (f := .noat "Store" "numbers") rfl),
    He.noat_ok (c.d.fact 50 (f := .noat "Store" "sizes") rfl),
    He.noat_ok (c.d.fact 51 (f := .noat "Store" "depths") rfl),
    He.noat_ok (c.d.fact 61 (f := .noat "Run" "kind") rfl),
    He.noat_ok (c.d.fact 62 (f := .noat "Run" "value") rfl),
    He.noat_ok (c.d.fact 63 (f := .noat "Run" "steps") rfl),
    He.noat_ok (c.d.fact 66 (f := .noat "Machine" "store") rfl),
    He.noat_ok (c.d.fact 67 (f := .noat "Machine" "yes") rfl),
    He.noat_ok (c.d.fact 68 (f := .noat "Machine" "functions") rfl),
    He.noat_ok (c.d.fact 69 (f := .noat "Machine" "keeping") rfl),
    He.noat_ok (c.d.fact 70 (f := .noat "Machine" "kept") rfl),
    He.noat_ok (c.d.fact 71 (f := .noat "Machine" "pair") rfl),
    He.noat_ok (c.d.fact 72 (f := .noat "Machine" "steps") rfl),
    He.noat_ok (c.d.fact 73 (f := .noat "Machine" "found") rfl),
    He.noat_ok (c.d.fact 74 (f := .noat "Machine" "todo") rfl),
    He.glo_ok X G (c.d.fact 21 (f := .glo "Store") rfl),
    He.glo_ok X G (c.d.fact 22 (f := .glo "Run") rfl),
    He.glo_ok X G (c.d.fact 23 (f := .glo "Machine") rfl),
    He.free_ok X G (c.d.fact 27 (f := .free "isinstance") rfl),
    He.free_ok X G (c.d.fact 28 (f := .free "len") rfl),
    He.free_ok X G (c.d.fact 29 (f := .free "dict") rfl),
    He.free_ok X G (c.d.fact 30 (f := .free "enumerate") rfl),
    He.free_ok X G (c.d.fact 31 (f := .free "int") rfl),
    He.free_ok X G (c.d.fact 32 (f := .free "min") rfl),
    He.free_ok X G (c.d.fact 33 (f := .free "max") rfl),
    He.free_ok X G (c.d.fact 34 (f := .free "range") rfl),
    He.free_ok X G (c.d.fact 35 (f := .free "reversed") rfl),
    He.free_ok X G (c.d.fact 36 (f := .free "tuple") rfl),
    He.free_ok X G (c.d.fact 37 (f := .free "zip") rfl),
    He.free_ok X G (c.d.fact 38 (f := .free "str") rfl),
    He.free_ok X G (c.d.fact 39 (f := .free "abs") rfl),
    He.int_ok X G (c.d.fact 40 (f := .int "EMPTY" 0) rfl),
    He.int_ok X G (c.d.fact 41 (f := .int "MOST_PARTS" 200000) rfl),
    He.int_ok X G (c.d.fact 42 (f := .int "MOST_DEPTH" 200) rfl),
    He.int_ok X G (c.d.fact 43 (f := .int "MOST_PARAMETERS" 12) rfl),
    He.int_ok X G (c.d.fact 44 (f := .int "MOST_STEPS" 10000000) rfl),
    He.glo_ok X G (c.d.fact 25 (f := .glo "PLAIN") rfl),
    He.glo_ok X G (c.d.fact 24 (f := .glo "SPECIAL_WORDS") rfl),
    He.glo_ok X G (c.d.fact 26 (f := .glo "UNIVERSAL") rfl),
    fun H => He.tupB_ok e1 H,
    He.str_ok X G (c.d.fact 45 (f := .str "FIGURES" "0123456789") rfl)⟩
  obtain ⟨es, en, kd⟩ := c.tab 0 (t := (fun K => He.ga K "SPECIAL_WORDS", spW)) rfl
  have W : WD K w (He.ga K "SPECIAL_WORDS") SPW := wd_of kd e2
  obtain ⟨u, ru, hu⟩ := repVB_ok e3
  have eu := relV_ref ru
  subst eu
  obtain ⟨f_Store_is_word, F_Store_is_word⟩ := c.d.def_ 10 (d := d_Store_is_word) rfl
  obtain ⟨f_Store_first, F_Store_first⟩ := c.d.def_ 11 (d := d_Store_first) rfl
  obtain ⟨f_Store_rest, F_Store_rest⟩ := c.d.def_ 12 (d := d_Store_rest) rfl
  obtain ⟨f_Store_number_of, F_Store_number_of⟩ := c.d.def_ 9 (d := d_Store_number_of) rfl
  obtain ⟨f_Store_pair_up, F_Store_pair_up⟩ := c.d.def_ 13 (d := d_Store_pair_up) rfl
  obtain ⟨f_Store_items_of, F_Store_items_of⟩ := c.d.def_ 15 (d := d_Store_items_of) rfl
  obtain ⟨f_Store_put, F_Store_put⟩ := c.d.def_ 14 (d := d_Store_put) rfl
  obtain ⟨f_Store_init, F_Store_init⟩ := c.d.def_ 8 (d := d_Store_init) rfl
  obtain ⟨f_Machine_do, F_Machine_do⟩ := c.d.def_ 22 (d := d_Machine_do) rfl
  obtain ⟨f_Machine_begin, F_Machine_begin⟩ := c.d.def_ 18 (d := d_Machine_begin) rfl
  obtain ⟨f_Machine_is_done, F_Machine_is_done⟩ := c.d.def_ 19 (d := d_Machine_is_done) rfl
  obtain ⟨f_Machine_evaluate, F_Machine_evaluate⟩ := c.d.def_ 21 (d := d_Machine_evaluate) rfl
  obtain ⟨f_Machine_go_on, F_Machine_go_on⟩ := c.d.def_ 20 (d := d_Machine_go_on) rfl
  obtain ⟨f_Machine_init, F_Machine_init⟩ := c.d.def_ 17 (d := d_Machine_init) rfl
  obtain ⟨f_is_word, F_is_word⟩ := c.d.def_ 0 (d := d_is_word) rfl
  obtain ⟨f_has_head, F_has_head⟩ := c.d.def_ 1 (d := d_has_head) rfl
  obtain ⟨f_counts_of, F_counts_of⟩ := c.d.def_ 2 (d := d_counts_of) rfl
  obtain ⟨f_name_fits, F_name_fits⟩ := c.d.def_ 3 (d := d_name_fits) rfl
  obtain ⟨f_parameters_fit, F_parameters_fit⟩ := c.d.def_ 4 (d := d_parameters_fit) rfl
  obtain ⟨f_body_fits, F_body_fits⟩ := c.d.def_ 5 (d := d_body_fits) rfl
  obtain ⟨f_check_program, F_check_program⟩ := c.d.def_ 6 (d := d_check_program) rfl
  obtain ⟨f_inputs_of, F_inputs_of⟩ := c.d.def_ 7 (d := d_inputs_of) rfl
  obtain ⟨f_Run_init, F_Run_init⟩ := c.d.def_ 16 (d := d_Run_init) rfl
  obtain ⟨f_started, F_started⟩ := c.d.def_ 23 (d := d_started) rfl
  obtain ⟨f_run_program, F_run_program⟩ := c.d.def_ 24 (d := d_run_program) rfl
  obtain ⟨f_watch_program, F_watch_program⟩ := c.d.def_ 25 (d := d_watch_program) rfl
  obtain ⟨f_open_calls, F_open_calls⟩ := c.d.def_ 26 (d := d_open_calls) rfl
  obtain ⟨f_check_never, F_check_never⟩ := c.d.def_ 27 (d := d_check_never) rfl
  obtain ⟨f_universal, F_universal⟩ := c.d.def_ 28 (d := d_universal) rfl
  obtain ⟨f_law_draws, F_law_draws⟩ := c.d.def_ 29 (d := d_law_draws) rfl
  obtain ⟨f_law_take, F_law_take⟩ := c.d.def_ 30 (d := d_law_take) rfl
  obtain ⟨f_law_value, F_law_value⟩ := c.d.def_ 31 (d := d_law_value) rfl
  obtain ⟨f_law_do, F_law_do⟩ := c.d.def_ 32 (d := d_law_do) rfl
  obtain ⟨f_law_run, F_law_run⟩ := c.d.def_ 33 (d := d_law_run) rfl
  obtain ⟨f_law_endless, F_law_endless⟩ := c.d.def_ 34 (d := d_law_endless) rfl
  obtain ⟨fd, F⟩ := c.d.def_ 35 (d := d_law) rfl
  have eq := hfa.symm.trans (He.glo_ok X G (c.d.fact 20 (f := .glo "law") rfl))
  cases eq
  have b := FunD.bindsA (ps := ["_law_script"]) F fun _ _ _ _ _ _ us hl => match us, hl with | [_], _ => rfl
  refine ⟨fd, fun s v => b s [v] rfl, fun base _ _ => ?_⟩
  have gSW : Mth P w K mg base (He.ga K "Store") "is_word" 1 ["self", "number"] (spIsWord K w) := ⟨_, f_Store_is_word, ok_is_word F_Store_is_word T, He.meth_ok (c.d.fact 53 (f := .meth "Store" "is_word") rfl), (FunD.bindsN (ps := ["self", "number"]) F_Store_is_word fun _ _ _ _ _ _ us hl => match us, hl with | [_, _], _ => rfl)⟩
  have gFst : Mth P w K mg base (He.ga K "Store") "first" 2 ["self", "number"] (spFirst K w) := ⟨_, f_Store_first, ok_first F_Store_first T gSW, He.meth_ok (c.d.fact 54 (f := .meth "Store" "first") rfl), (FunD.bindsN (ps := ["self", "number"]) F_Store_first fun _ _ _ _ _ _ us hl => match us, hl with | [_, _], _ => rfl)⟩
  have gRst : Mth P w K mg base (He.ga K "Store") "rest" 2 ["self", "number"] (spRest K w) := ⟨_, f_Store_rest, ok_rest F_Store_rest T gSW, He.meth_ok (c.d.fact 55 (f := .meth "Store" "rest") rfl), (FunD.bindsN (ps := ["self", "number"]) F_Store_rest fun _ _ _ _ _ _ us hl => match us, hl with | [_, _], _ => rfl)⟩
  have gNum : Mth P w K mg base (He.ga K "Store") "number_of" 1 ["self", "entry"] (spNum K w) := ⟨_, f_Store_number_of, ok_num F_Store_number_of T, He.meth_ok (c.d.fact 52 (f := .meth "Store" "number_of") rfl), (FunD.bindsN (ps := ["self", "entry"]) F_Store_number_of fun _ _ _ _ _ _ us hl => match us, hl with | [_, _], _ => rfl)⟩
  have gPair : Mth P w K mg base (He.ga K "Store") "pair_up" 2 ["self", "item", "items"] (spPair K w) := ⟨_, f_Store_pair_up, ok_pair F_Store_pair_up T gSW gNum, He.meth_ok (c.d.fact 56 (f := .meth "Store" "pair_up") rfl), (FunD.bindsN (ps := ["self", "item", "items"]) F_Store_pair_up fun _ _ _ _ _ _ us hl => match us, hl with | [_, _, _], _ => rfl)⟩
  have gItems : Mth P w K mg base (He.ga K "Store") "items_of" 1 ["self", "number"] (spItems K w) := ⟨_, f_Store_items_of, ok_items F_Store_items_of T, He.meth_ok (c.d.fact 58 (f := .meth "Store" "items_of") rfl), (FunD.bindsN (ps := ["self", "number"]) F_Store_items_of fun _ _ _ _ _ _ us hl => match us, hl with | [_, _], _ => rfl)⟩
  have gPut : Mth P w K mg base (He.ga K "Store") "put" 2 ["self", "value"] (spPut K w) := ⟨_, f_Store_put, ok_put F_Store_put T gNum, He.meth_ok (c.d.fact 57 (f := .meth "Store" "put") rfl), (FunD.bindsN (ps := ["self", "value"]) F_Store_put fun _ _ _ _ _ _ us hl => match us, hl with | [_, _], _ => rfl)⟩
  have gSInit : Mkr P w K mg base (He.ga K "Store") 1 ["self"] (spSInit K w) := ⟨_, f_Store_init, ok_sinit F_Store_init T, He.mkr_ok (c.d.fact 47 (f := .mkr "Store") rfl), (FunD.bindsN (ps := ["self"]) F_Store_init fun _ _ _ _ _ _ us hl => match us, hl with | [_], _ => rfl)⟩
  have gDo : Mth P w K mg base (He.ga K "Machine") "do" 3 ["self", "word"] (spDo K w) := ⟨_, f_Machine_do, ok_do F_Machine_do T gSW gFst gRst gPair, He.meth_ok (c.d.fact 79 (f := .meth "Machine" "do") rfl), (FunD.bindsN (ps := ["self", "word"]) F_Machine_do fun _ _ _ _ _ _ us hl => match us, hl with | [_, _], _ => rfl)⟩
  have gBegin : Mth P w K mg base (He.ga K "Machine") "begin" 1 ["self", "name", "numbers"] (spBegin K w) := ⟨_, f_Machine_begin, ok_begin F_Machine_begin T, He.meth_ok (c.d.fact 75 (f := .meth "Machine" "begin") rfl), (FunD.bindsN (ps := ["self", "name", "numbers"]) F_Machine_begin fun _ _ _ _ _ _ us hl => match us, hl with | [_, _, _], _ => rfl)⟩
  have gDone : Mth P w K mg base (He.ga K "Machine") "is_done" 1 ["self"] (spDone K w) := ⟨_, f_Machine_is_done, ok_done F_Machine_is_done T, He.meth_ok (c.d.fact 76 (f := .meth "Machine" "is_done") rfl), (FunD.bindsN (ps := ["self"]) F_Machine_is_done fun _ _ _ _ _ _ us hl => match us, hl with | [_], _ => rfl)⟩
  have gEval : Mth P w K mg base (He.ga K "Machine") "evaluate" 2 ["self", "expression", "names"] (spEval K w) := ⟨_, f_Machine_evaluate, ok_eval F_Machine_evaluate T gSW gItems, He.meth_ok (c.d.fact 78 (f := .meth "Machine" "evaluate") rfl), (FunD.bindsN (ps := ["self", "expression", "names"]) F_Machine_evaluate fun _ _ _ _ _ _ us hl => match us, hl with | [_, _, _], _ => rfl)⟩
  have gGo : Mth P w K mg base (He.ga K "Machine") "go_on" 4 ["self", "limit"] (spGo K w) := ⟨_, f_Machine_go_on, ok_goon F_Machine_go_on T gEval gDo gBegin, He.meth_ok (c.d.fact 77 (f := .meth "Machine" "go_on") rfl), (FunD.bindsN (ps := ["self", "limit"]) F_Machine_go_on fun _ _ _ _ _ _ us hl => match us, hl with | [_, _], _ => rfl)⟩
  have gMInit : MkrK P w K mg base (He.ga K "Machine") 3 ["self", "program", "inputs", "keeping"] 2 ["keeping"] (spMInit K w) := by
    obtain ⟨mv, kb⟩ := FunD.kbinds0 (ps := ["self", "program", "inputs", "keeping"]) F_Machine_init 3 ["keeping"] [] (fun us _ ws => us ++ ws) (fun z => by cases z) (fun q m => by cases m) (fun a _ b => Vals.append a b) fun _ _ _ _ _ _ us mv ws h1 h2 h3 => match us, mv, ws, h1, h2, h3 with | [_, _, _], [], [_], _, _, _ => rfl
    exact ⟨_, f_Machine_init, _, ok_minit F_Machine_init T gSInit gPut gItems gBegin, He.mkr_ok (c.d.fact 65 (f := .mkr "Machine") rfl), kb⟩
  have gCW : Glob P w K mg base "is_word" 1 ["value"] (spCW K) := ⟨_, f_is_word, ok_cisw F_is_word T, He.glo_ok X G (c.d.fact 0 (f := .glo "is_word") rfl), F_is_word.kp, (FunD.bindsN (ps := ["value"]) F_is_word fun _ _ _ _ _ _ us hl => match us, hl with | [_], _ => rfl)⟩
  have gHH : Glob P w K mg base "has_head" 2 ["function"] (spHH K) := ⟨_, f_has_head, ok_hh F_has_head T gCW, He.glo_ok X G (c.d.fact 1 (f := .glo "has_head") rfl), F_has_head.kp, (FunD.bindsN (ps := ["function"]) F_has_head fun _ _ _ _ _ _ us hl => match us, hl with | [_], _ => rfl)⟩
  have gCnt : Glob P w K mg base "counts_of" 3 ["program"] (spCnt K) := ⟨_, f_counts_of, ok_cnt F_counts_of T W gHH, He.glo_ok X G (c.d.fact 2 (f := .glo "counts_of") rfl), F_counts_of.kp, (FunD.bindsN (ps := ["program"]) F_counts_of fun _ _ _ _ _ _ us hl => match us, hl with | [_], _ => rfl)⟩
  have gNF : Glob P w K mg base "name_fits" 1 ["name", "names", "many"] (spNF K) := ⟨_, f_name_fits, ok_nf F_name_fits T W, He.glo_ok X G (c.d.fact 3 (f := .glo "name_fits") rfl), F_name_fits.kp, (FunD.bindsN (ps := ["name", "names", "many"]) F_name_fits fun _ _ _ _ _ _ us hl => match us, hl with | [_, _, _], _ => rfl)⟩
  have gPF : Glob P w K mg base "parameters_fit" 2 ["parameters"] (spPF K) := ⟨_, f_parameters_fit, ok_pf F_parameters_fit T W gCW, He.glo_ok X G (c.d.fact 4 (f := .glo "parameters_fit") rfl), F_parameters_fit.kp, (FunD.bindsN (ps := ["parameters"]) F_parameters_fit fun _ _ _ _ _ _ us hl => match us, hl with | [_], _ => rfl)⟩
  have gBF : Glob P w K mg base "body_fits" 2 ["body", "parameters", "counts"] (spBF K) := ⟨_, f_body_fits, ok_bf F_body_fits T gCW, He.glo_ok X G (c.d.fact 5 (f := .glo "body_fits") rfl), F_body_fits.kp, (FunD.bindsN (ps := ["body", "parameters", "counts"]) F_body_fits fun _ _ _ _ _ _ us hl => match us, hl with | [_, _, _], _ => rfl)⟩
  have gCk : Glob P w K mg base "check_program" 4 ["value"] (spCk K) := ⟨_, f_check_program, ok_ck F_check_program T gCW gCnt gHH gNF gPF gBF, He.glo_ok X G (c.d.fact 6 (f := .glo "check_program") rfl), F_check_program.kp, (FunD.bindsN (ps := ["value"]) F_check_program fun _ _ _ _ _ _ us hl => match us, hl with | [_], _ => rfl)⟩
  have gIO : Glob P w K mg base "inputs_of" 5 ["program"] (spIO K) := ⟨_, f_inputs_of, ok_io F_inputs_of T gCk, He.glo_ok X G (c.d.fact 7 (f := .glo "inputs_of") rfl), F_inputs_of.kp, (FunD.bindsN (ps := ["program"]) F_inputs_of fun _ _ _ _ _ _ us hl => match us, hl with | [_], _ => rfl)⟩
  have gRun : Mkr P w K mg base (He.ga K "Run") 1 ["self", "kind", "value", "steps"] (spRun K) := ⟨_, f_Run_init, ok_run F_Run_init T, He.mkr_ok (c.d.fact 60 (f := .mkr "Run") rfl), (FunD.bindsN (ps := ["self", "kind", "value", "steps"]) F_Run_init fun _ _ _ _ _ _ us hl => match us, hl with | [_, _, _, _], _ => rfl)⟩
  have gSt : Glob P w K mg base "started" 6 ["program", "inputs", "keeping"] (spSt K w) := ⟨_, f_started, ok_st F_started T gCk gIO gMInit, He.glo_ok X G (c.d.fact 8 (f := .glo "started") rfl), F_started.kp, (FunD.bindsN (ps := ["program", "inputs", "keeping"]) F_started fun _ _ _ _ _ _ us hl => match us, hl with | [_, _, _], _ => rfl)⟩
  have gRP : Glob P w K mg base "run_program" 7 ["program", "inputs", "limit"] (spRP K) := ⟨_, f_run_program, ok_rp F_run_program T gSt gGo gDone gRun, He.glo_ok X G (c.d.fact 9 (f := .glo "run_program") rfl), F_run_program.kp, (FunD.bindsN (ps := ["program", "inputs", "limit"]) F_run_program fun _ _ _ _ _ _ us hl => match us, hl with | [_, _, _], _ => rfl)⟩
  have gWP : Glob P w K mg base "watch_program" 7 ["program", "inputs", "limit"] (spWP K) := ⟨_, f_watch_program, ok_wp F_watch_program T gSt gGo gDone, He.glo_ok X G (c.d.fact 10 (f := .glo "watch_program") rfl), F_watch_program.kp, (FunD.bindsN (ps := ["program", "inputs", "limit"]) F_watch_program fun _ _ _ _ _ _ us hl => match us, hl with | [_, _, _], _ => rfl)⟩
  have gOC : Glob P w K mg base "open_calls" 5 ["machine", "step"] (spOC K w) := ⟨_, f_open_calls, ok_oc F_open_calls T gGo, He.glo_ok X G (c.d.fact 11 (f := .glo "open_calls") rfl), F_open_calls.kp, (FunD.bindsN (ps := ["machine", "step"]) F_open_calls fun _ _ _ _ _ _ us hl => match us, hl with | [_, _], _ => rfl)⟩
  have gCN : Glob P w K mg base "check_never" 7 ["program", "inputs", "paper"] (spCN K) := ⟨_, f_check_never, ok_cn F_check_never T gSt gOC, He.glo_ok X G (c.d.fact 12 (f := .glo "check_never") rfl), F_check_never.kp, (FunD.bindsN (ps := ["program", "inputs", "paper"]) F_check_never fun _ _ _ _ _ _ us hl => match us, hl with | [_, _, _], _ => rfl)⟩
  have gUni : Glob P w K mg base "universal" 1 [] (spUni K) := ⟨_, f_universal, ok_uni F_universal T, He.glo_ok X G (c.d.fact 13 (f := .glo "universal") rfl), F_universal.kp, (FunD.bindsN (ps := []) F_universal fun _ _ _ _ _ _ us hl => match us, hl with | [], _ => rfl)⟩
  have gDraws : Glob P w K mg base "_law_draws" 1 ["_law_script", "_law_many"] (spDraws K) := ⟨_, f_law_draws, ok_draws F_law_draws T, He.glo_ok X G (c.d.fact 14 (f := .glo "_law_draws") rfl), F_law_draws.kp, (FunD.bindsN (ps := ["_law_script", "_law_many"]) F_law_draws fun _ _ _ _ _ _ us hl => match us, hl with | [_, _], _ => rfl)⟩
  have gTake : Glob P w K mg base "_law_take" 1 ["_law_hand", "_law_many"] (spTake) := ⟨_, f_law_take, ok_take F_law_take T, He.glo_ok X G (c.d.fact 15 (f := .glo "_law_take") rfl), F_law_take.kp, (FunD.bindsN (ps := ["_law_hand", "_law_many"]) F_law_take fun _ _ _ _ _ _ us hl => match us, hl with | [_, _], _ => rfl)⟩
  have bV := (FunD.bindsN (ps := ["_law_hand", "_law_depth"]) F_law_value fun _ _ _ _ _ _ us hl => match us, hl with | [_, _], _ => rfl)
  have mV := He.glo_ok X G (c.d.fact 16 (f := .glo "_law_value") rfl)
  have vv : ∀ d : Nat, _ := ok_value (P := P) (w := w) (base := base) F_law_value T gTake mV F_law_value.kp bV
  have gV1 : Glob P w K mg base "_law_value" 3 ["_law_hand", "_law_depth"] (spVal K 1) := ⟨_, f_law_value, vv 1, mV, F_law_value.kp, bV⟩
  have gV2 : Glob P w K mg base "_law_value" 4 ["_law_hand", "_law_depth"] (spVal K 2) := ⟨_, f_law_value, vv 2, mV, F_law_value.kp, bV⟩
  have gLDo : Glob P w K mg base "_law_do" 1 ["_law_word", "_law_found"] (spLDo K) := ⟨_, f_law_do, ok_ldo F_law_do T, He.glo_ok X G (c.d.fact 17 (f := .glo "_law_do") rfl), F_law_do.kp, (FunD.bindsN (ps := ["_law_word", "_law_found"]) F_law_do fun _ _ _ _ _ _ us hl => match us, hl with | [_, _], _ => rfl)⟩
  have gLRun : Glob P w K mg base "_law_run" 2 ["_law_program", "_law_inputs", "_law_limit"] (spLRun K) := ⟨_, f_law_run, ok_lrun F_law_run T gLDo, He.glo_ok X G (c.d.fact 18 (f := .glo "_law_run") rfl), F_law_run.kp, (FunD.bindsN (ps := ["_law_program", "_law_inputs", "_law_limit"]) F_law_run fun _ _ _ _ _ _ us hl => match us, hl with | [_, _, _], _ => rfl)⟩
  have gEnd : Glob P w K mg base "_law_endless" 4 ["_law_hand"] (spEnd K) := ⟨_, f_law_endless, ok_lend F_law_endless T gTake gV1, He.glo_ok X G (c.d.fact 19 (f := .glo "_law_endless") rfl), F_law_endless.kp, (FunD.bindsN (ps := ["_law_hand"]) F_law_endless fun _ _ _ _ _ _ us hl => match us, hl with | [_], _ => rfl)⟩
  exact ok_law F T hu gDraws gTake gV2 gEnd gLRun gRP gWP gCN gUni
end OgT
open PySem PySem.W PySem.Calls PyProof.Rows
set_option maxHeartbeats 0 in
theorem PySem.Challenge.cw_ownglass_k47_whole_never_through_univers_holds : PySem.Challenge.rw_ownglass_k47_whole_never_through_univers.Holds := by
  w_on; o_law
  refine HandSHeadRun.head_any (r := OgT.R) (q := view OgT.R.prog [42]) (H := OgT.hk) (ob := OgT.ob) (M := 4000) (loose := OgT.lo1 ++ OgT.lo2) (d := HandSHeadRun.topDef OgT.R.prog 42) (kwd := []) OgT.ob_eq
    (by kernel_rfl) (fun s => by kernel_rfl) OgT.run (by kernel_rfl) (by kernel_rfl) (by kernel_rfl) (by rfl) (by first | assumption | decide +kernel) (by decide +kernel) ⟨rfl, rfl, rfl, rfl, rfl, by decide +kernel⟩ ?hw ?hc
  case hw => w_witness2
  case hc =>
    refine L2.walk_ofE (l := PySem.Challenge.rw_ownglass_k47_whole_never_through_univers) (n := 63) (k := 8) (x := "_law_script") (CX := L2.CX0) rfl (by decide) (by kernel_rfl) ⟨rfl, by decide, by decide⟩ ?F (fun _ _ _ _ z => z)
    intro w mg fa h Y G hmg0
    obtain ⟨K, KX, c, e⟩ := Y
    have hmg : mg ("law" : PySem.Str) = some (.ref fa) := by
      have e : (HandSHeadRun.topDef OgT.R.prog 42).name = ("law" : PySem.Str) := by kernel_rfl
      rw [← e]
      exact hmg0
    obtain ⟨fd, hb, hF⟩ := OgT.facts (P := PySem.Challenge.rw_ownglass_k47_whole_never_through_univers.prog) (w := w) KX G hmg c e
    exact ⟨K, fd, OgW.spLaw K, KX, hb, fun H a ns hl _ hS => ⟨a, ns, rfl, hS, hl, fun _ => rfl⟩, hF⟩
