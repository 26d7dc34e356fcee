import PyProof.Rows.All
import Wide.All
import OpenK.AllK
import Wide.FinOn
import HandS.ForMost
import HandS.Exc
import HandS.ExcOwn
import HandS.CallSlots
import HandS.Flow
import HandS.Style
import HandS.Conv
import HandS.Strs
import HandS.Property
import HandS.Defaults
import HandS.IsInst
import HandS.More
import HandS.OwnEq
import HandS.CallLocal
import KE.KStateDown
import HandS.Head0
import HandS.Head1
import HandS.Head2
import HandS.HeadEnd
import HandS.HeadHook1
import HandS.HeadHook2
import PySem.Challenge.RW_orderlycore_k73_whole_units_by_the_clock
set_option Elab.async false
set_option linter.all false
set_option maxRecDepth 100000
set_option maxHeartbeats 4000000
/-! A mini interpreter for the part of Python that the linked texts use: values, heap, IR, evaluation. -/
namespace Mi
open PySem
abbrev Key := L2.Key

inductive W where
  | non | bl (b : Bool) | int (i : Int) | str (x : Str) | tup (ws : List W) | ref (n : Nat) | fn (k : Nat) | cl (k : Nat)
inductive O where
  | lst (ws : List W) | dic (kvs : List (Key × W)) | ins (c : Nat) (fs : List (Nat × W)) | frz (ws : List W)

/-! ### the heap, a tree -/
inductive T where
  | e | n (l : T) (o : Option O) (r : T)
def T.get : T → Nat → Option O
  | .e, _ => none
  | .n l o r, k => match k with
    | 0 => o
    | k + 1 => match k % 2 with
      | 0 => l.get (k / 2)
      | _ => r.get (k / 2)
def T.setF : Nat → T → Nat → O → T
  | 0, t, _, _ => t
  | f + 1, t, k, x => match t with
    | .e => match k with
      | 0 => .n .e (some x) .e
      | k + 1 => match k % 2 with
        | 0 => .n (T.setF f .e (k / 2) x) none .e
        | _ => .n .e none (T.setF f .e (k / 2) x)
    | .n l o r => match k with
      | 0 => .n l (some x) r
      | k + 1 => match k % 2 with
        | 0 => .n (T.setF f l (k / 2) x) o r
        | _ => .n l o (T.setF f r (k / 2) x)
def T.set (t : T) (k : Nat) (x : O) : T := T.setF (k + 1) t k x
theorem T.get_e (k : Nat) : T.get .e k = none := by unfold T.get; rfl
theorem T.get_n0 (l : T) (o : Option O) (r : T) : T.get (.n l o r) 0 = o := by simp [T.get]
theorem T.get_nl (l : T) (o : Option O) (r : T) {k : Nat} (h : k % 2 = 0) : T.get (.n l o r) (k + 1) = l.get (k / 2) := by
  simp only [T.get]; rw [h]; rfl
theorem T.get_nr (l : T) (o : Option O) (r : T) {k : Nat} (h : k % 2 = 1) : T.get (.n l o r) (k + 1) = r.get (k / 2) := by
  simp only [T.get]; rw [h]; rfl
theorem T.get_setF : ∀ (f : Nat) (t : T) (k : Nat) (x : O), k < f → ∀ m, T.get (T.setF f t k x) m = if m = k then some x else T.get t m := by
  intro f
  induction f with
  | zero => intro t k x h; omega
  | succ f ih =>
    intro t k x h m
    cases t with
    | e =>
      cases k with
      | zero =>
        simp only [T.setF]
        cases m with
        | zero => simp [T.get]
        | succ m =>
          rw [if_neg (by omega), T.get_e]
          rcases Nat.mod_two_eq_zero_or_one m with q | q
          · rw [T.get_nl _ _ _ q, T.get_e]
          · rw [T.get_nr _ _ _ q, T.get_e]
      | succ k =>
        rcases Nat.mod_two_eq_zero_or_one k with q | q
        · have e1 : T.setF (f + 1) .e (k + 1) x = .n (T.setF f .e (k / 2) x) none .e := by simp only [T.setF]; rw [q]; rfl
          rw [e1]
          cases m with
          | zero => rw [T.get_n0, if_neg (by omega), T.get_e]
          | succ m =>
            rcases Nat.mod_two_eq_zero_or_one m with q2 | q2
            · rw [T.get_nl _ _ _ q2, ih _ _ _ (by omega), T.get_e, T.get_e]
              by_cases c : m = k
              · subst c; simp
              · rw [if_neg (by omega), if_neg (by omega)]
            · rw [T.get_nr _ _ _ q2, T.get_e, T.get_e, if_neg (by omega)]
        · have e1 : T.setF (f + 1) .e (k + 1) x = .n .e none (T.setF f .e (k / 2) x) := by simp only [T.setF]; rw [q]; rfl
          rw [e1]
          cases m with
          | zero => rw [T.get_n0, if_neg (by omega), T.get_e]
          | succ m =>
            rcases Nat.mod_two_eq_zero_or_one m with q2 | q2
            · rw [T.get_nl _ _ _ q2, T.get_e, T.get_e, if_neg (by omega)]
            · rw [T.get_nr _ _ _ q2, ih _ _ _ (by omega), T.get_e, T.get_e]
              by_cases c : m = k
              · subst c; simp
              · rw [if_neg (by omega), if_neg (by omega)]
    | n l o r =>
      cases k with
      | zero =>
        simp only [T.setF]
        cases m with
        | zero => simp [T.get]
        | succ m =>
          rw [if_neg (by omega)]
          rcases Nat.mod_two_eq_zero_or_one m with q | q
          · rw [T.get_nl _ _ _ q, T.get_nl _ _ _ q]
          · rw [T.get_nr _ _ _ q, T.get_nr _ _ _ q]
      | succ k =>
        rcases Nat.mod_two_eq_zero_or_one k with q | q
        · have e1 : T.setF (f + 1) (.n l o r) (k + 1) x = .n (T.setF f l (k / 2) x) o r := by simp only [T.setF]; rw [q]; rfl
          rw [e1]
          cases m with
          | zero => rw [T.get_n0, if_neg (by omega), T.get_n0]
          | succ m =>
            rcases Nat.mod_two_eq_zero_or_one m with q2 | q2
            · rw [T.get_nl _ _ _ q2, ih _ _ _ (by omega), T.get_nl _ _ _ q2]
              by_cases c : m = k
              · subst c; simp
              · rw [if_neg (by omega), if_neg (by omega)]
            · rw [T.get_nr _ _ _ q2, T.get_nr _ _ _ q2, if_neg (by omega)]
        · have e1 : T.setF (f + 1) (.n l o r) (k + 1) x = .n l o (T.setF f r (k / 2) x) := by simp only [T.setF]; rw [q]; rfl
          rw [e1]
          cases m with
          | zero => rw [T.get_n0, if_neg (by omega), T.get_n0]
          | succ m =>
            rcases Nat.mod_two_eq_zero_or_one m with q2 | q2
            · rw [T.get_nl _ _ _ q2, T.get_nl _ _ _ q2, if_neg (by omega)]
            · rw [T.get_nr _ _ _ q2, ih _ _ _ (by omega), T.get_nr _ _ _ q2]
              by_cases c : m = k
              · subst c; simp
              · rw [if_neg (by omega), if_neg (by omega)]
theorem T.get_set (t : T) (k : Nat) (x : O) (m : Nat) : T.get (T.set t k x) m = if m = k then some x else T.get t m :=
  T.get_setF _ _ _ _ (by omega) _

structure Hh where
  t : T
  n : Nat
def Hh.get (h : Hh) (i : Nat) : Option O := h.t.get i
def Hh.push (h : Hh) (o : O) : Hh := ⟨h.t.set h.n o, h.n + 1⟩
def Hh.put (h : Hh) (i : Nat) (o : O) : Hh := ⟨h.t.set i o, h.n⟩
theorem Hh.get_push (h : Hh) (o : O) (j : Nat) : (h.push o).get j = if j = h.n then some o else h.get j := T.get_set _ _ _ _
theorem Hh.get_put (h : Hh) (i : Nat) (o : O) (j : Nat) : (h.put i o).get j = if j = i then some o else h.get j := T.get_set _ _ _ _
theorem Hh.n_push (h : Hh) (o : O) : (h.push o).n = h.n + 1 := rfl
theorem Hh.n_put (h : Hh) (i : Nat) (o : O) : (h.put i o).n = h.n := rfl

/-! ### results -/
abbrev Fs := List (Nat × W)
inductive R (α : Type) where
  | ok (a : α) (h : Hh) | ex (c : Nat) (fs : Fs) (h : Hh) | no
def R.bind {α β : Type} (r : R α) (f : α → Hh → R β) : R β := match r with
  | .ok a h => f a h
  | .ex c fs h => .ex c fs h
  | .no => .no
def R.of {α : Type} (h : Hh) : Option α → R α
  | some a => .ok a h
  | none => .no
abbrev Sl := List (Option W)
inductive RS where
  | nx (s : Sl) (h : Hh) | rt (w : W) (h : Hh) | bk (s : Sl) (h : Hh) | ct (s : Sl) (h : Hh) | ex (c : Nat) (fs : Fs) (s : Sl) (h : Hh) | no
def R.toS {α : Type} (r : R α) (s : Sl) (f : α → Hh → RS) : RS := match r with
  | .ok a h => f a h
  | .ex c fs h => .ex c fs s h
  | .no => .no

/-! ### the text -/
inductive Bop where | add | sub | mul | fdiv | mod | pow | shl | shr | band | bor | bxor
  deriving DecidableEq
inductive Cop where | eq | ne | lt | le | gt | ge | is | isn | isin | nin
  deriving DecidableEq
inductive Bc where | len1 | abs1 | int1 | list1 | tuple1 | sorted1 | dict1 | repr1 | any1 | all1 | sum1 | min1 | max1 | max2 | min2 | divmod2
  deriving DecidableEq
inductive Bm where | append1 | insert2 | pop0 | pop1 | remove1
  deriving DecidableEq
inductive Bt where | int | bool | str | list | tuple | dict
  deriving DecidableEq
inductive Ty where | own (k : Nat) | bi (b : Bt)
mutual
inductive E where
  | cst (w : W) | var (i : Nat) | glo (w : W)
  | bin (op : Bop) (a b : E) | neg (a : E) | notE (a : E) | andE (a b : E) | orE (a b : E)
  | cmp (op : Cop) (a b : E) | cmp2 (op op' : Cop) (a b c : E) | ife (c a b : E)
  | fld (o : E) (f : Nat) | ix (o i : E) | rev (o : E) | slc (o : E) (lo hi : Eo)
  | lst (es : Es) | tup (es : Es) | dic0 | dic (ks vs : Es)
  | call (k : Nat) (es : Es) (pm : List Nat) | make (c : Nat) (es : Es) (pm : List Nat) | meth (o : E) (m : Nat) (es : Es) (pm : List Nat) | callv (i : Nat) (es : Es)
  | bc (b : Bc) (es : Es) | bm (b : Bm) (o : E) (es : Es) | isi (a : E) (tup : Bool) (ts : List Ty) | rngL (istup : Bool) (es : Es) | sset (a : E)
  | comp (elt : E) (tg : Tg) (it : It) (cond : Eo) (own : List Nat)
inductive Es where
  | nil | cons (e : E) (es : Es)
inductive Eo where
  | none | some (e : E)
inductive It where
  | seq (e : E) | rng1 (a : E) | rng2 (a b : E) | enm (e : E) | zip (a b : E)
inductive Tg where
  | name (i : Nat) | tup (ts : Tgs) | fld (o : E) (f : Nat) | sub (o i : E) | slc (o : E) (lo hi : Eo)
inductive Tgs where
  | nil | cons (t : Tg) (ts : Tgs)
end
mutual
inductive S where
  | expr (e : E) | asg (t : Tg) (e : E) | par (is : List Nat) (es : Es) | ret (e : E) | retN | pass | brk | cont | never
  | ifS (c : E) (a b : Ss) | whl (c : E) (b : Ss) | forS (t : Tg) (it : It) (b : Ss)
inductive Ss where
  | nil | cons (s : S) (ss : Ss)
end
end Mi

set_option Elab.async false
set_option linter.all false
set_option maxRecDepth 100000
set_option maxHeartbeats 4000000
/-! Evaluation. -/
namespace Mi
open PySem

structure ClsI where
  ms : List (Nat × Nat)
  ps : List (Nat × Nat)
  ini : Nat
  eqm : Option Nat
structure FunI where
  np : Nat
  ns : Nat
  body : Ss
structure Pr where
  fs : List FunI
  cs : List ClsI
structure Cal where
  call : Nat → List W → Hh → R W
  cs : List ClsI
  wf : Nat

def R.nx {α : Type} (r : R α) : R α := match r with
  | .ok a h => .ok a h
  | _ => .no
def R.bindN {α β : Type} (r : R α) (f : α → Hh → R β) : R β := match r with
  | .ok a h => f a h
  | _ => .no

/-! ### values -/
def keyW : W → Option Key
  | .int i => some (.inl i)
  | .str x => some (.inr x)
  | _ => none
def kW : Key → W
  | .inl i => .int i
  | .inr x => .str x
def seqAt (h : Hh) : W → Option (List W)
  | .tup ws => some ws
  | .ref n => match h.get n with
    | some (.lst ws) => some ws
    | some (.frz ws) => some ws
    | _ => none
  | _ => none
def dat : Nat → Hh → W → Option PyData
  | 0, _, _ => none
  | n + 1, h, w => match w with
    | .non => some .none
    | .bl b => some (.bool b)
    | .int i => some (.int i)
    | .str x => if PyData.canLay0 (.str x) = true then some (.str x) else none
    | .tup ws => (ws.mapM fun w => dat n h w).map .tuple
    | .ref k => match h.get k with
      | some (.lst ws) => (ws.mapM fun w => dat n h w).map .list
      | some (.frz ws) => (ws.mapM fun w => dat n h w).map .list
      | _ => none
    | _ => none
def dataD : Nat := 12
def tru (h : Hh) : W → Option Bool
  | .non => some false
  | .bl b => some b
  | .int i => some (i != 0)
  | .str x => if x.length ≤ sizeLine then some ((x.length : Int) != 0) else none
  | .tup ws => some (!ws.isEmpty)
  | .ref n => match h.get n with
    | some (.lst ws) => some (!ws.isEmpty)
    | some (.frz ws) => some (!ws.isEmpty)
    | some (.dic kvs) => some (!kvs.isEmpty)
    | _ => none
  | _ => none
def newL (h : Hh) (ws : List W) : R W := if ws.length ≤ sizeLine then .ok (.ref h.n) (h.push (.lst ws)) else .no
def newT (h : Hh) (ws : List W) : R W := if ws.length ≤ sizeLine then .ok (.tup ws) h else .no

def intI (h : Hh) (x y : W) (f : Int → Int → Option W) : R W := match x, y with
  | .int i, .int j => .of h (f i j)
  | _, _ => .no
instance (i j : Int) : Decidable (L2.CMul i j) := inferInstanceAs (Decidable (_ ∨ _))
instance (i j : Int) : Decidable (L2.CDiv i j) := inferInstanceAs (Decidable (_ ∧ _))
instance (i j : Int) : Decidable (L2.CPow i j) := inferInstanceAs (Decidable (_ ∧ _ ∧ _))
def addW (x y : W) (h : Hh) : R W := match x, y with
  | .int i, .int j => .ok (.int (i + j)) h
  | .str a, .str b => if a.length + b.length ≤ sizeLine then .ok (.str (a ++ b)) h else .no
  | .tup xs, .tup ys => if xs.isEmpty then .no else newT h (xs ++ ys)
  | .ref m, .ref n => match h.get m, h.get n with
    | some (.lst xs), some (.lst ys) => newL h (xs ++ ys)
    | _, _ => .no
  | _, _ => .no
def mulW (x y : W) (h : Hh) : R W := match x, y with
  | .int i, .int j => if L2.CMul i j then .ok (.int (i * j)) h else .no
  | .ref m, .int k => match h.get m with
    | some (.lst xs) => if -(2 ^ 63) ≤ k ∧ k < 2 ^ 63 ∧ xs.length * k.toNat ≤ sizeLine then .ok (.ref h.n) (h.push (.lst (List.replicate k.toNat xs).flatten)) else .no
    | _ => .no
  | _, _ => .no
def binW (op : Bop) (x y : W) (h : Hh) : R W := match op with
  | .add => addW x y h
  | .mul => mulW x y h
  | .sub => intI h x y fun i j => some (.int (i - j))
  | .fdiv => intI h x y fun i j => if L2.CDiv i j then some (.int (i / j)) else none
  | .mod => intI h x y fun i j => if 0 < j then some (.int (i % j)) else none
  | .pow => intI h x y fun i j => if L2.CPow i j then some (.int (i ^ j.toNat)) else none
  | .shl => intI h x y fun i j => if L2.CPow i j then some (.int (i * 2 ^ j.toNat)) else none
  | .shr => intI h x y fun i j => if 0 ≤ j then some (.int (i / 2 ^ j.toNat)) else none
  | .band => intI h x y fun i j => some (.int (Builtin.bitAnd i j))
  | .bor => intI h x y fun i j => some (.int (Builtin.bitOr i j))
  | .bxor => intI h x y fun i j => some (.int (Builtin.bitXor i j))

def flatW : W → Bool
  | .non => true | .bl _ => true | .int _ => true | .str _ => true | _ => false
def eqF : W → W → Bool
  | .non, .non => true
  | .bl a, .bl b => a == b
  | .bl a, .int b => (if a then 1 else 0) == b
  | .int a, .bl b => a == (if b then 1 else 0)
  | .int a, .int b => a == b
  | .str a, .str b => a == b
  | _, _ => false
def isNonW : W → Bool
  | .non => true | _ => false
def valK (kvs : List (Key × W)) (k : Key) : Option W := (kvs.find? fun kv => decide (kv.1 = k)).map (·.2)
def putKW (kvs : List (Key × W)) (k : Key) (v : W) : List (Key × W) :=
  if (kvs.any fun kv => decide (kv.1 = k)) = true then kvs.map (fun kv => if kv.1 = k then (kv.1, v) else kv) else kvs ++ [(k, v)]
def dropKW (kvs : List (Key × W)) (k : Key) : List (Key × W) := kvs.filter fun kv => decide (kv.1 ≠ k)
/-- x in y -/
def inW (x y : W) (h : Hh) : Option Bool := match seqAt h y with
  | some ws => if flatW x && ws.all flatW then some (ws.any fun z => eqF z x) else none
  | none => match y with
    | .ref n => match h.get n, keyW x with
      | some (.dic kvs), some k => some (valK kvs k).isSome
      | _, _ => none
    | _ => none
def eqData (x y : W) (h : Hh) : Option Bool := match dat dataD h x, dat dataD h y with
  | some d, some e => some (PyData.eqv d e)
  | _, _ => none
def ownEq (C : Cal) (x : W) (h : Hh) : Option Nat := match x with
  | .ref n => match h.get n with
    | some (.ins c _) => (C.cs[c]?).bind fun q => q.eqm
    | _ => none
  | _ => none
def cmpW (C : Cal) (op : Cop) (x y : W) (h : Hh) : R W := match op with
  | .eq => match ownEq C x h with
    | some k => (C.call k [x, y] h).bindN fun r h1 => match r with
      | .bl b => .ok (.bl b) h1
      | _ => .no
    | none => .of h ((eqData x y h).map .bl)
  | .ne => match ownEq C x h with
    | some k => (C.call k [x, y] h).bindN fun r h1 => match r with
      | .bl b => .ok (.bl (!b)) h1
      | _ => .no
    | none => .of h ((eqData x y h).map fun b => .bl (!b))
  | .is => match y with
    | .non => .ok (.bl (isNonW x)) h
    | .bl b => match x with
      | .bl a => .ok (.bl (decide (a = b))) h
      | _ => .no
    | _ => .no
  | .isn => match y with
    | .non => .ok (.bl (!isNonW x)) h
    | .bl b => match x with
      | .bl a => .ok (.bl (!decide (a = b))) h
      | _ => .no
    | _ => .no
  | .lt => intI h x y fun i j => some (.bl (decide (i < j)))
  | .le => intI h x y fun i j => some (.bl (decide (i ≤ j)))
  | .gt => intI h x y fun i j => some (.bl (decide (j < i)))
  | .ge => intI h x y fun i j => some (.bl (decide (j ≤ i)))
  | .isin => .of h ((inW x y h).map .bl)
  | .nin => .of h ((inW x y h).map fun b => .bl (!b))

/-! ### built-ins -/
def intsW : List W → Option (List Int)
  | [] => some []
  | .int i :: r => (intsW r).map (i :: ·)
  | _ :: _ => none
def boolsW : List W → Option (List Bool)
  | [] => some []
  | .bl i :: r => (boolsW r).map (i :: ·)
  | _ :: _ => none
def insI (i : Int) : List Int → List Int
  | [] => [i]
  | j :: r => if i ≤ j then i :: j :: r else j :: insI i r
def sortI : List Int → List Int
  | [] => []
  | i :: r => insI i (sortI r)
def dedI : List Int → List Int
  | [] => []
  | [i] => [i]
  | i :: j :: r => if i = j then dedI (j :: r) else i :: dedI (j :: r)
def minI : Int → List Int → Int
  | m, [] => m
  | m, i :: r => minI (if i < m then i else m) r
def maxI : Int → List Int → Int
  | m, [] => m
  | m, i :: r => maxI (if m < i then i else m) r
def lenW (h : Hh) : W → Option Nat
  | .str x => if x.length ≤ sizeLine then some x.length else none
  | .tup ws => some ws.length
  | .ref n => match h.get n with
    | some (.lst ws) => some ws.length
    | some (.frz ws) => some ws.length
    | some (.dic kvs) => some kvs.length
    | _ => none
  | _ => none
def sorted1 (h : Hh) (ns : List Int) : R W := if ns.length < 64 then .ok (.ref h.n) (h.push (.lst ((sortI ns).map .int))) else .no
def keysI : List (Key × W) → Option (List Int)
  | [] => some []
  | (.inl i, _) :: r => (keysI r).map (i :: ·)
  | _ :: _ => none
def reprW (x : W) (h : Hh) : Option Str := match x with
  | .non => some "None"
  | .bl b => some (if b then "True" else "False")
  | .int i => if i.natAbs.log2 < 1920 then some (toString i) else none
  | .str x => if (reprText x).length ≤ sizeLine then some (reprText x) else none
  | _ => none
def bcW (b : Bc) (xs : List W) (h : Hh) : R W := match b, xs with
  | .len1, [x] => .of h ((lenW h x).map fun n => .int n)
  | .abs1, [.int i] => .ok (.int (if i < 0 then -i else i)) h
  | .int1, [.int i] => .ok (.int i) h
  | .int1, [.bl k] => .ok (.int (if k then 1 else 0)) h
  | .list1, [x] => match seqAt h x with
    | some ws => .ok (.ref h.n) (h.push (.lst ws))
    | none => match x with
      | .ref n => match h.get n with
        | some (.dic kvs) => .ok (.ref h.n) (h.push (.lst (kvs.map fun kv => kW kv.1)))
        | _ => .no
      | _ => .no
  | .tuple1, [x] => match seqAt h x with
    | some ws => .ok (.tup ws) h
    | none => .no
  | .sorted1, [.ref n] => match seqAt h (.ref n) with
    | some ws => match intsW ws with
      | some ns => sorted1 h ns
      | none => .no
    | none => match h.get n with
      | some (.dic kvs) => match keysI kvs with
        | some ns => sorted1 h ns
        | none => .no
      | _ => .no
  | .dict1, [.ref n] => match h.get n with
    | some (.dic kvs) => .ok (.ref h.n) (h.push (.dic kvs))
    | _ => .no
  | .repr1, [x] => .of h ((reprW x h).map .str)
  | .any1, [.ref n] => match (seqAt h (.ref n)).bind boolsW with
    | some bs => .ok (.bl (bs.any id)) h
    | none => .no
  | .all1, [.ref n] => match (seqAt h (.ref n)).bind boolsW with
    | some bs => .ok (.bl (bs.all id)) h
    | none => .no
  | .sum1, [.ref n] => match (seqAt h (.ref n)).bind intsW with
    | some ns => .ok (.int ns.sum) h
    | none => .no
  | .min1, [.ref n] => match (seqAt h (.ref n)).bind intsW with
    | some (n :: ns) => .ok (.int (minI n ns)) h
    | _ => .no
  | .max1, [.ref n] => match (seqAt h (.ref n)).bind intsW with
    | some (n :: ns) => .ok (.int (maxI n ns)) h
    | _ => .no
  | .max2, [.int i, .int j] => .ok (.int (if j > i then j else i)) h
  | .min2, [.int i, .int j] => .ok (.int (if j < i then j else i)) h
  | .divmod2, [.int i, .int j] => if L2.CDiv i j then .ok (.tup [.int (i / j), .int (i % j)]) h else .no
  | _, _ => .no
def remAt (x : W) (h : Hh) : List W → Option Nat
  | [] => none
  | y :: r => match eqData y x h with
    | some true => some 0
    | some false => (remAt x h r).map (· + 1)
    | none => none
def bmW (b : Bm) (o : W) (xs : List W) (h : Hh) : R W := match o with
  | .ref n => match h.get n with
    | some (.lst ws) => match b, xs with
      | .append1, [y] => if ws.length < sizeLine then .ok .non (h.put n (.lst (ws ++ [y]))) else .no
      | .insert2, [.int i, y] => if i = 0 ∧ ws.length < sizeLine then .ok .non (h.put n (.lst (y :: ws))) else .no
      | .pop0, [] => match ws[ws.length - 1]? with
        | some y => .ok y (h.put n (.lst ws.dropLast))
        | none => .no
      | .pop1, [.int i] => if -(2 ^ 63) ≤ i ∧ i < 2 ^ 63 then match L2.ixN ws.length i with
        | some k => match ws[k]? with
          | some y => .ok y (h.put n (.lst (ws.eraseIdx k)))
          | none => .no
        | none => .no else .no
      | .remove1, [x] => match remAt x h ws with
        | some k => .ok .non (h.put n (.lst (ws.eraseIdx k)))
        | none => .no
      | _, _ => .no
    | some (.dic kvs) => match b, xs with
      | .pop1, [x] => match keyW x with
        | some k => match valK kvs k with
          | some v => .ok v (h.put n (.dic (dropKW kvs k)))
          | none => .no
        | none => .no
      | _, _ => .no
    | _ => .no
  | _ => .no

/-- the receiver is a list -/
def isL (h : Hh) (w : W) : Bool := match w with
  | .ref n => match h.get n with
    | some (.lst _) => true
    | _ => false
  | _ => false
/-- the receiver is a dict -/
def isD (h : Hh) (w : W) : Bool := match w with
  | .ref n => match h.get n with
    | some (.dic _) => true
    | _ => false
  | _ => false
def kindW (h : Hh) (w : W) : Option Bool := if isL h w then some true else if isD h w then some false else none
/-- isinstance: own classes ts, built-in ones by name bs -/
def tyName (h : Hh) : W → Option (Sum Nat (List Bt))
  | .non => some (.inr [])
  | .bl _ => some (.inr [.bool, .int])
  | .int _ => some (.inr [.int])
  | .str _ => some (.inr [.str])
  | .tup _ => some (.inr [.tuple])
  | .ref n => match h.get n with
    | some (.lst _) => some (.inr [.list])
    | some (.frz _) => some (.inr [.list])
    | some (.dic _) => some (.inr [.dict])
    | some (.ins c _) => some (.inl c)
    | none => none
  | _ => none
def isOne (h : Hh) (x : W) (t : Ty) : Option Bool := match tyName h x, t with
  | some (.inl c), .own d => if c = d then some true else none
  | some (.inr _), .own _ => some false
  | some (.inr ns), .bi b => some (ns.contains b)
  | _, _ => none
def isiW (h : Hh) (x : W) : List Ty → Option Bool
  | [] => some false
  | t :: ts => match isOne h x t with
    | some true => some true
    | some false => isiW h x ts
    | none => none
def rngW (istup : Bool) (xs : List W) (h : Hh) : R W :=
  let go := fun (a b : Int) => if -(2 ^ 62) ≤ a ∧ a < 2 ^ 62 ∧ -(2 ^ 62) ≤ b ∧ b < 2 ^ 62 ∧ (b - a).toNat ≤ 2 ^ 24 then
      let ws := (List.range (b - a).toNat).map fun i => W.int (a + (i : Nat))
      if istup then .ok (.tup ws) h else .ok (.ref h.n) (h.push (.lst ws))
    else .no
  match xs with
  | [.int b] => go 0 b
  | [.int a, .int b] => go a b
  | _ => .no
def ssetW (x : W) (h : Hh) : R W := match (seqAt h x).bind intsW with
  | some ns => if ns.length < 64 then .ok (.ref h.n) (h.push (.lst ((dedI (sortI ns)).map .int))) else .no
  | none => .no

/-! ### subscripts, slices, fields -/
def ixW (x i : W) (h : Hh) : Option W := match seqAt h x with
  | some ws => match i with
    | .int j => L2.atI ws j
    | _ => none
  | none => match x with
    | .ref n => match h.get n, keyW i with
      | some (.dic kvs), some k => valK kvs k
      | _, _ => none
    | _ => none
def cutW (ws : List W) (lo hi : Option Int) : List W := (ws.drop (HT.sIx ws.length 0 lo)).take (HT.sIx ws.length ws.length hi - HT.sIx ws.length 0 lo)
def slcW (x : W) (lo hi : Option Int) (h : Hh) : R W := match x with
  | .tup ws => if HT.sIx ws.length 0 lo = 0 ∧ HT.sIx ws.length ws.length hi = ws.length then .no else .ok (.tup (cutW ws lo hi)) h
  | _ => match seqAt h x with
    | some ws => .ok (.ref h.n) (h.push (.lst (cutW ws lo hi)))
    | none => .no
def revW (x : W) (h : Hh) : R W := match x with
  | .ref _ => match seqAt h x with
    | some ws => .ok (.ref h.n) (h.push (.lst ws.reverse))
    | none => .no
  | _ => .no
def fldW (C : Cal) (x : W) (f : Nat) (h : Hh) : R W := match x with
  | .ref n => match h.get n with
    | some (.ins c fs) => match C.cs[c]? with
      | some q => match q.ps.lookup f with
        | some k => C.call k [x] h
        | none => match q.ms.lookup f with
          | some _ => .no
          | none => .of h (fs.lookup f)
      | none => .no
    | _ => .no
  | _ => .no
def putFW (f : Nat) (v : W) : Fs → Fs
  | [] => [(f, v)]
  | (g, x) :: r => if g = f then (g, v) :: r else (g, x) :: putFW f v r
def setFld (C : Cal) (x : W) (f : Nat) (v : W) (h : Hh) : Option Hh := match x with
  | .ref n => match h.get n with
    | some (.ins c fs) => match C.cs[c]? with
      | some q => match q.ps.lookup f, q.ms.lookup f with
        | none, none => if fs.length < 1000 then some (h.put n (.ins c (putFW f v fs))) else none
        | _, _ => none
      | none => none
    | _ => none
  | _ => none
def setIx (x i v : W) (h : Hh) : Option Hh := match x with
  | .ref n => match h.get n with
    | some (.lst ws) => match i with
      | .int k => match L2.ixN ws.length k with
        | some j => some (h.put n (.lst (ws.set j v)))
        | none => none
      | _ => none
    | some (.dic kvs) => match keyW i with
      | some k => if kvs.length < sizeLine then some (h.put n (.dic (putKW kvs k v))) else none
      | none => none
    | _ => none
  | _ => none
/-- x[:] = v -/
def setAll (x v : W) (h : Hh) : Option Hh := match x, v with
  | .ref n, .ref m => match h.get n, h.get m with
    | some (.lst _), some (.lst vs) => if n = m then none else some (h.put n (.lst vs))
    | _, _ => none
  | _, _ => none
def methOf (C : Cal) (x : W) (m : Nat) (h : Hh) : Option Nat := match x with
  | .ref n => match h.get n with
    | some (.ins c fs) => match C.cs[c]?, fs.lookup m with
      | some q, none => q.ms.lookup m
      | _, _ => none
    | _ => none
  | _ => none
def permW (pm : List Nat) (ws : List W) : Option (List W) := match pm with
  | [] => some ws
  | _ => pm.mapM fun i => ws[i]?
def makeW (C : Cal) (c : Nat) (ws : List W) (h : Hh) : R W := match C.cs[c]? with
  | some q => (C.call q.ini (.ref h.n :: ws) (h.push (.ins c []))).bind fun r h1 => match r with
    | .non => .ok (.ref h.n) h1
    | _ => .no
  | none => .no

/-! ### what is walked -/
inductive J where
  | seq (w : W) | rng (lo : Int) (n : Nat) | enm (n : Nat) | zip (a b : Nat)
def lstAt (h : Hh) (n : Nat) : Option (List W) := match h.get n with
  | some (.lst ws) => some ws
  | some (.frz ws) => some ws
  | _ => none
def J.next (j : J) (i : Nat) (h : Hh) : Option (Option W) := match j with
  | .seq w => (seqAt h w).map fun ws => ws[i]?
  | .rng lo n => some (if i < n then some (.int (lo + (i : Nat))) else none)
  | .enm n => (lstAt h n).map fun ws => (ws[i]?).map fun w => .tup [.int (i : Nat), w]
  | .zip a b => match lstAt h a, lstAt h b with
    | some xs, some ys => match xs[i]?, ys[i]? with
      | some x, some y => some (some (.tup [x, y]))
      | _, _ => some none
    | _, _ => none
def J.fuel (j : J) (h : Hh) : Nat := match j with
  | .seq w => match seqAt h w with
    | some ws => ws.length + 1
    | none => 0
  | .rng _ n => n + 1
  | .enm n => match lstAt h n with
    | some ws => ws.length + 1
    | none => 0
  | .zip a b => match lstAt h a with
    | some xs => xs.length + 1
    | none => 0
def rngJ (a b : Int) (h : Hh) : R J := if -(2 ^ 62) ≤ a ∧ a < 2 ^ 62 ∧ -(2 ^ 62) ≤ b ∧ b < 2 ^ 62 then .ok (.rng a (b - a).toNat) h else .no
def wipeS (s : Sl) : List Nat → Sl
  | [] => s
  | v :: vs => (wipeS s vs).set v none

def compL (asg : W → Sl → Hh → R Sl) (tst : Sl → Hh → R Bool) (elt : Sl → Hh → R W) (j : J) (D : Nat) (s : Sl) : Nat → Nat → Hh → R Unit
  | 0, _, _ => .no
  | k + 1, i, h => match j.next i h with
    | none => .no
    | some none => .ok () h
    | some (some w) => (asg w s h).bindN fun s1 h1 => (tst s1 h1).bindN fun b h2 => match b with
      | true => (elt s1 h2).bindN fun y h3 => match h3.get D with
        | some (.lst acc) => if acc.length < sizeLine then compL asg tst elt j D s k (i + 1) (h3.put D (.lst (acc ++ [y]))) else .no
        | _ => .no
      | false => compL asg tst elt j D s k (i + 1) h2
def forL (asg : W → Sl → Hh → R Sl) (body : Sl → Hh → RS) (j : J) : Nat → Nat → Sl → Hh → RS
  | 0, _, _, _ => .no
  | k + 1, i, s, h => match j.next i h with
    | none => .no
    | some none => .nx s h
    | some (some w) => (asg w s h).toS s fun s1 h1 => match body s1 h1 with
      | .nx s2 h2 => forL asg body j k (i + 1) s2 h2
      | .ct s2 h2 => forL asg body j k (i + 1) s2 h2
      | .bk s2 h2 => .nx s2 h2
      | r => r
def whlL (tst : Sl → Hh → R Bool) (body : Sl → Hh → RS) : Nat → Sl → Hh → RS
  | 0, _, _ => .no
  | k + 1, s, h => (tst s h).toS s fun b h1 => match b with
    | false => .nx s h1
    | true => match body s h1 with
      | .nx s2 h2 => whlL tst body k s2 h2
      | .ct s2 h2 => whlL tst body k s2 h2
      | .bk s2 h2 => .nx s2 h2
      | r => r
def getS (s : Sl) (i : Nat) : Option W := match s[i]? with
  | some (some w) => some w
  | _ => none

/-! ### evaluation -/
def tgsL : Tgs → Nat
  | .nil => 0
  | .cons _ ts => tgsL ts + 1
mutual
def evE (C : Cal) : E → Sl → Hh → R W
  | .cst w, _, h => .ok w h
  | .glo w, _, h => .ok w h
  | .var i, s, h => .of h (getS s i)
  | .bin op a b, s, h => (evE C a s h).bind fun x h1 => (evE C b s h1).bind fun y h2 => (binW op x y h2).nx
  | .neg a, s, h => (evE C a s h).bind fun x h1 => match x with
    | .int i => .ok (.int (-i)) h1
    | _ => .no
  | .notE a, s, h => (evE C a s h).bind fun x h1 => .of h1 ((tru h1 x).map fun k => .bl (!k))
  | .andE a b, s, h => (evE C a s h).bind fun x h1 => match tru h1 x with
    | some true => evE C b s h1
    | some false => .ok x h1
    | none => .no
  | .orE a b, s, h => (evE C a s h).bind fun x h1 => match tru h1 x with
    | some true => .ok x h1
    | some false => evE C b s h1
    | none => .no
  | .cmp op a b, s, h => (evE C a s h).bind fun x h1 => (evE C b s h1).bind fun y h2 => (cmpW C op x y h2).nx
  | .cmp2 op op' a b c, s, h => (evE C a s h).bind fun x h1 => (evE C b s h1).bind fun y h2 => (cmpW C op x y h2).bindN fun r h3 => match r with
    | .bl true => (evE C c s h3).bind fun z h4 => (cmpW C op' y z h4).nx
    | .bl false => .ok (.bl false) h3
    | _ => .no
  | .ife c a b, s, h => (evT C c s h).bind fun k h1 => match k with
    | true => evE C a s h1
    | false => evE C b s h1
  | .fld o f, s, h => (evE C o s h).bind fun x h1 => (fldW C x f h1).nx
  | .ix o i, s, h => (evE C o s h).bind fun x h1 => (evE C i s h1).bind fun y h2 => .of h2 (ixW x y h2)
  | .rev o, s, h => (evE C o s h).bind fun x h1 => (revW x h1).nx
  | .slc o lo hi, s, h => (evE C o s h).bind fun x h1 => (evO C lo s h1).bind fun a h2 => (evO C hi s h2).bind fun b h3 => (slcW x a b h3).nx
  | .lst es, s, h => (evEs C es s h).bind fun ws h1 => (newL h1 ws).nx
  | .tup es, s, h => (evEs C es s h).bind fun ws h1 => (newT h1 ws).nx
  | .dic0, _, h => .ok (.ref h.n) (h.push (.dic []))
  | .dic _ _, _, _ => .no
  | .call k es pm, s, h => (evEs C es s h).bind fun ws h1 => match permW pm ws with
    | some vs => C.call k vs h1
    | none => .no
  | .make c es pm, s, h => (evEs C es s h).bind fun ws h1 => match permW pm ws with
    | some vs => makeW C c vs h1
    | none => .no
  | .meth o m es pm, s, h => (evE C o s h).bind fun x h1 => match methOf C x m h1 with
    | some k => (evEs C es s h1).bind fun ws h2 => match permW pm ws with
      | some vs => C.call k (x :: vs) h2
      | none => .no
    | none => .no
  | .callv i es, s, h => match getS s i with
    | some (.fn k) => (evEs C es s h).bind fun ws h1 => C.call k ws h1
    | _ => .no
  | .bc b es, s, h => (evEs C es s h).bind fun ws h1 => (bcW b ws h1).nx
  | .bm b o es, s, h => (evE C o s h).bind fun x h1 => match kindW h1 x with
    | some k => if (k || decide (b = .pop1)) = true then (evEs C es s h1).bind fun ws h2 => if kindW h2 x = some k then (bmW b x ws h2).nx else .no else .no
    | none => .no
  | .isi a _ ts, s, h => (evE C a s h).bind fun x h1 => .of h1 ((isiW h1 x ts).map .bl)
  | .rngL tp es, s, h => (evEs C es s h).bind fun ws h1 => (rngW tp ws h1).nx
  | .sset a, s, h => (evE C a s h).bind fun x h1 => (ssetW x h1).nx
  | .comp elt tg it cond own, s, h => (evI C it s h).bind fun j h1 =>
    (compL (evG C tg) (evC C cond) (evE C elt) j h1.n (wipeS s own) (j.fuel h1) 0 (h1.push (.lst []))).bindN fun _ h2 => .ok (.ref h1.n) h2
def evEs (C : Cal) : Es → Sl → Hh → R (List W)
  | .nil, _, h => .ok [] h
  | .cons e es, s, h => (evE C e s h).bind fun x h1 => (evEs C es s h1).bind fun xs h2 => .ok (x :: xs) h2
def evO (C : Cal) : Eo → Sl → Hh → R (Option Int)
  | .none, _, h => .ok none h
  | .some e, s, h => (evE C e s h).bind fun x h1 => match x with
    | .int i => .ok (some i) h1
    | _ => .no
def evC (C : Cal) : Eo → Sl → Hh → R Bool
  | .none, _, h => .ok true h
  | .some e, s, h => evT C e s h
def evT (C : Cal) : E → Sl → Hh → R Bool
  | .notE a, s, h => (evT C a s h).bind fun k h1 => .ok (!k) h1
  | .andE a b, s, h => (evT C a s h).bind fun k h1 => match k with
    | true => evT C b s h1
    | false => .ok false h1
  | .orE a b, s, h => (evT C a s h).bind fun k h1 => match k with
    | true => .ok true h1
    | false => evT C b s h1
  | .ife c a b, s, h => (evT C c s h).bind fun k h1 => match k with
    | true => evT C a s h1
    | false => evT C b s h1
  | .cmp op a b, s, h => (evE C a s h).bind fun x h1 => (evE C b s h1).bind fun y h2 => (cmpW C op x y h2).bindN fun r h3 => match r with
    | .bl k => .ok k h3
    | _ => .no
  | .cmp2 op op' a b c, s, h => (evE C a s h).bind fun x h1 => (evE C b s h1).bind fun y h2 => (cmpW C op x y h2).bindN fun r h3 => match r with
    | .bl true => (evE C c s h3).bind fun z h4 => (cmpW C op' y z h4).bindN fun r h5 => match r with
      | .bl k => .ok k h5
      | _ => .no
    | .bl false => .ok false h3
    | _ => .no
  | e, s, h => (evE C e s h).bind fun x h1 => .of h1 (tru h1 x)
def evI (C : Cal) : It → Sl → Hh → R J
  | .seq e, s, h => (evE C e s h).bind fun x h1 => match seqAt h1 x with
    | some _ => .ok (.seq x) h1
    | none => .no
  | .rng1 a, s, h => (evE C a s h).bind fun x h1 => match x with
    | .int b => rngJ 0 b h1
    | _ => .no
  | .rng2 a b, s, h => (evE C a s h).bind fun x h1 => (evE C b s h1).bind fun y h2 => match x, y with
    | .int a, .int b => rngJ a b h2
    | _, _ => .no
  | .enm e, s, h => (evE C e s h).bind fun x h1 => match x with
    | .ref n => match lstAt h1 n with
      | some _ => .ok (.enm n) h1
      | none => .no
    | _ => .no
  | .zip a b, s, h => (evE C a s h).bind fun x h1 => (evE C b s h1).bind fun y h2 => match x, y with
    | .ref m, .ref n => match lstAt h2 m, lstAt h2 n with
      | some _, some _ => .ok (.zip m n) h2
      | _, _ => .no
    | _, _ => .no
def evG (C : Cal) : Tg → W → Sl → Hh → R Sl
  | .name i, w, s, h => .ok (s.set i (some w)) h
  | .tup ts, w, s, h => match w with
    | .tup ws => if ws.length = tgsL ts then evGs C ts ws s h else .no
    | _ => .no
  | .fld o f, w, s, h => (evE C o s h).bind fun x h1 => match setFld C x f w h1 with
    | some h2 => .ok s h2
    | none => .no
  | .sub o i, w, s, h => (evE C o s h).bind fun x h1 => (evE C i s h1).bind fun y h2 => match setIx x y w h2 with
    | some h3 => .ok s h3
    | none => .no
  | .slc o lo hi, w, s, h => match lo, hi with
    | .none, .none => (evE C o s h).bind fun x h1 => match setAll x w h1 with
      | some h2 => .ok s h2
      | none => .no
    | _, _ => .no
def evGs (C : Cal) : Tgs → List W → Sl → Hh → R Sl
  | .nil, ws, s, h => match ws with
    | [] => .ok s h
    | _ => .no
  | .cons t ts, ws, s, h => match ws with
    | w :: ws => (evG C t w s h).bind fun s1 h1 => evGs C ts ws s1 h1
    | [] => .no
end
def setPar : List Nat → List W → Sl → Option Sl
  | [], [], s => some s
  | i :: is, w :: ws, s => setPar is ws (s.set i (some w))
  | _, _, _ => none
mutual
def evS (C : Cal) : S → Sl → Hh → RS
  | .expr e, s, h => (evE C e s h).toS s fun _ h1 => .nx s h1
  | .asg t e, s, h => (evE C e s h).toS s fun x h1 => (evG C t x s h1).toS s fun s1 h2 => .nx s1 h2
  | .par is es, s, h => (evEs C es s h).toS s fun ws h1 => match setPar is ws s with
    | some s1 => .nx s1 h1
    | none => .no
  | .ret e, s, h => (evE C e s h).toS s fun x h1 => .rt x h1
  | .retN, _, h => .rt .non h
  | .pass, s, h => .nx s h
  | .brk, s, h => .bk s h
  | .cont, s, h => .ct s h
  | .never, _, _ => .no
  | .ifS c a b, s, h => (evT C c s h).toS s fun k h1 => match k with
    | true => evSs C a s h1
    | false => evSs C b s h1
  | .whl c b, s, h => whlL (evT C c) (evSs C b) C.wf s h
  | .forS t it b, s, h => (evI C it s h).toS s fun j h1 => forL (evG C t) (evSs C b) j (j.fuel h1) 0 s h1
def evSs (C : Cal) : Ss → Sl → Hh → RS
  | .nil, s, h => .nx s h
  | .cons a r, s, h => match evS C a s h with
    | .nx s1 h1 => evSs C r s1 h1
    | x => x
end
def startS (ns : Nat) (ws : List W) : Sl := ws.map some ++ List.replicate (ns - ws.length) none
def callN (P : Pr) (wf : Nat) : Nat → Nat → List W → Hh → R W
  | 0, _, _, _ => .no
  | d + 1, k, ws, h => match P.fs[k]? with
    | some f => if ws.length = f.np then (match evSs ⟨callN P wf d, P.cs, wf⟩ f.body (startS f.ns ws) h with
      | .nx _ h1 => .ok .non h1
      | .rt w h1 => .ok w h1
      | .ex c fs _ h1 => .ex c fs h1
      | _ => .no) else .no
    | none => .no
def calN (P : Pr) (wf d : Nat) : Cal := ⟨callN P wf d, P.cs, wf⟩
end Mi

set_option Elab.async false
set_option linter.all false
set_option maxRecDepth 100000
set_option maxHeartbeats 4000000
/-! How the interpreter's state lies in the abstract heap. -/
namespace Mi
open PySem PySem.Spec PyProof.Rows L2

structure Gx where
  P : Program
  w : World
  K : PySem.W.Frag
  mg : Str → Option Value
  base : Heap
  nm : List Str
  fa : Nat → Addr
  ca : Nat → Addr
abbrev Rho := List Addr
abbrev St := L2.St

mutual
inductive RelW (G : Gx) (r : Rho) (H : Hp) : W → V → Prop
  | non : RelW G r H .non .non
  | bl (b : Bool) : RelW G r H (.bl b) (.bl b)
  | int (i : Int) : RelW G r H (.int i) (.int i)
  | str (x : Str) : RelW G r H (.str x) (.str x)
  | tup {a : Addr} {ws : List W} {vs : List V} : SqT G.K H a vs → RelWs G r H ws vs → RelW G r H (.tup ws) (.ref a)
  | ref {n : Nat} {a : Addr} : r[n]? = some a → RelW G r H (.ref n) (.ref a)
  | fn (k : Nat) : RelW G r H (.fn k) (.ref (G.fa k))
  | cl (k : Nat) : RelW G r H (.cl k) (.ref (G.ca k))
inductive RelWs (G : Gx) (r : Rho) (H : Hp) : List W → List V → Prop
  | nil : RelWs G r H [] []
  | cons {w : W} {v : V} {ws : List W} {vs : List V} : RelW G r H w v → RelWs G r H ws vs → RelWs G r H (w :: ws) (v :: vs)
end
inductive RelK (G : Gx) (r : Rho) (H : Hp) : List (Key × W) → List (Key × V) → Prop
  | nil : RelK G r H [] []
  | cons {k : Key} {w : W} {v : V} {ws : List (Key × W)} {vs : List (Key × V)} : RelW G r H w v → RelK G r H ws vs → RelK G r H ((k, w) :: ws) ((k, v) :: vs)
inductive RelF (G : Gx) (r : Rho) (H : Hp) : Fs → List (Str × V) → Prop
  | nil : RelF G r H [] []
  | cons {k : Nat} {x : Str} {w : W} {v : V} {ws : Fs} {vs : List (Str × V)} : G.nm[k]? = some x → RelW G r H w v → RelF G r H ws vs → RelF G r H ((k, w) :: ws) ((x, v) :: vs)

structure Step (G : Gx) (r : Rho) (H : Hp) (r' : Rho) (H' : Hp) : Prop where
  pre : ∃ l, r' = r ++ l
  tup : ∀ a vs, SqT G.K H a vs → SqT G.K H' a vs
theorem Step.refl {G : Gx} {r : Rho} {H : Hp} : Step G r H r H := ⟨⟨[], by simp⟩, fun _ _ h => h⟩
theorem Step.trans {G : Gx} {r r1 r2 : Rho} {H H1 H2 : Hp} (a : Step G r H r1 H1) (b : Step G r1 H1 r2 H2) : Step G r H r2 H2 := by
  obtain ⟨⟨l, e⟩, t⟩ := a
  obtain ⟨⟨l', e'⟩, t'⟩ := b
  exact ⟨⟨l ++ l', by rw [e', e, List.append_assoc]⟩, fun a vs h => t' _ _ (t _ _ h)⟩
theorem Step.get {G : Gx} {r r' : Rho} {H H' : Hp} (s : Step G r H r' H') {n : Nat} {a : Addr} (h : r[n]? = some a) : r'[n]? = some a := by
  obtain ⟨⟨l, rfl⟩, _⟩ := s
  have q := (List.getElem?_eq_some_iff.mp h).1
  rw [List.getElem?_append_left q]; exact h
mutual
theorem RelW.step {G : Gx} {r r' : Rho} {H H' : Hp} (s : Step G r H r' H') : ∀ {w : W} {v : V}, RelW G r H w v → RelW G r' H' w v
  | _, _, .non => .non
  | _, _, .bl b => .bl b
  | _, _, .int i => .int i
  | _, _, .str x => .str x
  | _, _, .tup h t => .tup (s.tup _ _ h) (RelWs.step s t)
  | _, _, .ref h => .ref (s.get h)
  | _, _, .fn k => .fn k
  | _, _, .cl k => .cl k
theorem RelWs.step {G : Gx} {r r' : Rho} {H H' : Hp} (s : Step G r H r' H') : ∀ {ws : List W} {vs : List V}, RelWs G r H ws vs → RelWs G r' H' ws vs
  | _, _, .nil => .nil
  | _, _, .cons h t => .cons (RelW.step s h) (RelWs.step s t)
end
theorem RelK.step {G : Gx} {r r' : Rho} {H H' : Hp} (s : Step G r H r' H') : ∀ {ws : List (Key × W)} {vs : List (Key × V)}, RelK G r H ws vs → RelK G r' H' ws vs
  | _, _, .nil => .nil
  | _, _, .cons h t => .cons (h.step s) (RelK.step s t)
theorem RelF.step {G : Gx} {r r' : Rho} {H H' : Hp} (s : Step G r H r' H') : ∀ {ws : Fs} {vs : List (Str × V)}, RelF G r H ws vs → RelF G r' H' ws vs
  | _, _, .nil => .nil
  | _, _, .cons e h t => .cons e (h.step s) (RelF.step s t)

/-! ### lists of related values -/
section
variable {G : Gx} {r : Rho} {H : Hp}
theorem RelWs.length : ∀ {ws : List W} {vs : List V}, RelWs G r H ws vs → ws.length = vs.length
  | _, _, .nil => rfl
  | _, _, .cons _ t => by simp [RelWs.length t]
theorem RelWs.append : ∀ {ws ws' : List W} {vs vs' : List V}, RelWs G r H ws vs → RelWs G r H ws' vs' → RelWs G r H (ws ++ ws') (vs ++ vs')
  | _, _, _, _, .nil, q => q
  | _, _, _, _, .cons h t, q => .cons h (RelWs.append t q)
theorem RelWs.get : ∀ {ws : List W} {vs : List V} {i : Nat} {w : W}, RelWs G r H ws vs → ws[i]? = some w → ∃ v, vs[i]? = some v ∧ RelW G r H w v
  | _, _, _, _, .nil, e => by simp at e
  | _, _, 0, _, .cons h _, e => by simp at e; subst e; exact ⟨_, rfl, h⟩
  | _, _, i + 1, _, .cons _ t, e => by
    obtain ⟨v, a, b⟩ := RelWs.get (i := i) t (by simpa using e)
    exact ⟨v, by simpa using a, b⟩
theorem RelWs.none : ∀ {ws : List W} {vs : List V} {i : Nat}, RelWs G r H ws vs → ws[i]? = Option.none → vs[i]? = Option.none := by
  intro ws vs i q e
  have := q.length
  rw [List.getElem?_eq_none_iff] at e ⊢
  omega
theorem RelWs.set : ∀ {ws : List W} {vs : List V} {w : W} {v : V} (i : Nat), RelWs G r H ws vs → RelW G r H w v → RelWs G r H (ws.set i w) (vs.set i v)
  | _, _, _, _, _, .nil, _ => .nil
  | _, _, _, _, 0, .cons _ t, q => .cons q t
  | _, _, _, _, i + 1, .cons h t, q => .cons h (RelWs.set i t q)
theorem RelWs.drop : ∀ {ws : List W} {vs : List V} (n : Nat), RelWs G r H ws vs → RelWs G r H (ws.drop n) (vs.drop n)
  | _, _, 0, q => q
  | _, _, _ + 1, .nil => .nil
  | _, _, n + 1, .cons _ t => RelWs.drop n t
theorem RelWs.take : ∀ {ws : List W} {vs : List V} (n : Nat), RelWs G r H ws vs → RelWs G r H (ws.take n) (vs.take n)
  | _, _, 0, _ => .nil
  | _, _, _ + 1, .nil => .nil
  | _, _, n + 1, .cons h t => .cons h (RelWs.take n t)
theorem RelWs.eraseIdx : ∀ {ws : List W} {vs : List V} (n : Nat), RelWs G r H ws vs → RelWs G r H (ws.eraseIdx n) (vs.eraseIdx n)
  | _, _, _, .nil => .nil
  | _, _, 0, .cons _ t => t
  | _, _, n + 1, .cons h t => .cons h (RelWs.eraseIdx n t)
theorem RelWs.dropLast : ∀ {ws : List W} {vs : List V}, RelWs G r H ws vs → RelWs G r H ws.dropLast vs.dropLast
  | _, _, .nil => .nil
  | _, _, .cons _ .nil => .nil
  | _, _, .cons h (.cons h' t) => .cons h (RelWs.dropLast (.cons h' t))
theorem RelWs.reverse : ∀ {ws : List W} {vs : List V}, RelWs G r H ws vs → RelWs G r H ws.reverse vs.reverse
  | _, _, .nil => .nil
  | _, _, .cons h t => by rw [List.reverse_cons, List.reverse_cons]; exact (RelWs.reverse t).append (.cons h .nil)
theorem RelWs.rep {ws : List W} {vs : List V} (q : RelWs G r H ws vs) : ∀ k : Nat, RelWs G r H (List.replicate k ws).flatten (List.replicate k vs).flatten
  | 0 => .nil
  | k + 1 => by simp only [List.replicate_succ, List.flatten_cons]; exact q.append (RelWs.rep q k)
theorem RelWs.ints : ∀ {ws : List W} {vs : List V} {ns : List Int}, RelWs G r H ws vs → intsW ws = some ns → vs = ns.map V.int
  | _, _, ns, .nil, e => by simp [intsW] at e; subst e; rfl
  | _, _, ns, .cons (w := w) (ws := ws) h t, e => by
    cases w <;> simp [intsW] at e
    cases h
    obtain ⟨ms, e1, rfl⟩ := e
    rw [RelWs.ints t e1]; rfl
theorem RelWs.bools : ∀ {ws : List W} {vs : List V} {ns : List Bool}, RelWs G r H ws vs → boolsW ws = some ns → vs = ns.map V.bl
  | _, _, ns, .nil, e => by simp [boolsW] at e; subst e; rfl
  | _, _, ns, .cons (w := w) (ws := ws) h t, e => by
    cases w <;> simp [boolsW] at e
    cases h
    obtain ⟨ms, e1, rfl⟩ := e
    rw [RelWs.bools t e1]; rfl
theorem RelWs.ofInts : ∀ (ns : List Int), RelWs G r H (ns.map W.int) (ns.map V.int)
  | [] => .nil
  | n :: ns => .cons (.int n) (RelWs.ofInts ns)
/-! ### dicts -/
theorem RelK.val : ∀ {kvs : List (Key × W)} {vs : List (Key × V)} (k : Key), RelK G r H kvs vs → (valK kvs k = none ∧ valV vs k = none) ∨ ∃ w v, valK kvs k = some w ∧ valV vs k = some v ∧ RelW G r H w v
  | _, _, k, .nil => .inl ⟨rfl, rfl⟩
  | _, _, k, .cons (k := k') (w := w) (v := v) (ws := ws) (vs := vs) h t => by
    by_cases c : k' = k
    · subst c
      exact .inr ⟨w, v, by simp [valK], valV_pos rfl, h⟩
    · have e1 : valK ((k', w) :: ws) k = valK ws k := by simp [valK, c]
      rw [e1, valV_neg c]
      exact RelK.val k t
theorem RelK.any : ∀ {kvs : List (Key × W)} {vs : List (Key × V)} (k : Key), RelK G r H kvs vs → (kvs.any fun kv => decide (kv.1 = k)) = (vs.any fun kv => decide (kv.1 = k))
  | _, _, k, .nil => rfl
  | _, _, k, .cons h t => by simp only [List.any_cons]; rw [RelK.any k t]
theorem RelK.append : ∀ {ws ws' : List (Key × W)} {vs vs' : List (Key × V)}, RelK G r H ws vs → RelK G r H ws' vs' → RelK G r H (ws ++ ws') (vs ++ vs')
  | _, _, _, _, .nil, q => q
  | _, _, _, _, .cons h t, q => .cons h (RelK.append t q)
theorem RelK.repl : ∀ {kvs : List (Key × W)} {vs : List (Key × V)} (k : Key) {w : W} {v : V}, RelK G r H kvs vs → RelW G r H w v →
    RelK G r H (kvs.map fun kv => if kv.1 = k then (kv.1, w) else kv) (vs.map fun kv => if kv.1 = k then (kv.1, v) else kv)
  | _, _, k, _, _, .nil, _ => .nil
  | _, _, k, _, _, .cons (k := k') h t, q => by
    simp only [List.map_cons]
    by_cases c : k' = k
    · rw [if_pos c, if_pos c]; exact .cons q (RelK.repl k t q)
    · rw [if_neg c, if_neg c]; exact .cons h (RelK.repl k t q)
theorem RelK.put {kvs : List (Key × W)} {vs : List (Key × V)} (k : Key) {w : W} {v : V} (q : RelK G r H kvs vs) (p : RelW G r H w v) : RelK G r H (putKW kvs k w) (putK vs k v) := by
  unfold putKW putK
  rw [RelK.any k q]
  split
  · exact RelK.repl k q p
  · exact q.append (.cons p .nil)
theorem RelK.drop : ∀ {kvs : List (Key × W)} {vs : List (Key × V)} (k : Key), RelK G r H kvs vs → RelK G r H (dropKW kvs k) (dropK vs k)
  | _, _, k, .nil => .nil
  | _, _, k, .cons (k := k') (w := w) (v := v) (ws := ws) (vs := vs) h t => by
    have ih := RelK.drop k t
    by_cases c : k' = k
    · have e1 : dropKW ((k', w) :: ws) k = dropKW ws k := by simp [dropKW, c]
      have e2 : dropK ((k', v) :: vs) k = dropK vs k := by simp [dropK, c]
      rw [e1, e2]; exact ih
    · have e1 : dropKW ((k', w) :: ws) k = (k', w) :: dropKW ws k := by simp [dropKW, c]
      have e2 : dropK ((k', v) :: vs) k = (k', v) :: dropK vs k := by simp [dropK, c]
      rw [e1, e2]; exact .cons h ih
theorem RelK.length : ∀ {ws : List (Key × W)} {vs : List (Key × V)}, RelK G r H ws vs → ws.length = vs.length
  | _, _, .nil => rfl
  | _, _, .cons _ t => by simp [RelK.length t]
theorem relW_key {k : Key} : RelW G r H (kW k) (kV k) := by cases k <;> constructor
theorem keyW_rel {w : W} {v : V} {k : Key} (e : keyW w = some k) (q : RelW G r H w v) : v = kV k := by
  cases w <;> simp [keyW] at e <;> cases q <;> subst e <;> rfl
theorem RelK.keys : ∀ {ws : List (Key × W)} {vs : List (Key × V)}, RelK G r H ws vs → RelWs G r H (ws.map fun kv => kW kv.1) (vs.map fun kv => kV kv.1)
  | _, _, .nil => .nil
  | _, _, .cons _ t => .cons relW_key (RelK.keys t)
/-! ### fields -/
theorem RelF.lookup (nd : G.nm.Nodup) : ∀ {fs : Fs} {fv : List (Str × V)} {k : Nat} {x : Str}, RelF G r H fs fv → G.nm[k]? = some x → (fs.lookup k = none ∧ fv.lookup x = none) ∨ ∃ w v, fs.lookup k = some w ∧ fv.lookup x = some v ∧ RelW G r H w v
  | _, _, k, x, .nil, _ => .inl ⟨rfl, rfl⟩
  | _, _, k, x, .cons (k := k') (x := x') (w := w) (v := v) (ws := ws) (vs := vs) e h t, ek => by
    by_cases c : k = k'
    · subst c
      rw [ek] at e; cases e
      exact .inr ⟨w, v, by simp [List.lookup], by simp [List.lookup], h⟩
    · have cx : x ≠ x' := fun q => c (nodup_ix nd ek (q ▸ e))
      have e1 : List.lookup k ((k', w) :: ws) = List.lookup k ws := by
        have q : (k == k') = false := by simpa using c
        simp [List.lookup, q]
      have e2 : List.lookup x ((x', v) :: vs) = List.lookup x vs := by
        have q : (x == x') = false := by simpa using cx
        simp [List.lookup, q]
      rw [e1, e2]; exact RelF.lookup nd t ek
theorem RelF.put (nd : G.nm.Nodup) : ∀ {fs : Fs} {fv : List (Str × V)} {k : Nat} {x : Str} {w : W} {v : V}, RelF G r H fs fv → G.nm[k]? = some x → RelW G r H w v → RelF G r H (putFW k w fs) (putF x v fv)
  | _, _, k, x, _, _, .nil, ek, q => .cons ek q .nil
  | _, _, k, x, w0, v0, .cons (k := k') (x := x') (w := w) (v := v) (ws := ws) (vs := vs) e h t, ek, q => by
    unfold putFW putF
    by_cases c : k' = k
    · subst c
      rw [ek] at e; cases e
      rw [if_pos rfl, if_pos rfl]; exact .cons ek q t
    · have cx : x' ≠ x := fun z => c (nodup_ix nd e (z ▸ ek))
      rw [if_neg c, if_neg cx]; exact .cons e h (RelF.put nd t ek q)
theorem RelF.length : ∀ {ws : Fs} {vs : List (Str × V)}, RelF G r H ws vs → ws.length = vs.length
  | _, _, .nil => rfl
  | _, _, .cons _ _ t => by simp [RelF.length t]
end

/-! ### objects, heaps -/
def SqF (K : PySem.W.Frag) (H : Hp) (a : Addr) (xs : List V) : Prop :=
  (∃ o, H a = some (.frz o (.lst xs))) ∨
    ∃ (o : Obj) (its : Array Value) (n : Nat), K.lookup a = some o ∧ o.cls = .type "list" ∧ o.dict = none ∧ o.data = .seq its n ∧ its.size ≤ sizeLine ∧ Vals xs its.toList
theorem SqF.seq {K : PySem.W.Frag} {H : Hp} {a : Addr} {xs : List V} (h : SqF K H a xs) : SqL K H a xs := by
  rcases h with ⟨o, h⟩ | h
  · exact .inl (.inr ⟨o, h⟩)
  · exact .inr h
def OkO (G : Gx) (r : Rho) (H : Hp) (a : Addr) : O → Prop
  | .lst ws => ∃ vs, H a = some (.lst vs) ∧ RelWs G r H ws vs
  | .dic kvs => ∃ vs, H a = some (.dK vs) ∧ RelK G r H kvs vs
  | .ins c fs => ∃ dx fv, H a = some (.ins (G.ca c) dx fv) ∧ RelF G r H fs fv
  | .frz ws => ∃ vs, SqF G.K H a vs ∧ RelWs G r H ws vs
def isFrz : O → Bool
  | .frz _ => true
  | _ => false
theorem OkO.keep {G : Gx} {r r' : Rho} {H H' : Hp} {a : Addr} {o : O} (s : Step G r H r' H') (k : ∀ u, H a = some u → H' a = some u) (h : OkO G r H a o) : OkO G r' H' a o := by
  cases o with
  | lst ws => obtain ⟨vs, e, q⟩ := h; exact ⟨vs, k _ e, q.step s⟩
  | dic ws => obtain ⟨vs, e, q⟩ := h; exact ⟨vs, k _ e, q.step s⟩
  | ins c fs => obtain ⟨dx, fv, e, q⟩ := h; exact ⟨dx, fv, k _ e, q.step s⟩
  | frz ws =>
    obtain ⟨vs, e, q⟩ := h
    refine ⟨vs, ?_, q.step s⟩
    rcases e with ⟨o, e⟩ | e
    · exact .inl ⟨o, k _ e⟩
    · exact .inr e
theorem OkO.mut {G : Gx} {r : Rho} {H : Hp} {a : Addr} {o : O} (h : OkO G r H a o) (f : isFrz o = false) : ∃ u, H a = some u ∧ Mut (some u) := by
  cases o with
  | lst ws => obtain ⟨vs, e, q⟩ := h; exact ⟨_, e, trivial⟩
  | dic ws => obtain ⟨vs, e, q⟩ := h; exact ⟨_, e, trivial⟩
  | ins c fs => obtain ⟨dx, fv, e, q⟩ := h; exact ⟨_, e, trivial⟩
  | frz ws => cases f
structure Sim (G : Gx) (r : Rho) (h : Hh) (H : Hp) : Prop where
  len : r.length = h.n
  ok : ∀ n a, r[n]? = some a → ∃ o, h.get n = some o ∧ OkO G r H a o
  inj : ∀ n m a o o', r[n]? = some a → r[m]? = some a → h.get n = some o → h.get m = some o' → isFrz o = false → isFrz o' = false → n = m
theorem mut_tup {H : Hp} {a b : Addr} {u : HO} {vs : List V} (ha : H a = some u) (m : Mut (some u)) {K : PySem.W.Frag} {ho : HO} (h : SqT K H b vs) : SqT K (upd H a ho) b vs := by
  rcases h with h | h
  · refine .inl ?_
    rcases h with h | ⟨o, h⟩
    · have ne : b ≠ a := by rintro rfl; rw [ha] at h; cases h; exact m
      exact .inl (by rw [upd_ne ne]; exact h)
    · have ne : b ≠ a := by rintro rfl; rw [ha] at h; cases h; exact m
      exact .inr ⟨o, by rw [upd_ne ne]; exact h⟩
  · exact .inr h
theorem new_tup {H : Hp} {a b : Addr} {vs : List V} (ha : H a = none) {K : PySem.W.Frag} {ho : HO} (h : SqT K H b vs) : SqT K (upd H a ho) b vs := by
  rcases h with h | h
  · refine .inl ?_
    rcases h with h | ⟨o, h⟩
    · exact .inl (by rw [upd_ne (ne_of_none h ha)]; exact h)
    · exact .inr ⟨o, by rw [upd_ne (ne_of_none h ha)]; exact h⟩
  · exact .inr h
section
variable {G : Gx} {r : Rho} {h : Hh} {H : Hp} {a p : Addr} {n : Nat} {o : O} {ho : HO}
theorem Step.fresh (hp : H p = none) : Step G r H r (upd H p ho) := ⟨⟨[], by simp⟩, fun _ _ q => new_tup hp q⟩
theorem Step.more {l : Rho} (s : Step G r H r (upd H p ho)) : Step G r H (r ++ l) (upd H p ho) := ⟨⟨l, rfl⟩, s.tup⟩
/-- a new object that we do not follow -/
theorem Sim.fresh (S : Sim G r h H) (hp : H p = none) : Sim G r h (upd H p ho) := by
  refine ⟨S.len, fun n a e => ?_, S.inj⟩
  obtain ⟨o, eo, q⟩ := S.ok n a e
  exact ⟨o, eo, q.keep (Step.fresh hp) fun u eu => by rw [upd_ne (ne_of_none eu hp)]; exact eu⟩
/-- a new object -/
theorem Sim.push (S : Sim G r h H) (hp : H p = none) (q : OkO G (r ++ [p]) (upd H p ho) p o) : Sim G (r ++ [p]) (h.push o) (upd H p ho) ∧ Step G r H (r ++ [p]) (upd H p ho) := by
  have st : Step G r H (r ++ [p]) (upd H p ho) := (Step.fresh hp).more
  have hl : (r ++ [p])[h.n]? = some p := by rw [← S.len]; simp
  have old : ∀ n a, (r ++ [p])[n]? = some a → n ≠ h.n → r[n]? = some a ∧ n < h.n := by
    intro n a e ne
    have q := (List.getElem?_eq_some_iff.mp e).1
    simp at q
    have l := S.len
    have lt : n < r.length := by omega
    rw [List.getElem?_append_left lt] at e
    exact ⟨e, by omega⟩
  refine ⟨⟨by simp [Hh.n_push, S.len], fun n a e => ?_, fun n m a o1 o2 e1 e2 g1 g2 f1 f2 => ?_⟩, st⟩
  · rw [Hh.get_push]
    by_cases c : n = h.n
    · subst c
      rw [hl] at e; cases e
      exact ⟨o, by simp, q⟩
    · obtain ⟨e', _⟩ := old n a e c
      obtain ⟨u, eu, qu⟩ := S.ok n a e'
      rw [if_neg c]
      exact ⟨u, eu, qu.keep st fun v ev => by rw [upd_ne (ne_of_none ev hp)]; exact ev⟩
  · rw [Hh.get_push] at g1 g2
    by_cases c1 : n = h.n
    · by_cases c2 : m = h.n
      · omega
      · subst c1
        rw [hl] at e1; cases e1
        obtain ⟨e', _⟩ := old m _ e2 c2
        rw [if_neg c2] at g2
        obtain ⟨u, eu, qu⟩ := S.ok m _ e'
        rw [g2] at eu; cases eu
        obtain ⟨v, ev, _⟩ := qu.mut f2
        rw [hp] at ev; cases ev
    · by_cases c2 : m = h.n
      · subst c2
        rw [hl] at e2; cases e2
        obtain ⟨e', _⟩ := old n _ e1 c1
        rw [if_neg c1] at g1
        obtain ⟨u, eu, qu⟩ := S.ok n _ e'
        rw [g1] at eu; cases eu
        obtain ⟨v, ev, _⟩ := qu.mut f1
        rw [hp] at ev; cases ev
      · rw [if_neg c1] at g1
        rw [if_neg c2] at g2
        exact S.inj n m a o1 o2 (old n a e1 c1).1 (old m a e2 c2).1 g1 g2 f1 f2
/-- an object is changed -/
theorem Sim.put {o0 : O} (S : Sim G r h H) (e : r[n]? = some a) (g : h.get n = some o0) (f : isFrz o0 = false) (f' : isFrz o = false) (q : Step G r H r (upd H a ho) → OkO G r (upd H a ho) a o) : Sim G r (h.put n o) (upd H a ho) ∧ Step G r H r (upd H a ho) := by
  obtain ⟨o1, e1, q1⟩ := S.ok n a e
  rw [g] at e1; cases e1
  obtain ⟨u, eu, mu⟩ := q1.mut f
  have st : Step G r H r (upd H a ho) := ⟨⟨[], by simp⟩, fun _ _ q => mut_tup eu mu q⟩
  refine ⟨⟨S.len, fun m b eb => ?_, fun m k b o1 o2 e1 e2 g1 g2 f1 f2 => ?_⟩, st⟩
  · rw [Hh.get_put]
    by_cases c : m = n
    · subst c
      rw [e] at eb; cases eb
      exact ⟨o, by simp, q st⟩
    · rw [if_neg c]
      obtain ⟨o2, e2, q2⟩ := S.ok m b eb
      refine ⟨o2, e2, ?_⟩
      cases z : isFrz o2 with
      | false =>
        refine q2.keep st fun v ev => ?_
        have ne : b ≠ a := by
          rintro rfl
          exact c (S.inj m n _ _ _ eb e e2 g z f)
        rw [upd_ne ne]; exact ev
      | true =>
        cases o2 with
        | frz ws =>
          obtain ⟨vs, sq, qw⟩ := q2
          refine ⟨vs, ?_, qw.step st⟩
          rcases sq with ⟨ob, sq⟩ | sq
          · have ne : b ≠ a := by
              rintro rfl
              rw [eu] at sq; cases sq; exact mu
            exact .inl ⟨ob, by rw [upd_ne ne]; exact sq⟩
          · exact .inr sq
        | lst _ => cases z
        | dic _ => cases z
        | ins _ _ => cases z
  · rw [Hh.get_put] at g1 g2
    by_cases c1 : m = n
    · by_cases c2 : k = n
      · omega
      · subst c1
        rw [if_neg c2] at g2
        rw [if_pos rfl] at g1
        rw [e] at e1; cases e1
        exact S.inj _ _ _ _ _ e e2 g g2 f f2
    · by_cases c2 : k = n
      · subst c2
        rw [if_neg c1] at g1
        rw [e] at e2; cases e2
        exact S.inj _ _ _ _ _ e1 e g1 g f1 f
      · rw [if_neg c1] at g1
        rw [if_neg c2] at g2
        exact S.inj _ _ _ _ _ e1 e2 g1 g2 f1 f2
end
end Mi

set_option Elab.async false
set_option linter.all false
set_option maxRecDepth 100000
set_option maxHeartbeats 4000000
/-! What is wanted behind an evaluation; operations by values. -/
namespace Mi
open PySem PySem.Spec PyProof.Rows L2

def Post {α β : Type} (G : Gx) (r : Rho) (H : Hp) (rel : Rho → Hp → α → β → Prop) (Q : β → Hp → Prop) (EX : XK) : R α → Prop
  | .ok a h' => ∀ r' H' b, Step G r H r' H' → Sim G r' h' H' → rel r' H' a b → Q b H'
  | .ex c fs h' => ∀ r' H' d fv, Step G r H r' H' → Sim G r' h' H' → H' d = some (.xd fv) → RelF G r' H' fs fv → EX (.ref (G.ca c)) (some d) H'
  | .no => False
abbrev relE {α : Type} : Rho → Hp → α → α → Prop := fun _ _ a b => a = b
section
variable {G : Gx} {r r1 : Rho} {H H1 : Hp} {α β γ δ : Type} {rel : Rho → Hp → α → β → Prop} {rel' : Rho → Hp → γ → δ → Prop} {Q : β → Hp → Prop} {EX : XK}
theorem Post.step {x : R α} (p : Post G r H rel Q EX x) (s : Step G r H r1 H1) : Post G r1 H1 rel Q EX x := by
  cases x with
  | ok a h => intro r' H' b st; exact p r' H' b (s.trans st)
  | ex c fs h => intro r' H' d fv st; exact p r' H' d fv (s.trans st)
  | no => exact p
theorem Post.of_bind {x : R γ} {f : γ → Hh → R α} {K : δ → Hp → Prop} (p : Post G r H rel Q EX (x.bind f))
    (k : ∀ r1 H1 h1 a b, Step G r H r1 H1 → Sim G r1 h1 H1 → rel' r1 H1 a b → Post G r1 H1 rel Q EX (f a h1) → K b H1) : Post G r H rel' K EX x := by
  cases x with
  | ok a h => intro r' H' b st S q; exact k r' H' h a b st S q (Post.step (x := f a h) p st)
  | ex c fs h => exact p
  | no => exact p
theorem Post.of_bindN {x : R γ} {f : γ → Hh → R α} {K : δ → Hp → Prop} {E' : XK} (p : Post G r H rel Q EX (x.bindN f))
    (k : ∀ r1 H1 h1 a b, Step G r H r1 H1 → Sim G r1 h1 H1 → rel' r1 H1 a b → Post G r1 H1 rel Q EX (f a h1) → K b H1) : Post G r H rel' K E' x := by
  cases x with
  | ok a h => intro r' H' b st S q; exact k r' H' h a b st S q (Post.step (x := f a h) p st)
  | ex c fs h => exact False.elim p
  | no => exact False.elim p
theorem Post.nx {x : R α} {E' : XK} (p : Post G r H rel Q EX x.nx) : Post G r H rel Q E' x := by
  cases x with
  | ok a h => exact p
  | ex c fs h => exact False.elim p
  | no => exact False.elim p
theorem Post.ok {a : α} {b : β} {h : Hh} (p : Post G r H rel Q EX (.ok a h)) (S : Sim G r h H) (q : rel r H a b) : Q b H := p _ _ _ Step.refl S q
theorem Post.of {h : Hh} {o : Option α} {b : α → β} (p : Post G r H rel Q EX (R.of h o)) (S : Sim G r h H) (q : ∀ a, o = some a → rel r H a (b a)) : ∃ a, o = some a ∧ Q (b a) H := by
  cases o with
  | none => exact False.elim p
  | some a => exact ⟨a, rfl, Post.ok (h := h) p S (q a rfl)⟩
end

/-! ### slots -/
def SlR (G : Gx) (r : Rho) (H : Hp) (s : Sl) (σ : St) : Prop := s.length = σ.length ∧ ∀ (i : Nat) (w : W), s[i]? = some (some w) → ∃ v, σ[i]? = some (some v) ∧ RelW G r H w v
theorem SlR.step {G : Gx} {r r' : Rho} {H H' : Hp} {s : Sl} {σ : St} (q : SlR G r H s σ) (st : Step G r H r' H') : SlR G r' H' s σ :=
  ⟨q.1, fun i w e => let ⟨v, a, b⟩ := q.2 i w e; ⟨v, a, b.step st⟩⟩
theorem SlR.get {G : Gx} {r : Rho} {H : Hp} {s : Sl} {σ : St} (q : SlR G r H s σ) {i : Nat} {w : W} (e : getS s i = some w) : ∃ v, σ[i]? = some (some v) ∧ RelW G r H w v := by
  refine q.2 i w ?_
  unfold getS at e
  split at e
  · rename_i u eu; rw [eu]; cases e; rfl
  · cases e
theorem SlR.set {G : Gx} {r : Rho} {H : Hp} {s : Sl} {σ : St} (q : SlR G r H s σ) {i : Nat} {w : W} {v : V} (p : RelW G r H w v) : SlR G r H (s.set i (some w)) (σ.set i (some v)) := by
  refine ⟨by simp [q.1], fun j u e => ?_⟩
  by_cases c : i = j
  · subst c
    have lt : i < s.length := by
      have := (List.getElem?_eq_some_iff.mp e).1
      simpa using this
    rw [List.getElem?_set_self lt] at e
    cases e
    exact ⟨v, by rw [List.getElem?_set_self (by rw [← q.1]; exact lt)], p⟩
  · rw [List.getElem?_set_ne c] at e
    rw [List.getElem?_set_ne c]
    exact q.2 j u e
theorem SlR.wipe {G : Gx} {r : Rho} {H : Hp} {s : Sl} {σ : St} (q : SlR G r H s σ) : ∀ l : List Nat, SlR G r H (wipeS s l) (L2.wipe σ l)
  | [] => q
  | i :: l => by
    have ih := SlR.wipe q l
    refine ⟨by simp [wipeS, L2.wipe, ih.1], fun j u e => ?_⟩
    unfold wipeS at e
    unfold L2.wipe
    by_cases c : i = j
    · subst c
      have lt : i < (wipeS s l).length := by
        have := (List.getElem?_eq_some_iff.mp e).1
        simpa using this
      rw [List.getElem?_set_self lt] at e
      cases e
    · rw [List.getElem?_set_ne c] at e
      rw [List.getElem?_set_ne c]
      exact ih.2 j u e

/-! ### the universal reading -/
def U {α β : Type} (G : Gx) (Wx : WX) (rel : Rho → Hp → α → β → Prop) (f : Sl → Hh → R α) : St → Hp → (β → Hp → Prop) → Prop := fun σ H Q =>
  ∃ r s h, Sim G r h H ∧ SlR G r H s σ ∧ Post G r H rel Q (WE Wx σ) (f s h)
/-- by values -/
def u2 (G : Gx) (f : W → W → Hh → R W) : R2 := fun x y H Q => ∃ r h a b, Sim G r h H ∧ RelW G r H a x ∧ RelW G r H b y ∧ Post G r H (RelW G) Q (fun _ _ _ => False) (f a b h)
def uC (G : Gx) (f : List W → Hh → R W) : List V → Hp → VK → Prop := fun xs H Q => ∃ r h ws, Sim G r h H ∧ RelWs G r H ws xs ∧ Post G r H (RelW G) Q (fun _ _ _ => False) (f ws h)
def uM (G : Gx) (f : W → List W → Hh → R W) : V → List V → Hp → VK → Prop := fun x xs H Q => ∃ r h a ws, Sim G r h H ∧ RelW G r H a x ∧ RelWs G r H ws xs ∧ Post G r H (RelW G) Q (fun _ _ _ => False) (f a ws h)

section
variable {G : Gx} {r : Rho} {h : Hh} {H : Hp} {Q : VK} {EX : XK}
/-! ### what stands where -/
theorem Sim.at (S : Sim G r h H) {n : Nat} {a : Addr} {o : O} (e : r[n]? = some a) (g : h.get n = some o) : OkO G r H a o := by
  obtain ⟨o', e', q⟩ := S.ok n a e
  rw [g] at e'; cases e'; exact q
theorem Sim.lst (S : Sim G r h H) {n : Nat} {a : Addr} {ws : List W} (e : r[n]? = some a) (g : h.get n = some (.lst ws)) : ∃ vs, H a = some (.lst vs) ∧ RelWs G r H ws vs := S.at e g
theorem Sim.dic (S : Sim G r h H) {n : Nat} {a : Addr} {ws : List (Key × W)} (e : r[n]? = some a) (g : h.get n = some (.dic ws)) : ∃ vs, H a = some (.dK vs) ∧ RelK G r H ws vs := S.at e g
theorem Sim.ins (S : Sim G r h H) {n : Nat} {a : Addr} {c : Nat} {fs : Fs} (e : r[n]? = some a) (g : h.get n = some (.ins c fs)) : ∃ dx fv, H a = some (.ins (G.ca c) dx fv) ∧ RelF G r H fs fv := S.at e g
/-- a list, a tuple that is read -/
theorem Sim.seq (S : Sim G r h H) {w : W} {v : V} {ws : List W} (q : RelW G r H w v) (e : seqAt h w = some ws) : ∃ p vs, v = .ref p ∧ (SqL G.K H p vs ∨ SqT G.K H p vs) ∧ RelWs G r H ws vs := by
  cases q with
  | tup t rs => simp [seqAt] at e; subst e; exact ⟨_, _, rfl, .inr t, rs⟩
  | ref q =>
    simp only [seqAt] at e
    split at e
    · rename_i g; cases e
      obtain ⟨vs, a, b⟩ := S.lst q g
      exact ⟨_, _, rfl, .inl (SqL.of a), b⟩
    · rename_i g; cases e
      obtain ⟨vs, a, b⟩ : OkO G r H _ (.frz _) := S.at q g
      exact ⟨_, _, rfl, .inl a.seq, b⟩
    · cases e
  | _ => simp [seqAt] at e
theorem Sim.lstL (S : Sim G r h H) {n : Nat} {a : Addr} {ws : List W} (e : r[n]? = some a) (g : lstAt h n = some ws) : ∃ vs, SqL G.K H a vs ∧ RelWs G r H ws vs := by
  unfold lstAt at g
  split at g
  · rename_i z; cases g
    obtain ⟨vs, p, q⟩ := S.lst e z
    exact ⟨vs, SqL.of p, q⟩
  · rename_i z; cases g
    obtain ⟨vs, p, q⟩ : OkO G r H _ (.frz _) := S.at e z
    exact ⟨vs, p.seq, q⟩
  · cases g
theorem Sim.last (S : Sim G r h H) (p : Addr) : (r ++ [p])[h.n]? = some p := by rw [← S.len]; simp
/-! ### new objects, changed objects -/
theorem Post.newL (S : Sim G r h H) {ws : List W} {vs : List V} (q : RelWs G r H ws vs) (p : Post G r H (RelW G) Q EX (.ok (.ref h.n) (h.push (.lst ws)))) : ∀ a, H a = none → Q (.ref a) (upd H a (.lst vs)) := by
  intro a ha
  obtain ⟨S', st⟩ := S.push (o := .lst ws) (ho := .lst vs) ha ⟨vs, upd_same, q.step (Step.fresh ha).more⟩
  exact p _ _ _ st S' (.ref (S.last a))
theorem Post.newD (S : Sim G r h H) {ws : List (Key × W)} {vs : List (Key × V)} (q : RelK G r H ws vs) (p : Post G r H (RelW G) Q EX (.ok (.ref h.n) (h.push (.dic ws)))) : ∀ a, H a = none → Q (.ref a) (upd H a (.dK vs)) := by
  intro a ha
  obtain ⟨S', st⟩ := S.push (o := .dic ws) (ho := .dK vs) ha ⟨vs, upd_same, q.step (Step.fresh ha).more⟩
  exact p _ _ _ st S' (.ref (S.last a))
theorem Post.newT (S : Sim G r h H) {ws : List W} {vs : List V} (q : RelWs G r H ws vs) (p : Post G r H (RelW G) Q EX (.ok (.tup ws) h)) : ∀ a, H a = none → Q (.ref a) (upd H a (.tup vs)) := by
  intro a ha
  exact p _ _ _ (Step.fresh ha) (S.fresh ha) (.tup (SqT.of upd_same) (q.step (Step.fresh ha)))
theorem Post.putL (S : Sim G r h H) {n : Nat} {a : Addr} {ws ws' : List W} {vs' : List V} {w : W} {v : V} (e : r[n]? = some a) (g : h.get n = some (.lst ws)) (q : RelWs G r H ws' vs') (qw : RelW G r H w v)
    (p : Post G r H (RelW G) Q EX (.ok w (h.put n (.lst ws')))) : Q v (upd H a (.lst vs')) := by
  obtain ⟨S', st⟩ := S.put (o := .lst ws') (ho := .lst vs') e g rfl rfl fun st => ⟨vs', upd_same, q.step st⟩
  exact p _ _ _ st S' (qw.step st)
theorem Post.putD (S : Sim G r h H) {n : Nat} {a : Addr} {ws ws' : List (Key × W)} {vs' : List (Key × V)} {w : W} {v : V} (e : r[n]? = some a) (g : h.get n = some (.dic ws)) (q : RelK G r H ws' vs') (qw : RelW G r H w v)
    (p : Post G r H (RelW G) Q EX (.ok w (h.put n (.dic ws')))) : Q v (upd H a (.dK vs')) := by
  obtain ⟨S', st⟩ := S.put (o := .dic ws') (ho := .dK vs') e g rfl rfl fun st => ⟨vs', upd_same, q.step st⟩
  exact p _ _ _ st S' (qw.step st)
end

/-! ### binary operations -/
section
variable {G : Gx} {X : Cx}
theorem or_int {f : Value → Value → Sem Value} {g : Int → Int → Option W} {C : Int → Int → Prop} {gv : Int → Int → V} (o : OpR X f (rI C gv))
    (hc : ∀ i j w, g i j = some w → C i j ∧ ∀ r H, RelW G r H w (gv i j)) : OpR X f (u2 G fun x y h => intI h x y g) := by
  intro pins s σ H x y v u Q I rx ry ⟨r, h, a, b, S, q1, q2, p⟩
  cases a <;> cases b <;> (try exact False.elim p)
  cases q1; cases q2
  rename_i i j
  obtain ⟨w, e, q⟩ := Post.of (b := fun _ => gv i j) (p : Post G r H (RelW G) Q _ (R.of h (g i j))) S (fun w e => (hc i j w e).2 _ _)
  exact o pins s σ H _ _ v u Q I rx ry ⟨i, j, rfl, rfl, (hc i j w e).1, q⟩
theorem or_int0 {f : Value → Value → Sem Value} {g : Int → Int → Option W} {gv : Int → Int → V} (o : OpR X f (rI0 gv))
    (hc : ∀ i j w, g i j = some w → ∀ r H, RelW G r H w (gv i j)) : OpR X f (u2 G fun x y h => intI h x y g) := by
  intro pins s σ H x y v u Q I rx ry ⟨r, h, a, b, S, q1, q2, p⟩
  cases a <;> cases b <;> (try exact False.elim p)
  cases q1; cases q2
  rename_i i j
  obtain ⟨w, e, q⟩ := Post.of (b := fun _ => gv i j) (p : Post G r H (RelW G) Q _ (R.of h (g i j))) S (fun w e => hc i j w e _ _)
  exact o pins s σ H _ _ v u Q I rx ry ⟨i, j, rfl, rfl, q⟩
theorem or_add (hK : X.K = G.K) : OpR X (binaryOp .Add) (u2 G addW) := by
  intro pins s σ H x y v u Q I rx ry ⟨r, h, a, b, S, q1, q2, p⟩
  cases a <;> cases b <;> (try exact False.elim p)
  · cases q1; cases q2
    exact op_add pins s σ H _ _ v u Q I rx ry ⟨_, _, rfl, rfl, Post.ok p S (.int _)⟩
  · cases q1; cases q2
    simp only [addW] at p
    split at p
    · rename_i hl
      exact op_add_str pins s σ H _ _ v u Q I rx ry ⟨_, _, rfl, rfl, hl, Post.ok p S (.str _)⟩
    · exact False.elim p
  · cases q1 with
    | tup t1 w1 =>
    cases q2 with
    | tup t2 w2 =>
    simp only [addW] at p
    split at p
    · exact False.elim p
    · rename_i hne
      unfold newT at p
      split at p
      · rename_i hl
        have l1 := w1.length
        have l2 := w2.length
        rw [List.length_append] at hl
        refine op_catT pins s σ H _ _ v u Q I rx ry ⟨_, _, _, _, rfl, rfl, hK ▸ t1, hK ▸ t2, ?_, by omega, fun e => ?_, fun e => Post.newT S (w1.append w2) p⟩
        · rintro rfl; cases w1; exact hne rfl
        · subst e; cases w2
          rw [List.append_nil] at p
          exact Post.ok p S (.tup t1 w1)
      · exact False.elim p
  · cases q1 with
    | ref e1 =>
    cases q2 with
    | ref e2 =>
    simp only [addW] at p
    split at p
    · rename_i g1 g2
      obtain ⟨vs, a1, b1⟩ := S.lst e1 g1
      obtain ⟨us, a2, b2⟩ := S.lst e2 g2
      unfold newL at p
      split at p
      · rename_i hl
        rw [List.length_append, b1.length, b2.length] at hl
        exact op_cat pins s σ H _ _ v u Q I rx ry ⟨_, _, _, _, rfl, rfl, a1, a2, hl, Post.newL S (b1.append b2) p⟩
      · exact False.elim p
    · exact False.elim p
theorem or_mul : OpR X (binaryOp .Mult) (u2 G mulW) := by
  intro pins s σ H x y v u Q I rx ry ⟨r, h, a, b, S, q1, q2, p⟩
  cases a <;> cases b <;> (try exact False.elim p)
  · cases q1; cases q2
    simp only [mulW] at p
    split at p
    · rename_i hc
      exact op_mul pins s σ H _ _ v u Q I rx ry ⟨_, _, rfl, rfl, hc, Post.ok p S (.int _)⟩
    · exact False.elim p
  · cases q1 with
    | ref e1 =>
    cases q2
    simp only [mulW] at p
    split at p
    · rename_i g1
      obtain ⟨vs, a1, b1⟩ := S.lst e1 g1
      split at p
      · rename_i hc
        rw [b1.length] at hc
        exact op_rep pins s σ H _ _ v u Q I rx ry ⟨_, _, _, rfl, rfl, a1, hc.1, hc.2.1, hc.2.2, Post.newL S (b1.rep _) p⟩
      · exact False.elim p
    · exact False.elim p
def bopA : Bop → Operator
  | .add => .Add | .sub => .Sub | .mul => .Mult | .fdiv => .FloorDiv | .mod => .Mod | .pow => .Pow | .shl => .LShift | .shr => .RShift | .band => .BitAnd | .bor => .BitOr | .bxor => .BitXor
theorem ite_some {p : Prop} [Decidable p] {a w : W} (e : (if p then some a else none) = some w) : p ∧ w = a := by
  split at e
  · cases e; exact ⟨by assumption, rfl⟩
  · cases e
theorem ite_int {p : Prop} [Decidable p] {i : Int} {w : W} (e : (if p then some (W.int i) else none) = some w) : p ∧ ∀ r H, RelW G r H w (.int i) := by
  obtain ⟨a, rfl⟩ := ite_some e
  exact ⟨a, fun _ _ => .int _⟩
theorem or_bin (hK : X.K = G.K) (op : Bop) : OpR X (binaryOp (bopA op)) (u2 G (binW op)) := by
  cases op with
  | add => exact or_add hK
  | mul => exact or_mul
  | sub => exact or_int0 op_sub (fun i j w e r H => by cases e; exact .int _)
  | fdiv => exact or_int op_fdiv (fun i j w e => ite_int e)
  | mod => exact or_int op_mod (fun i j w e => ite_int e)
  | pow => exact or_int op_pow (fun i j w e => ite_int e)
  | shl => exact or_int op_shl (fun i j w e => ite_int e)
  | shr => exact or_int op_shr (fun i j w e => ite_int e)
  | band => exact or_int0 op_and (fun i j w e r H => by cases e; exact .int _)
  | bor => exact or_int0 op_or (fun i j w e r H => by cases e; exact .int _)
  | bxor => exact or_int0 op_xor (fun i j w e r H => by cases e; exact .int _)
end

/-! ### data -/
section
variable {G : Gx} {r : Rho} {h : Hh} {H : Hp}
mutual
theorem Sim.dp (S : Sim G r h H) : ∀ (n : Nat) {w : W} {v : V} {d : PyData}, RelW G r H w v → dat n h w = some d → Dp G.K H v d ∧ d.canLay0 = true ∧ d.depth ≤ n
  | 0, _, _, _, _, e => by simp [dat] at e
  | n + 1, w, v, d, q, e => by
    cases q with
    | non => simp [dat] at e; subst e; exact ⟨.non, rfl, Nat.zero_le _⟩
    | bl b => simp [dat] at e; subst e; exact ⟨.bl b, rfl, Nat.zero_le _⟩
    | int i => simp [dat] at e; subst e; exact ⟨.int i, rfl, Nat.zero_le _⟩
    | str x => simp [dat] at e; obtain ⟨c, rfl⟩ := e; exact ⟨.str x, c, Nat.zero_le _⟩
    | tup t ws =>
      simp only [dat, Option.map_eq_some_iff] at e
      obtain ⟨ds, e, rfl⟩ := e
      obtain ⟨a, b, c⟩ := Sim.dpAll S n ws e
      exact ⟨.tup t a, b, by simp only [PyData.depth]; omega⟩
    | ref q =>
      simp only [dat] at e
      split at e
      · rename_i g
        simp only [Option.map_eq_some_iff] at e
        obtain ⟨ds, e, rfl⟩ := e
        obtain ⟨vs, p, ws⟩ := S.lst q g
        obtain ⟨a, b, c⟩ := Sim.dpAll S n ws e
        exact ⟨.lst (SqL.of p) a, b, by simp only [PyData.depth]; omega⟩
      · rename_i g
        simp only [Option.map_eq_some_iff] at e
        obtain ⟨ds, e, rfl⟩ := e
        obtain ⟨vs, p, ws⟩ : OkO G r H _ (.frz _) := S.at q g
        obtain ⟨a, b, c⟩ := Sim.dpAll S n ws e
        exact ⟨.lst p.seq a, b, by simp only [PyData.depth]; omega⟩
      · cases e
    | fn k => simp [dat] at e
    | cl k => simp [dat] at e
theorem Sim.dpAll (S : Sim G r h H) : ∀ (n : Nat) {ws : List W} {vs : List V} {ds : List PyData}, RelWs G r H ws vs → (ws.mapM fun w => dat n h w) = some ds → DpAll G.K H vs ds ∧ PyData.canLayAll0 ds = true ∧ PyData.depthAll ds ≤ n
  | n, _, _, ds, .nil, e => by simp at e; subst e; exact ⟨.nil, rfl, Nat.zero_le _⟩
  | n, _, _, ds, .cons q t, e => by
    simp only [List.mapM_cons, Option.bind_eq_bind, Option.bind_eq_some_iff] at e
    obtain ⟨d, e1, ds', e2, e3⟩ := e
    cases e3
    obtain ⟨a, b, c⟩ := Sim.dp S n q e1
    obtain ⟨a', b', c'⟩ := Sim.dpAll S n t e2
    exact ⟨.cons a a', by simp [PyData.canLayAll0, b, b'], by simp only [PyData.depthAll]; omega⟩
end
end
end Mi

set_option Elab.async false
set_option linter.all false
set_option maxRecDepth 100000
set_option maxHeartbeats 4000000
/-! Comparisons, subscripts, slices, built-ins, by values. -/
namespace Mi
open PySem PySem.Spec PyProof.Rows L2

section
variable {G : Gx} {X : Cx} {r : Rho} {h : Hh} {H : Hp}
theorem RelW.inv {n : Nat} {v : V} (q : RelW G r H (.ref n) v) : ∃ a, v = .ref a ∧ r[n]? = some a := by
  cases q with
  | ref q => exact ⟨_, rfl, q⟩
theorem Sim.seqRef (S : Sim G r h H) {n : Nat} {v : V} {ws : List W} (q : RelW G r H (.ref n) v) (e : seqAt h (.ref n) = some ws) : ∃ p vs, v = .ref p ∧ SqL G.K H p vs ∧ RelWs G r H ws vs := by
  cases q with
  | ref q =>
    simp only [seqAt] at e
    split at e
    · rename_i g; cases e
      obtain ⟨vs, a, b⟩ := S.lst q g
      exact ⟨_, _, rfl, SqL.of a, b⟩
    · rename_i g; cases e
      obtain ⟨vs, a, b⟩ : OkO G r H _ (.frz _) := S.at q g
      exact ⟨_, _, rfl, a.seq, b⟩
    · cases e
def copA : Cop → CmpOp
  | .eq => .Eq | .ne => .NotEq | .lt => .Lt | .le => .LtE | .gt => .Gt | .ge => .GtE | .is => .Is | .isn => .IsNot | .isin => .In | .nin => .NotIn
def NoEq (C : Cal) : Prop := ∀ (c : Nat) (q : ClsI), C.cs[c]? = some q → q.eqm = none
theorem ownEq_none {C : Cal} (hc : NoEq C) (x : W) (h : Hh) : ownEq C x h = none := by
  unfold ownEq
  split
  · split
    · rename_i c _ _
      cases e : C.cs[c]? with
      | none => rfl
      | some q => simp [hc c q e]
    · rfl
  · rfl
theorem Sim.eqd (S : Sim G r h H) {x y : W} {a b : V} {k : Bool} (q1 : RelW G r H x a) (q2 : RelW G r H y b) (e : eqData x y h = some k) :
    ∃ d e, Dp G.K H a d ∧ Dp G.K H b e ∧ SeqAt.shaped d = true ∧ SeqAt.shaped e = true ∧ k = PyData.eqv d e := by
  unfold eqData at e
  split at e
  · rename_i d d' e1 e2
    cases e
    obtain ⟨a1, b1, c1⟩ := S.dp _ q1 e1
    obtain ⟨a2, b2, c2⟩ := S.dp _ q2 e2
    unfold dataD at c1 c2
    exact ⟨d, d', a1, a2, by simp [SeqAt.shaped, b1]; omega, by simp [SeqAt.shaped, b2]; omega, rfl⟩
  · cases e
theorem isNonW_rel {w : W} {v : V} (q : RelW G r H w v) : isNonW w = decide (v = .non) := by
  cases q <;> simp [isNonW]
theorem flatW_rel {w : W} {v : V} (q : RelW G r H w v) (f : flatW w = true) : flatV v = true := by
  cases q <;> first | rfl | cases f
theorem eqF_rel {w w' : W} {v v' : V} (q : RelW G r H w v) (q' : RelW G r H w' v') (f : flatW w = true) (f' : flatW w' = true) : eqF w w' = eqV v v' := by
  cases q <;> first | (cases f; done) | (cases q' <;> first | rfl | (cases f'; done))
theorem any_rel {x : W} {vx : V} (qx : RelW G r H x vx) (fx : flatW x = true) : ∀ {ws : List W} {vs : List V}, RelWs G r H ws vs → ws.all flatW = true → vs.all flatV = true ∧ (ws.any fun z => eqF z x) = inV vx vs
  | _, _, .nil, _ => ⟨rfl, rfl⟩
  | _, _, .cons q t, f => by
    simp only [List.all_cons, Bool.and_eq_true] at f
    obtain ⟨a, b⟩ := any_rel qx fx t f.2
    refine ⟨by simp only [List.all_cons, Bool.and_eq_true]; exact ⟨flatW_rel q f.1, a⟩, ?_⟩
    simp only [List.any_cons, inV] at b ⊢
    rw [b, eqF_rel q qx f.1 fx]
theorem or_in_core {f : Value → Value → Sem Value} (hK : X.K = G.K) (neg : Bool) (o1 : OpR X f (rIn X.K neg))
    (o2 : ∀ (pins : List (Addr × Obj)) (s : Shared) (σ : St) (H : Hp) (a : Addr) (y : V) (o : Option V) (u : Value) (Q : VK), Inv X pins σ H s → DGet H a y o → RelV y u → Q (.bl (if neg then !o.isSome else o.isSome)) H → wpAny (model X.prog X.w) X.A (f u (.ref a)) (EP X pins σ Q) X.xe s) :
    OpR X f (u2 G fun x y h => .of h ((inW x y h).map fun b => .bl (if neg then !b else b))) := by
  intro pins s σ H x y v u Q I rx ry ⟨r, h, a, b, S, q1, q2, p⟩
  dsimp only at p
  cases ei : inW a b h with
  | none => rw [ei] at p; exact False.elim p
  | some k =>
    rw [ei] at p
    unfold inW at ei
    split at ei
    · rename_i ws e
      obtain ⟨pa, vs, rfl, sq, rs⟩ := S.seq q2 e
      split at ei
      · rename_i hf
        simp only [Bool.and_eq_true] at hf
        obtain ⟨f2, e2⟩ := any_rel q1 hf.1 rs hf.2
        rw [e2] at ei; cases ei
        have q := Post.ok (h := h) (b := V.bl (if neg then !inV x vs else inV x vs)) p S (.bl _)
        exact o1 pins s σ H _ _ v u Q I rx ry ⟨pa, vs, rfl, hK ▸ sq, flatW_rel q1 hf.1, f2, q⟩
      · cases ei
    · split at ei
      · obtain ⟨pa, rfl, e2⟩ := q2.inv
        split at ei
        · rename_i kvs k g ek
          obtain ⟨vs, a1, b1⟩ := S.dic e2 g
          have ex := keyW_rel ek q1
          have hg : DGet H pa x (valV vs k) := by rw [ex]; exact DGet.k a1
          have eq : (valK kvs k).isSome = (valV vs k).isSome := by
            rcases b1.val k with ⟨z1, z2⟩ | ⟨w, v, z1, z2, _⟩ <;> rw [z1, z2] <;> rfl
          rw [eq] at ei; cases ei
          have q := Post.ok (h := h) (b := V.bl (if neg then !(valV vs k).isSome else (valV vs k).isSome)) p S (.bl _)
          cases ry
          exact o2 pins s σ H _ _ _ v Q I hg rx q
        · cases ei
      · cases ei
theorem or_isin (hK : X.K = G.K) (hu : X.A.units + 64 < cLine) : OpR X (compareOp .In) (u2 G fun x y h => .of h ((inW x y h).map .bl)) :=
  or_in_core hK false op_in_seq fun pins s σ H a y o u Q I hg ry q => d_in (by omega) I hg ry fun s' I' => ⟨.bl _, H, I', rfl, q⟩
theorem or_nin (hK : X.K = G.K) (hu : X.A.units + 64 < cLine) : OpR X (compareOp .NotIn) (u2 G fun x y h => .of h ((inW x y h).map fun b => .bl (!b))) :=
  or_in_core hK true op_notIn_seq fun pins s σ H a y o u Q I hg ry q => d_notIn (by omega) I hg ry fun s' I' => ⟨.bl _, H, I', rfl, q⟩
theorem or_cmp {C : Cal} (hK : X.K = G.K) (hu : X.A.units + 64 < cLine) (hc : NoEq C) (op : Cop) : OpR X (compareOp (copA op)) (u2 G (cmpW C op)) := by
  cases op with
  | eq =>
    intro pins s σ H x y v u Q I rx ry ⟨r, h, a, b, S, q1, q2, p⟩
    simp only [cmpW, ownEq_none hc] at p
    cases e : eqData a b h with
    | none => rw [e] at p; exact False.elim p
    | some k =>
      rw [e] at p
      obtain ⟨d, d', z1, z2, z3, z4, rfl⟩ := S.eqd q1 q2 e
      exact op_eqD hu pins s σ H _ _ v u Q I rx ry ⟨d, d', hK ▸ z1, hK ▸ z2, z3, z4, Post.ok (h := h) p S (.bl _)⟩
  | ne =>
    intro pins s σ H x y v u Q I rx ry ⟨r, h, a, b, S, q1, q2, p⟩
    simp only [cmpW, ownEq_none hc] at p
    cases e : eqData a b h with
    | none => rw [e] at p; exact False.elim p
    | some k =>
      rw [e] at p
      obtain ⟨d, d', z1, z2, z3, z4, rfl⟩ := S.eqd q1 q2 e
      exact op_neD hu pins s σ H _ _ v u Q I rx ry ⟨d, d', hK ▸ z1, hK ▸ z2, z3, z4, Post.ok (h := h) p S (.bl _)⟩
  | lt => exact or_int0 op_lt (fun i j w e r H => by cases e; exact .bl _)
  | le => exact or_int0 op_le (fun i j w e r H => by cases e; exact .bl _)
  | gt => exact or_int0 op_gt (fun i j w e r H => by cases e; exact .bl _)
  | ge => exact or_int0 op_ge (fun i j w e r H => by cases e; exact .bl _)
  | is =>
    intro pins s σ H x y v u Q I rx ry ⟨r, h, a, b, S, q1, q2, p⟩
    cases b <;> (try exact False.elim p)
    · cases q2
      refine op_isN pins s σ H _ _ v u Q I rx ry ⟨rfl, ?_⟩
      exact Post.ok (h := h) p S (by rw [isNonW_rel q1]; exact .bl _)
    · cases q2
      cases a <;> (try exact False.elim p)
      cases q1
      exact op_isBl pins s σ H _ _ v u Q I rx ry ⟨_, _, rfl, rfl, Post.ok (h := h) p S (.bl _)⟩
  | isn =>
    intro pins s σ H x y v u Q I rx ry ⟨r, h, a, b, S, q1, q2, p⟩
    cases b <;> (try exact False.elim p)
    · cases q2
      refine op_notN pins s σ H _ _ v u Q I rx ry ⟨rfl, ?_⟩
      exact Post.ok (h := h) p S (by rw [isNonW_rel q1]; exact .bl _)
    · cases q2
      cases a <;> (try exact False.elim p)
      cases q1
      exact op_notBl pins s σ H _ _ v u Q I rx ry ⟨_, _, rfl, rfl, Post.ok (h := h) p S (.bl _)⟩
  | isin => exact or_isin hK hu
  | nin => exact or_nin hK hu

/-! ### truth, length -/
theorem Sim.tru (S : Sim G r h H) {w : W} {v : V} {k : Bool} (q : RelW G r H w v) (e : tru h w = some k) : TruV G.K v H k := by
  cases q with
  | non => simp [Mi.tru] at e; exact e.symm ▸ rfl
  | bl b => simp [Mi.tru] at e; exact e.symm
  | int i => simp only [Mi.tru, Option.some.injEq] at e; exact e.symm
  | str x =>
    simp only [Mi.tru] at e
    split at e
    · rename_i hl; cases e; exact ⟨hl, rfl⟩
    · cases e
  | tup t ws =>
    simp only [Mi.tru, Option.some.injEq] at e
    refine .inr (.inl ⟨_, t, ?_⟩)
    rw [← e]
    cases ws <;> rfl
  | ref q =>
    simp only [Mi.tru] at e
    split at e
    · rename_i g; cases e
      obtain ⟨vs, a, b⟩ := S.lst q g
      exact .inl ⟨vs, SqL.of a, by cases b <;> rfl⟩
    · rename_i g; cases e
      obtain ⟨vs, a, b⟩ : OkO G r H _ (.frz _) := S.at q g
      exact .inl ⟨vs, a.seq, by cases b <;> rfl⟩
    · rename_i g; cases e
      obtain ⟨vs, a, b⟩ := S.dic q g
      exact .inr (.inr ⟨vs, a, by cases b <;> rfl⟩)
    · cases e
  | fn k => simp [Mi.tru] at e
  | cl k => simp [Mi.tru] at e

/-! ### subscripts -/
theorem ix_dK (hu : X.A.units + 1 < cLine) : IxR X (fun x y H Q => ∃ a v, x = .ref a ∧ DGet H a y (some v) ∧ Q v H) := by
  intro value slice pins s σ H x y v u Q I rx ry ⟨a, w, hx, hg, q⟩ hs
  subst hx
  cases rx
  exact tail_any (dict_typeIs I hg) slot_dict_getitem.lookup (d_getItem hu I hg ry fun w' s' I' rw => ⟨w, H, I', rw, q⟩) hs
theorem atI_rel {ws : List W} {vs : List V} (q : RelWs G r H ws vs) {i : Int} {w : W} (e : atI ws i = some w) : ∃ v, atI vs i = some v ∧ RelW G r H w v := by
  unfold atI at e ⊢
  rw [← q.length]
  cases z : ixN ws.length i with
  | none => rw [z] at e; cases e
  | some j =>
    rw [z] at e
    exact q.get (by simpa using e)
theorem or_ix (hK : X.K = G.K) (hu : X.A.units + 64 < cLine) : IxR X (u2 G fun x i h => .of h (ixW x i h)) := by
  intro value slice pins s σ H x y v u Q I rx ry ⟨r, h, a, b, S, q1, q2, p⟩ hs
  dsimp only at p
  unfold ixW at p
  split at p
  · rename_i ws e
    obtain ⟨pa, vs, rfl, sq, rs⟩ := S.seq q1 e
    split at p
    · rename_i j
      cases q2
      cases z : atI ws j with
      | none => rw [z] at p; exact False.elim p
      | some w =>
        rw [z] at p
        obtain ⟨v', z', rw'⟩ := atI_rel rs z
        have q := Post.ok (h := h) p S rw'
        rcases sq with sq | sq
        · exact ix_list value slice pins s σ H _ _ v u Q I rx ry ⟨pa, vs, j, v', rfl, rfl, hK ▸ sq, z', q⟩ hs
        · exact ix_tup value slice pins s σ H _ _ v u Q I rx ry ⟨pa, vs, j, v', rfl, rfl, hK ▸ sq, z', q⟩ hs
    · exact False.elim p
  · split at p
    · obtain ⟨pa, rfl, e2⟩ := q1.inv
      split at p
      · rename_i kvs k g ek
        obtain ⟨vs, a1, b1⟩ := S.dic e2 g
        have ex := keyW_rel ek q2
        rcases b1.val k with ⟨z1, z2⟩ | ⟨w, v', z1, z2, rw'⟩
        · rw [z1] at p; exact False.elim p
        · rw [z1] at p
          have hg : DGet H pa y (some v') := by rw [ex, ← z2]; exact DGet.k a1
          exact ix_dK (by omega) value slice pins s σ H _ _ v u Q I rx ry ⟨_, v', rfl, hg, Post.ok (h := h) p S rw'⟩ hs
      · exact False.elim p
    · exact False.elim p
/-! ### slices -/
theorem cutW_rel {ws : List W} {vs : List V} (q : RelWs G r H ws vs) (lo hi : Option Int) : RelWs G r H (cutW ws lo hi) (cutV vs lo hi) := by
  unfold cutW cutV
  rw [← q.length]
  exact (q.drop _).take _
def uSl (G : Gx) : V → Option Int → Option Int → Hp → VK → Prop := fun x lo hi H Q => ∃ r h a, Sim G r h H ∧ RelW G r H a x ∧ Post G r H (RelW G) Q (fun _ _ _ => False) (slcW a lo hi h)
theorem or_slc (hK : X.K = G.K) : L2.SlR X (uSl G) := by
  intro pins s σ H x v vl vu lo hi sl Q I rx hsl p1 p2 ⟨r, h, a, S, q1, p⟩
  cases q1 with
  | tup t ws =>
    simp only [slcW] at p
    split at p
    · exact False.elim p
    · rename_i hn
      rw [ws.length] at hn
      exact sl_tup pins s σ H _ v vl vu lo hi sl Q I rx hsl p1 p2 ⟨_, _, rfl, hK ▸ t, hn, Post.newT S (cutW_rel ws lo hi) p⟩
  | ref q =>
    simp only [slcW] at p
    split at p
    · rename_i ws e
      obtain ⟨pa, vs, e2, sl', rs⟩ := S.seqRef (.ref q) e
      cases e2
      exact sl_list pins s σ H _ v vl vu lo hi sl Q I rx hsl p1 p2 ⟨_, _, rfl, hK ▸ sl', Post.newL S (cutW_rel rs lo hi) p⟩
    · exact False.elim p
  | non => exact False.elim p
  | bl b => exact False.elim p
  | int b => exact False.elim p
  | str b => exact False.elim p
  | fn b => exact False.elim p
  | cl b => exact False.elim p
end
end Mi

set_option Elab.async false
set_option linter.all false
set_option maxRecDepth 100000
set_option maxHeartbeats 4000000
/-! Built-in functions, methods of built-in types, by values. -/
namespace Mi
open PySem PySem.Spec PyProof.Rows L2

section
variable {G : Gx} {X : Cx} {r : Rho} {h : Hh} {H : Hp}
/-! ### sorting -/
theorem insI_perm (i : Int) : ∀ l : List Int, (insI i l).Perm (i :: l)
  | [] => List.Perm.refl _
  | j :: l => by
    unfold insI
    split
    · exact List.Perm.refl _
    · exact ((insI_perm i l).cons j).trans (List.Perm.swap i j l)
theorem sortI_perm : ∀ l : List Int, (sortI l).Perm l
  | [] => List.Perm.refl _
  | i :: l => (insI_perm i (sortI l)).trans ((sortI_perm l).cons i)
theorem insI_pw (i : Int) : ∀ l : List Int, l.Pairwise (· ≤ ·) → (insI i l).Pairwise (· ≤ ·)
  | [], _ => by simp [insI]
  | j :: l, p => by
    unfold insI
    have p' := List.pairwise_cons.mp p
    split
    · rename_i hij
      exact List.pairwise_cons.mpr ⟨fun k hk => by
        rcases List.mem_cons.mp hk with rfl | hk
        · exact hij
        · exact Int.le_trans hij (p'.1 k hk), p⟩
    · rename_i hij
      refine List.pairwise_cons.mpr ⟨fun k hk => ?_, insI_pw i l p'.2⟩
      rcases List.mem_cons.mp ((insI_perm i l).mem_iff.mp hk) with rfl | hk
      · omega
      · exact p'.1 k hk
theorem sortI_pw : ∀ l : List Int, (sortI l).Pairwise (· ≤ ·)
  | [] => .nil
  | i :: l => insI_pw i _ (sortI_pw l)
theorem sort_is {ns ms : List Int} (p : ms.Perm ns) (q : ms.Pairwise (· ≤ ·)) : ms = sortI ns :=
  List.Perm.eq_of_pairwise (fun _ _ _ _ a b => Int.le_antisymm a b) q (sortI_pw ns) (p.trans (sortI_perm ns).symm)
theorem minI_mem : ∀ (m : Int) (l : List Int), minI m l ∈ m :: l ∧ ∀ y ∈ m :: l, minI m l ≤ y
  | m, [] => by simp [minI]
  | m, i :: l => by
    unfold minI
    obtain ⟨a, b⟩ := minI_mem (if i < m then i else m) l
    split at a <;> rename_i c
    · rw [if_pos c] at b ⊢
      refine ⟨?_, fun y hy => ?_⟩
      · rcases List.mem_cons.mp a with a | a
        · rw [a]; simp
        · exact List.mem_cons_of_mem _ (List.mem_cons_of_mem _ a)
      · have b0 := b i (by simp)
        rcases List.mem_cons.mp hy with rfl | hy
        · omega
        · rcases List.mem_cons.mp hy with rfl | hy
          · exact b0
          · exact b y (List.mem_cons_of_mem _ hy)
    · rw [if_neg c] at b ⊢
      refine ⟨?_, fun y hy => ?_⟩
      · rcases List.mem_cons.mp a with a | a
        · rw [a]; simp
        · exact List.mem_cons_of_mem _ (List.mem_cons_of_mem _ a)
      · have b0 := b m (by simp)
        rcases List.mem_cons.mp hy with rfl | hy
        · exact b0
        · rcases List.mem_cons.mp hy with rfl | hy
          · omega
          · exact b y (List.mem_cons_of_mem _ hy)
theorem maxI_mem : ∀ (m : Int) (l : List Int), maxI m l ∈ m :: l ∧ ∀ y ∈ m :: l, y ≤ maxI m l
  | m, [] => by simp [maxI]
  | m, i :: l => by
    unfold maxI
    obtain ⟨a, b⟩ := maxI_mem (if m < i then i else m) l
    split at a <;> rename_i c
    · rw [if_pos c] at b ⊢
      refine ⟨?_, fun y hy => ?_⟩
      · rcases List.mem_cons.mp a with a | a
        · rw [a]; simp
        · exact List.mem_cons_of_mem _ (List.mem_cons_of_mem _ a)
      · have b0 := b i (by simp)
        rcases List.mem_cons.mp hy with rfl | hy
        · omega
        · rcases List.mem_cons.mp hy with rfl | hy
          · exact b0
          · exact b y (List.mem_cons_of_mem _ hy)
    · rw [if_neg c] at b ⊢
      refine ⟨?_, fun y hy => ?_⟩
      · rcases List.mem_cons.mp a with a | a
        · rw [a]; simp
        · exact List.mem_cons_of_mem _ (List.mem_cons_of_mem _ a)
      · have b0 := b m (by simp)
        rcases List.mem_cons.mp hy with rfl | hy
        · exact b0
        · rcases List.mem_cons.mp hy with rfl | hy
          · omega
          · exact b y (List.mem_cons_of_mem _ hy)

/-! ### calls of built-ins -/
def bcA : Bc → Value
  | .len1 => .builtin "len" | .abs1 => .builtin "abs" | .int1 => .type "int" | .list1 => .type "list" | .tuple1 => .type "tuple" | .sorted1 => .builtin "sorted" | .dict1 => .type "dict" | .repr1 => .builtin "repr"
  | .any1 => .builtin "any" | .all1 => .builtin "all" | .sum1 => .builtin "sum" | .min1 => .builtin "min" | .max1 => .builtin "max" | .max2 => .builtin "max" | .min2 => .builtin "min" | .divmod2 => .builtin "divmod"
theorem RelWs.one {w : W} {xs : List V} (q : RelWs G r H [w] xs) : ∃ v, xs = [v] ∧ RelW G r H w v := by
  cases q with
  | cons q t => cases t; exact ⟨_, rfl, q⟩
theorem RelWs.two {w w' : W} {xs : List V} (q : RelWs G r H [w, w'] xs) : ∃ v v', xs = [v, v'] ∧ RelW G r H w v ∧ RelW G r H w' v' := by
  cases q with
  | cons q t =>
    obtain ⟨v', rfl, q'⟩ := t.one
    exact ⟨_, _, rfl, q, q'⟩
theorem seqB {K : PySem.W.Frag} {p : Addr} {vs : List V} {w : W} (S : Sim G r h H) (q : RelW G r H w (.ref p)) {ws : List W} (e : seqAt h w = some ws) (n : ∀ l, w ≠ .tup l) : ∃ vs, SqL G.K H p vs ∧ RelWs G r H ws vs := by
  cases w <;> first | exact absurd rfl (n _) | (simp [seqAt] at e; done) | skip
  obtain ⟨p', vs, e1, s1, q1⟩ := S.seqRef q e
  cases e1
  exact ⟨vs, s1, q1⟩
theorem keysI_map : ∀ {kvs : List (Key × W)} {vs : List (Key × V)} {ks : List Int}, RelK G r H kvs vs → keysI kvs = some ks → vs.map (·.1) = ks.map Sum.inl
  | _, _, ks, .nil, e => by simp [keysI] at e; subst e; rfl
  | _, _, ks, .cons (k := k) h t, e => by
    cases k <;> simp [keysI] at e
    obtain ⟨ms, e1, rfl⟩ := e
    simp [keysI_map t e1]
theorem Sim.seqVals (S : Sim G r h H) {n : Nat} {v : V} {α : Type} {f : List W → Option α} {x : α} (q : RelW G r H (.ref n) v) (e : (seqAt h (.ref n)).bind f = some x) :
    ∃ ws p vs, v = .ref p ∧ SqL G.K H p vs ∧ RelWs G r H ws vs ∧ f ws = some x := by
  obtain ⟨ws, e1, e2⟩ := Option.bind_eq_some_iff.mp e
  obtain ⟨p, vs, rfl, a, b⟩ := S.seqRef q e1
  exact ⟨ws, p, vs, rfl, a, b, e2⟩
theorem one_cases {P : List W → Prop} {ws : List W} (h0 : P ws) (h : ∀ w, P [w] → False) (h1 : P [] → False) (h2 : ∀ a b t, P (a :: b :: t) → False) : False := by
  rcases ws with _ | ⟨w, _ | ⟨w2, t⟩⟩
  · exact h1 h0
  · exact h _ h0
  · exact h2 _ _ _ h0
theorem isNone_no {Q : VK} {EX : XK} (p : Post G r H (RelW G) Q EX (.no : R W)) : False := p
theorem or_repr : CallR X (.builtin "repr") (uC G fun ws h => match ws with
    | [x] => .of h ((reprW x h).map .str)
    | _ => .no) := by
  intro pins s σ H xs us Q I rv ⟨r, h, ws, S, q, p⟩
  rcases ws with _ | ⟨w, _ | ⟨w2, t⟩⟩ <;> (try exact False.elim p)
  obtain ⟨v, rfl, q1⟩ := q.one
  dsimp only at p
  obtain ⟨u, rfl, ru⟩ := vals1 rv
  have fin : ∀ x, reprW w h = some x → Q (.str x) H := fun x e => by
    rw [e] at p
    exact Post.ok (h := h) p S (.str x)
  have bump : Inv X pins σ H { s with toks := s.toks + 1 } := I.kept (fun _ _ e => e)
  cases q1 with
  | non => cases ru; exact P.repr_of_none ⟨.str "None", H, bump, ⟨_, rfl⟩, fin _ rfl⟩
  | bl b => cases ru; exact P.repr_of_bool ⟨.str (if b then "True" else "False"), H, bump, ⟨_, rfl⟩, fin _ rfl⟩
  | int i =>
    obtain ⟨t, rfl⟩ := ru
    cases e : reprW (.int i) h with
    | none => rw [e] at p; exact False.elim p
    | some x =>
      have f := fin x e
      unfold reprW at e
      dsimp only at e
      split at e
      · rename_i hl; cases e
        exact P.repr_of_int hl ⟨.str (toString i), H, bump, ⟨_, rfl⟩, f⟩
      · cases e
  | str y =>
    obtain ⟨t, rfl⟩ := ru
    cases e : reprW (.str y) h with
    | none => rw [e] at p; exact False.elim p
    | some x =>
      have f := fin x e
      unfold reprW at e
      dsimp only at e
      split at e
      · rename_i hl; cases e
        exact P.repr_of_str ⟨.str (reprText y), H, bump, ⟨_, rfl⟩, f⟩ hl
      · cases e
  | tup t ws => exact False.elim p
  | ref z => exact False.elim p
  | fn k => exact False.elim p
  | cl k => exact False.elim p
theorem or_bc (hK : X.K = G.K) (hc : X.calm = true) (b : Bc) : CallR X (bcA b) (uC G (bcW b)) := by
  intro pins s σ H xs us Q I rv ⟨r, h, ws, S, q, p⟩
  cases b with
  | len1 =>
    rcases ws with _ | ⟨w, _ | ⟨w2, t⟩⟩ <;> (try exact False.elim p)
    obtain ⟨v, rfl, q1⟩ := q.one
    have fin : ∀ n, lenW h w = some n → Q (.int n) H := fun n e => by
      simp only [bcW, e] at p
      exact Post.ok (h := h) p S (.int (n : Int))
    cases e : lenW h w with
    | none => simp only [bcW, e] at p; exact False.elim p
    | some n =>
      have fin := fin n e
      cases q1 with
      | str x =>
        simp only [lenW] at e
        split at e
        · rename_i hl; cases e
          exact call_len pins s σ H _ us Q I rv ⟨_, _, rfl, ⟨hl, rfl⟩, fin⟩
        · cases e
      | tup t ws =>
        simp only [lenW, Option.some.injEq] at e; subst e
        exact call_len pins s σ H _ us Q I rv ⟨_, _, rfl, .inr ⟨_, hK ▸ t, ws.length⟩, fin⟩
      | ref e2 =>
        simp only [lenW] at e
        split at e
        · rename_i g; cases e
          obtain ⟨vs, a1, b1⟩ := S.lst e2 g
          exact call_len pins s σ H _ us Q I rv ⟨_, _, rfl, .inl ⟨_, SqL.of a1, b1.length⟩, fin⟩
        · rename_i g; cases e
          obtain ⟨vs, a1, b1⟩ : OkO G r H _ (.frz _) := S.at e2 g
          exact call_len pins s σ H _ us Q I rv ⟨_, _, rfl, .inl ⟨_, hK ▸ a1.seq, b1.length⟩, fin⟩
        · rename_i g; cases e
          obtain ⟨vs, a1, b1⟩ := S.dic e2 g
          obtain ⟨u, rfl, ru⟩ := vals1 rv
          cases ru
          rw [b1.length] at fin
          exact d_len I (.inl a1) fun t s' I' => ⟨.int (vs.length : Nat), H, I', ⟨t, rfl⟩, fin⟩
        · cases e
      | _ => simp [lenW] at e
  | abs1 =>
    rcases ws with _ | ⟨w, _ | ⟨w2, t⟩⟩ <;> (try exact False.elim p)
    · cases w <;> (try exact False.elim p)
      obtain ⟨v, rfl, q1⟩ := q.one
      cases q1
      exact call_abs pins s σ H _ us Q I rv ⟨_, rfl, Post.ok p S (.int _)⟩
    · cases w <;> exact False.elim p
  | int1 =>
    rcases ws with _ | ⟨w, _ | ⟨w2, t⟩⟩ <;> (try exact False.elim p)
    · cases w <;> (try exact False.elim p)
      · obtain ⟨v, rfl, q1⟩ := q.one
        cases q1
        exact call_int1 pins s σ H _ us Q I rv (.inr ⟨_, rfl, Post.ok p S (.int _)⟩)
      · obtain ⟨v, rfl, q1⟩ := q.one
        cases q1
        exact call_int1 pins s σ H _ us Q I rv (.inl ⟨_, rfl, Post.ok p S (.int _)⟩)
    · cases w <;> exact False.elim p
  | list1 =>
    rcases ws with _ | ⟨w, _ | ⟨w2, t⟩⟩ <;> (try exact False.elim p)
    obtain ⟨v, rfl, q1⟩ := q.one
    simp only [bcW] at p
    split at p
    · rename_i ws e
      obtain ⟨pa, vs, rfl, sq, rs⟩ := S.seq q1 e
      exact call_list_of pins s σ H _ us Q I rv ⟨pa, vs, rfl, hK ▸ sq, Post.newL S rs p⟩
    · split at p
      · obtain ⟨pa, rfl, e2⟩ := q1.inv
        split at p
        · rename_i g
          obtain ⟨vs, a1, b1⟩ := S.dic e2 g
          exact call_list_dK hc pins s σ H _ us Q I rv ⟨pa, vs, rfl, a1, Post.newL S b1.keys p⟩
        · exact False.elim p
      · exact False.elim p
  | tuple1 =>
    rcases ws with _ | ⟨w, _ | ⟨w2, t⟩⟩ <;> (try exact False.elim p)
    obtain ⟨v, rfl, q1⟩ := q.one
    simp only [bcW] at p
    split at p
    · rename_i ws e
      cases w with
      | tup l =>
        simp only [seqAt, Option.some.injEq] at e; subst e
        cases q1 with
        | tup t ws =>
        exact call_tuple_of pins s σ H _ us Q I rv ⟨_, _, rfl, .inr ⟨hK ▸ t, Post.ok p S (.tup t ws)⟩⟩
      | ref n =>
        obtain ⟨pa, vs, rfl, sq, rs⟩ := S.seqRef q1 e
        exact call_tuple_of pins s σ H _ us Q I rv ⟨pa, vs, rfl, .inl ⟨hK ▸ sq, Post.newT S rs p⟩⟩
      | _ => simp [seqAt] at e
    · exact False.elim p
  | sorted1 =>
    rcases ws with _ | ⟨w, _ | ⟨w2, t⟩⟩ <;> (try exact False.elim p)
    · cases w <;> (try exact False.elim p)
      obtain ⟨v, rfl, q1⟩ := q.one
      simp only [bcW] at p
      split at p
      · rename_i ws e
        split at p
        · rename_i ns en
          unfold sorted1 at p
          split at p
          · rename_i hl
            obtain ⟨pa, vs, rfl, sq, rs⟩ := S.seqRef q1 e
            have ev := rs.ints en
            subst ev
            refine cr_sorted pins s σ H _ us Q I rv ⟨pa, ns, rfl, hK ▸ sq, hl, fun ms a pm pw ha => ?_⟩
            rw [sort_is pm pw]
            exact Post.newL S (RelWs.ofInts _) p a ha
          · exact False.elim p
        · exact False.elim p
      · obtain ⟨pa, rfl, e2⟩ := q1.inv
        split at p
        · rename_i g
          split at p
          · rename_i ns en
            unfold sorted1 at p
            split at p
            · rename_i hl
              obtain ⟨vs, a1, b1⟩ := S.dic e2 g
              refine call_sortedDI hc pins s σ H _ us Q I rv ⟨pa, vs, ns, rfl, .inl a1, keysI_map b1 en, hl, fun ms a pm pw ha => ?_⟩
              rw [sort_is pm pw]
              exact Post.newL S (RelWs.ofInts _) p a ha
            · exact False.elim p
          · exact False.elim p
        · exact False.elim p
    · cases w <;> exact False.elim p
  | dict1 =>
    rcases ws with _ | ⟨w, _ | ⟨w2, t⟩⟩ <;> (try exact False.elim p)
    · cases w <;> (try exact False.elim p)
      obtain ⟨v, rfl, q1⟩ := q.one
      obtain ⟨pa, rfl, e2⟩ := q1.inv
      simp only [bcW] at p
      split at p
      · rename_i g
        obtain ⟨vs, a1, b1⟩ := S.dic e2 g
        obtain ⟨u, rfl, ru⟩ := vals1 rv
        cases ru
        exact d_copyOf I (.inl a1) fun z s' hz I' => ⟨.ref z, _, I', rfl, Post.newD S b1 p z hz⟩
      · exact False.elim p
    · cases w <;> exact False.elim p
  | repr1 =>
    refine or_repr pins s σ H xs us Q I rv ⟨r, h, ws, S, q, ?_⟩
    rcases ws with _ | ⟨w, _ | ⟨w2, t⟩⟩ <;> (try exact False.elim p)
    exact p
  | any1 =>
    rcases ws with _ | ⟨w, _ | ⟨w2, t⟩⟩ <;> (try exact False.elim p)
    · cases w <;> (try exact False.elim p)
      obtain ⟨v, rfl, q1⟩ := q.one
      simp only [bcW] at p
      split at p
      · rename_i e
        obtain ⟨ws, pa, vs, rfl, sq, rs, en⟩ := S.seqVals q1 e
        have ev := rs.bools en
        subst ev
        exact cr_any hc pins s σ H _ us Q I rv ⟨pa, _, rfl, hK ▸ sq, Post.ok p S (.bl _)⟩
      · exact False.elim p
    · cases w <;> exact False.elim p
  | all1 =>
    rcases ws with _ | ⟨w, _ | ⟨w2, t⟩⟩ <;> (try exact False.elim p)
    · cases w <;> (try exact False.elim p)
      obtain ⟨v, rfl, q1⟩ := q.one
      simp only [bcW] at p
      split at p
      · rename_i e
        obtain ⟨ws, pa, vs, rfl, sq, rs, en⟩ := S.seqVals q1 e
        have ev := rs.bools en
        subst ev
        exact cr_all hc pins s σ H _ us Q I rv ⟨pa, _, rfl, hK ▸ sq, Post.ok p S (.bl _)⟩
      · exact False.elim p
    · cases w <;> exact False.elim p
  | sum1 =>
    rcases ws with _ | ⟨w, _ | ⟨w2, t⟩⟩ <;> (try exact False.elim p)
    · cases w <;> (try exact False.elim p)
      obtain ⟨v, rfl, q1⟩ := q.one
      simp only [bcW] at p
      split at p
      · rename_i e
        obtain ⟨ws, pa, vs, rfl, sq, rs, en⟩ := S.seqVals q1 e
        have ev := rs.ints en
        subst ev
        exact cr_sum hc pins s σ H _ us Q I rv ⟨pa, _, rfl, hK ▸ sq, Post.ok p S (.int _)⟩
      · exact False.elim p
    · cases w <;> exact False.elim p
  | min1 =>
    rcases ws with _ | ⟨w, _ | ⟨w2, t⟩⟩ <;> (try exact False.elim p)
    · cases w <;> (try exact False.elim p)
      obtain ⟨v, rfl, q1⟩ := q.one
      simp only [bcW] at p
      split at p
      · rename_i n ns e
        obtain ⟨ws, pa, vs, rfl, sq, rs, en⟩ := S.seqVals q1 e
        have ev := rs.ints en
        subst ev
        refine cr_min hc pins s σ H _ us Q I rv ⟨pa, _, rfl, hK ▸ sq, by simp, fun m h1 h2 => ?_⟩
        obtain ⟨z1, z2⟩ := minI_mem n ns
        have : m = minI n ns := Int.le_antisymm (h2 _ z1) (z2 _ h1)
        subst this
        exact Post.ok p S (.int _)
      · exact False.elim p
    · cases w <;> exact False.elim p
  | max1 =>
    rcases ws with _ | ⟨w, _ | ⟨w2, t⟩⟩ <;> (try exact False.elim p)
    · cases w <;> (try exact False.elim p)
      obtain ⟨v, rfl, q1⟩ := q.one
      simp only [bcW] at p
      split at p
      · rename_i n ns e
        obtain ⟨ws, pa, vs, rfl, sq, rs, en⟩ := S.seqVals q1 e
        have ev := rs.ints en
        subst ev
        refine cr_max hc pins s σ H _ us Q I rv ⟨pa, _, rfl, hK ▸ sq, by simp, fun m h1 h2 => ?_⟩
        obtain ⟨z1, z2⟩ := maxI_mem n ns
        have : m = maxI n ns := Int.le_antisymm (z2 _ h1) (h2 _ z1)
        subst this
        exact Post.ok p S (.int _)
      · exact False.elim p
    · cases w <;> exact False.elim p
  | max2 =>
    rcases ws with _ | ⟨w, _ | ⟨w2, _ | ⟨w3, t⟩⟩⟩ <;> (try exact False.elim p)
    · cases w <;> exact False.elim p
    · cases w <;> (try exact False.elim p)
      cases w2 <;> (try exact False.elim p)
      obtain ⟨v, v', rfl, q1, q2⟩ := q.two
      cases q1; cases q2
      exact call_max2 hc pins s σ H _ us Q I rv ⟨_, _, rfl, Post.ok p S (.int _)⟩
    · cases w <;> cases w2 <;> exact False.elim p
  | min2 =>
    rcases ws with _ | ⟨w, _ | ⟨w2, _ | ⟨w3, t⟩⟩⟩ <;> (try exact False.elim p)
    · cases w <;> exact False.elim p
    · cases w <;> (try exact False.elim p)
      cases w2 <;> (try exact False.elim p)
      obtain ⟨v, v', rfl, q1, q2⟩ := q.two
      cases q1; cases q2
      exact call_min2 hc pins s σ H _ us Q I rv ⟨_, _, rfl, Post.ok p S (.int _)⟩
    · cases w <;> cases w2 <;> exact False.elim p
  | divmod2 =>
    rcases ws with _ | ⟨w, _ | ⟨w2, _ | ⟨w3, t⟩⟩⟩ <;> (try exact False.elim p)
    · cases w <;> exact False.elim p
    · cases w <;> (try exact False.elim p)
      cases w2 <;> (try exact False.elim p)
      obtain ⟨v, v', rfl, q1, q2⟩ := q.two
      cases q1; cases q2
      simp only [bcW] at p
      split at p
      · rename_i hd
        exact call_divmod pins s σ H _ us Q I rv ⟨_, _, rfl, hd, Post.newT S (.cons (.int _) (.cons (.int _) .nil)) p⟩
      · exact False.elim p
    · cases w <;> cases w2 <;> exact False.elim p

/-! ### methods of lists and dicts -/
theorem ixN_seqIx {n : Nat} {i : Int} {k : Nat} (h : ixN n i = some k) : seqIndex? i n = some k := (ixN_seq h).1
/-- the receiver is a list -/
def bmL : Bm → Str × String
  | .append1 => ("append", "list.append") | .insert2 => ("insert", "list.insert") | .pop0 => ("pop", "list.pop") | .pop1 => ("pop", "list.pop") | .remove1 => ("remove", "list.remove")
def uMl (G : Gx) (b : Bm) : V → List V → Hp → VK → Prop := fun x xs H Q => ∃ r h a ws, Sim G r h H ∧ isL h a = true ∧ RelW G r H a x ∧ RelWs G r H ws xs ∧ Post G r H (RelW G) Q (fun _ _ _ => False) (bmW b a ws h)
theorem isL_inv {w : W} (e : isL h w = true) : ∃ n ws, w = .ref n ∧ h.get n = some (.lst ws) := by
  unfold isL at e
  split at e
  · split at e
    · rename_i g; exact ⟨_, _, rfl, g⟩
    · cases e
  · cases e
theorem or_append : MtR X "list.append" (uMl G .append1) := by
  intro pins s σ H x xs v us Q I rx rv ⟨r, h, a, ws, S, ia, q1, q, p⟩
  obtain ⟨n, l, rfl, g⟩ := isL_inv ia
  obtain ⟨pa, rfl, e2⟩ := q1.inv
  obtain ⟨vs, a1, b1⟩ := S.lst e2 g
  simp only [bmW, g] at p
  rcases ws with _ | ⟨w, _ | ⟨w2, t⟩⟩ <;> (try exact False.elim p)
  obtain ⟨y, rfl, qy⟩ := q.one
  dsimp only at p
  split at p
  · rename_i hl
    rw [b1.length] at hl
    exact mt_append pins s σ H _ _ v us Q I rx rv ⟨pa, vs, y, rfl, rfl, a1, hl, Post.putL S e2 g (b1.append (.cons qy .nil)) .non p⟩
  · exact False.elim p
theorem or_insert : MtR X "list.insert" (uMl G .insert2) := by
  intro pins s σ H x xs v us Q I rx rv ⟨r, h, a, ws, S, ia, q1, q, p⟩
  obtain ⟨n, l, rfl, g⟩ := isL_inv ia
  obtain ⟨pa, rfl, e2⟩ := q1.inv
  obtain ⟨vs, a1, b1⟩ := S.lst e2 g
  simp only [bmW, g] at p
  rcases ws with _ | ⟨w, _ | ⟨w2, _ | ⟨w3, t⟩⟩⟩ <;> (try exact False.elim p)
  · cases w <;> exact False.elim p
  · cases w <;> (try exact False.elim p)
    obtain ⟨y0, y, rfl, qi, qy⟩ := q.two
    cases qi
    dsimp only at p
    split at p
    · rename_i hl
      obtain ⟨rfl, hl⟩ := hl
      rw [b1.length] at hl
      exact mt_insert pins s σ H _ _ v us Q I rx rv ⟨pa, vs, 0, y, rfl, rfl, a1, hl, by omega, by decide, Post.putL S e2 g (.cons qy b1) .non p⟩
    · exact False.elim p
  · cases w <;> exact False.elim p
theorem or_pop0 : MtR X "list.pop" (uMl G .pop0) := by
  intro pins s σ H x xs v us Q I rx rv ⟨r, h, a, ws, S, ia, q1, q, p⟩
  obtain ⟨n, l, rfl, g⟩ := isL_inv ia
  obtain ⟨pa, rfl, e2⟩ := q1.inv
  obtain ⟨vs, a1, b1⟩ := S.lst e2 g
  simp only [bmW, g] at p
  rcases ws with _ | ⟨w, t⟩ <;> (try exact False.elim p)
  cases q
  dsimp only at p
  split at p
  · rename_i y ey
    obtain ⟨z, ez, qz⟩ := b1.get ey
    rw [b1.length] at ez
    exact mt_pop pins s σ H _ _ v us Q I rx rv ⟨pa, vs, z, rfl, rfl, a1, ez, Post.putL S e2 g b1.dropLast qz p⟩
  · exact False.elim p
theorem or_pop1 : MtR X "list.pop" (uMl G .pop1) := by
  intro pins s σ H x xs v us Q I rx rv ⟨r, h, a, ws, S, ia, q1, q, p⟩
  obtain ⟨n, l, rfl, g⟩ := isL_inv ia
  obtain ⟨pa, rfl, e2⟩ := q1.inv
  obtain ⟨vs, a1, b1⟩ := S.lst e2 g
  simp only [bmW, g] at p
  rcases ws with _ | ⟨w, _ | ⟨w2, t⟩⟩ <;> (try exact False.elim p)
  · cases w <;> (try exact False.elim p)
    obtain ⟨y0, rfl, qi⟩ := q.one
    cases qi
    dsimp only at p
    split at p
    · rename_i hb
      split at p
      · rename_i k ek
        split at p
        · rename_i y ey
          obtain ⟨z, ez, qz⟩ := b1.get ey
          rw [b1.length] at ek
          exact mt_popAt pins s σ H _ _ v us Q I rx rv ⟨pa, vs, _, k, z, rfl, rfl, a1, hb.1, hb.2, ixN_seqIx ek, ez, Post.putL S e2 g (b1.eraseIdx k) qz p⟩
        · exact False.elim p
      · exact False.elim p
    · exact False.elim p
  · cases w <;> exact False.elim p
def uMd (G : Gx) (b : Bm) : V → List V → Hp → VK → Prop := fun x xs H Q => ∃ r h a ws, Sim G r h H ∧ isD h a = true ∧ RelW G r H a x ∧ RelWs G r H ws xs ∧ Post G r H (RelW G) Q (fun _ _ _ => False) (bmW b a ws h)
theorem isD_inv {w : W} (e : isD h w = true) : ∃ n ws, w = .ref n ∧ h.get n = some (.dic ws) := by
  unfold isD at e
  split at e
  · split at e
    · rename_i g; exact ⟨_, _, rfl, g⟩
    · cases e
  · cases e
theorem or_dpop : MtR X "dict.pop" (uMd G .pop1) := by
  intro pins s σ H x xs v us Q I rx rv ⟨r, h, a, ws, S, ia, q1, q, p⟩
  obtain ⟨n, l, rfl, g⟩ := isD_inv ia
  obtain ⟨pa, rfl, e2⟩ := q1.inv
  obtain ⟨vs, a1, b1⟩ := S.dic e2 g
  simp only [bmW, g] at p
  rcases ws with _ | ⟨w, _ | ⟨w2, t⟩⟩ <;> (try exact False.elim p)
  obtain ⟨y0, rfl, qi⟩ := q.one
  dsimp only at p
  split at p
  · rename_i k ek
    have ey := keyW_rel ek qi
    subst ey
    rcases b1.val k with ⟨z1, z2⟩ | ⟨w, v', z1, z2, rw'⟩
    · rw [z1] at p; exact False.elim p
    · rw [z1] at p
      obtain ⟨u, rfl, ru⟩ := vals1 rv
      cases rx
      exact d_pop I a1 ru z2 (.inl rfl) fun w' s' I' rw2 => ⟨v', _, I', rw2, Post.putD S e2 g (b1.drop k) rw' p⟩
  · exact False.elim p
end
end Mi

set_option Elab.async false
set_option linter.all false
set_option maxRecDepth 100000
set_option maxHeartbeats 4000000
/-! The context, the judgements, expressions. -/
namespace Mi
open PySem PySem.Spec PyProof.Rows L2

/-- names, scope; all: the def's own cells may be stored -/
structure Gm where
  N : List Str
  sc : Scope
  all : Bool
structure Gd (G : Gx) (Γ : Gm) (m : Nat) (X : Cx) : Prop where
  prog : X.prog = G.P
  w : X.w = G.w
  K : X.K = G.K
  mg : X.mg = G.mg
  base : X.base = G.base
  N : X.N = Γ.N
  nd : Γ.N.Nodup
  sc : X.env.scope = Γ.sc
  kind : Γ.sc.kind = .function
  calm : X.calm = true
  room : Room m X.A
  fn : Γ.all = true → ∀ x, X.fn x = true
abbrev CX0 : CXT := fun _ _ _ _ _ _ => False
theorem passes0 (X : Cx) (E : XK) : Passes CX0 X E := fun _ _ _ _ _ _ _ h => h.elim

section
variable {G : Gx} {Γ : Gm} {m : Nat} {X : Cx}
theorem Gd.units (g : Gd G Γ m X) : X.A.units + 64 < cLine := g.room.units
theorem Gd.gl (g : Gd G Γ m X) {x : Str} (h : Γ.sc.names.lookup x = some .globalImplicit) : Gl X x := by
  show X.env.scope.names.lookup x = _
  rw [g.sc]; exact h
def visB (sc : Scope) (x : Str) : Bool := match sc.names.lookup x with
  | some .local => true | some .cell => true | some .free => true | _ => false
theorem Gd.vis (g : Gd G Γ m X) {x : Str} (h : visB Γ.sc x = true) : Vis X.env.scope x := by
  unfold Vis
  rw [g.sc]
  unfold visB at h
  split at h
  · rename_i e; exact .inl e
  · rename_i e; exact .inr (.inl e)
  · rename_i e; exact .inr (.inr e)
  · cases h
def locB (Γ : Gm) (x : Str) : Bool := match Γ.sc.names.lookup x with
  | some .local => true | some .cell => Γ.all | _ => false
theorem Gd.loc (g : Gd G Γ m X) {x : Str} (h : locB Γ x = true) : L2.Loc X.env.scope x ∧ (X.fn x = true ∨ X.env.scope.names.lookup x = some .local) := by
  unfold L2.Loc
  rw [g.sc]
  unfold locB at h
  split at h
  · rename_i e; exact ⟨.inl e, .inr e⟩
  · rename_i e; exact ⟨.inr e, .inl (g.fn h x)⟩
  · cases h
end

/-! ### weakening -/
theorem weakE {X : Cx} {e : Expr} {t t' : TE} (h : PE X e t) (w : ∀ σ H Q, t' σ H Q → t σ H Q) : PE X e t' := ⟨fun pins s σ H Q I q => h.run pins s σ H Q I (w _ _ _ q)⟩
theorem weakT {X : Cx} {e : Expr} {t t' : TT} (h : PT X e t) (w : ∀ σ H Q, t' σ H Q → t σ H Q) : PT X e t' := ⟨fun pins s σ H Q I q => h.run pins s σ H Q I (w _ _ _ q)⟩
theorem weakW {X : Cx} {e : Expr} {t t' : TT} (h : PW X e t) (w : ∀ σ H Q, t' σ H Q → t σ H Q) : PW X e t' := ⟨fun wh pins s σ H Q I q => h.run wh pins s σ H Q I (w _ _ _ q)⟩
theorem weakA {X : Cx} {e : List Expr} {t t' : TA} (h : PA X e t) (w : ∀ σ H Q, t' σ H Q → t σ H Q) : PA X e t' := ⟨fun pos pins s σ H Q I q => h.run pos pins s σ H Q I (w _ _ _ q)⟩
/-- the reading is chosen at the state -/
theorem pickE {X : Cx} {e : Expr} {t' : TE} (h : ∀ σ H Q, t' σ H Q → ∃ t, PE X e t ∧ t σ H Q) : PE X e t' := ⟨fun pins s σ H Q I q => let ⟨_, a, b⟩ := h _ _ _ q; a.run pins s σ H Q I b⟩

/-! ### the universal reading -/
def UU {α β : Type} (G : Gx) (EX : XK) (rel : Rho → Hp → α → β → Prop) (f : Sl → Hh → R α) : St → Hp → (β → Hp → Prop) → Prop := fun σ H Q =>
  ∃ r s h, Sim G r h H ∧ SlR G r H s σ ∧ Post G r H rel Q EX (f s h)
def SE (G : Gx) (EX : XK) (C : Cal) (Γ : Gm) (m : Nat) (e : Expr) (i : E) : Prop := ∀ X, Gd G Γ m X → PE X e (UU G EX (RelW G) (evE C i))
def SEs (G : Gx) (EX : XK) (C : Cal) (Γ : Gm) (m : Nat) (e : List Expr) (i : Es) : Prop := ∀ X, Gd G Γ m X → PA X e (UU G EX (RelWs G) (evEs C i)) ∧ starEach e X.env = e.map fun a => (false, eval a X.env)
def STt (G : Gx) (EX : XK) (C : Cal) (Γ : Gm) (m : Nat) (e : Expr) (i : E) : Prop := ∀ X, Gd G Γ m X → PT X e (UU G EX (fun _ _ => Eq) (evT C i))
def SW (G : Gx) (EX : XK) (C : Cal) (Γ : Gm) (m : Nat) (e : Expr) (i : E) : Prop := ∀ X, Gd G Γ m X → PW X e (UU G EX (fun _ _ => Eq) (evT C i))

section
variable {G : Gx} {EX : XK} {C : Cal} {Γ : Gm} {m : Nat}
theorem UU.bind {α β γ δ : Type} {rel : Rho → Hp → α → β → Prop} {rel' : Rho → Hp → γ → δ → Prop} {f : Sl → Hh → R γ} {k : γ → Sl → Hh → R α} {σ : St} {H : Hp} {Q : β → Hp → Prop} {K : δ → Hp → Prop}
    (u : UU G EX rel (fun s h => (f s h).bind fun a h1 => k a s h1) σ H Q)
    (q : ∀ r1 s H1 h1 a b, Sim G r1 h1 H1 → SlR G r1 H1 s σ → rel' r1 H1 a b → Post G r1 H1 rel Q EX (k a s h1) → K b H1) : UU G EX rel' f σ H K := by
  obtain ⟨r, s, h, S, L, p⟩ := u
  exact ⟨r, s, h, S, L, Post.of_bind p fun r1 H1 h1 a b st S1 rl p1 => q r1 s H1 h1 a b S1 (L.step st) rl p1⟩
/-- .. with what was related before -/
theorem Post.bindU {α β γ δ : Type} {rel : Rho → Hp → α → β → Prop} {rel' : Rho → Hp → γ → δ → Prop} {f : Sl → Hh → R γ} {k : γ → Hh → R α} {σ : St} {H : Hp} {r : Rho} {s : Sl} {h : Hh} {Q : β → Hp → Prop} {K : δ → Hp → Prop}
    (S : Sim G r h H) (L : SlR G r H s σ) (p : Post G r H rel Q EX ((f s h).bind k))
    (q : ∀ r1 H1 h1 a b, Step G r H r1 H1 → Sim G r1 h1 H1 → rel' r1 H1 a b → Post G r1 H1 rel Q EX (k a h1) → K b H1) : UU G EX rel' f σ H K :=
  ⟨r, s, h, S, L, Post.of_bind p q⟩

/-! ### constants, names -/
theorem se_non {k p} : SE G EX C Γ m (.Constant .none k p) (.cst .non) := fun X g => weakE (pe_non) fun σ H Q ⟨r, s, h, S, L, p⟩ => Post.ok (h := h) (rel := RelW G) (EX := EX) (by simpa only [evE] using p) S .non
theorem se_bl {b k p} : SE G EX C Γ m (.Constant (.bool b) k p) (.cst (.bl b)) := fun X g => weakE (pe_bl) fun σ H Q ⟨r, s, h, S, L, p⟩ => Post.ok (h := h) (rel := RelW G) (EX := EX) (by simpa only [evE] using p) S (.bl b)
theorem se_int {i k p} : SE G EX C Γ m (.Constant (.int i) k p) (.cst (.int i)) := fun X g => weakE (pe_int) fun σ H Q ⟨r, s, h, S, L, p⟩ => Post.ok (h := h) (rel := RelW G) (EX := EX) (by simpa only [evE] using p) S (.int i)
theorem se_str {x k p} : SE G EX C Γ m (.Constant (.str x) k p) (.cst (.str x)) := fun X g => weakE (pe_str) fun σ H Q ⟨r, s, h, S, L, p⟩ => Post.ok (h := h) (rel := RelW G) (EX := EX) (by simpa only [evE] using p) S (.str x)
def nmOk (x : Str) : Bool := !(x == ("__debug__" : Str)) && !(x == ("__classdict__" : Str)) && !(x == ("__name__" : Str))
theorem nmOk.d {x : Str} (h : nmOk x = true) : (x == ("__debug__" : Str)) = false ∧ (x == ("__classdict__" : Str)) = false ∧ x ≠ "__name__" := by
  simp only [nmOk, Bool.and_eq_true, Bool.not_eq_true'] at h
  exact ⟨h.1.1, h.1.2, beq_eq_false_iff_ne.mp h.2⟩
theorem se_var {x : Str} {i : Nat} {p : Pos} (hi : Γ.N[i]? = some x) (hv : visB Γ.sc x = true) (hn : nmOk x = true) : SE G EX C Γ m (.Name x p) (.var i) := fun X g =>
  weakE (pe_var (by rw [g.N]; exact hi) (g.vis hv) (nmOk.d hn).1 (nmOk.d hn).2.1) fun σ H Q ⟨r, s, h, S, L, p⟩ => by
    cases e : getS s i with
    | none => simp only [evE, e] at p; exact False.elim p
    | some w =>
      simp only [evE, e] at p
      obtain ⟨v, a, b⟩ := L.get e
      exact ⟨v, a, Post.ok (h := h) p S b⟩
/-- a value that the module holds -/
def GlV (G : Gx) (x : Str) (w : W) : Prop := ∃ u v, G.mg x = some u ∧ RelV v u ∧ RelW G [] (fun _ => none) w v
theorem RelW.base {r : Rho} {H : Hp} {w : W} {v : V} (q : RelW G [] (fun _ => none) w v) : RelW G r H w v := by
  refine q.step ⟨⟨r, rfl⟩, fun a vs h => ?_⟩
  rcases h with (h | ⟨o, h⟩) | h
  · cases h
  · cases h
  · exact .inr h
theorem se_glo {x : Str} {w : W} {p : Pos} (hg : Γ.sc.names.lookup x = some .globalImplicit) (hn : nmOk x = true) (hw : GlV G x w) : SE G EX C Γ m (.Name x p) (.glo w) := fun X g => by
  obtain ⟨u, v, a, b, c⟩ := hw
  exact weakE (pe_glob (g.gl hg) (by rw [g.mg]; exact a) b (nmOk.d hn).1) fun σ H Q ⟨r, s, h, S, L, p⟩ => Post.ok (h := h) (rel := RelW G) (EX := EX) (by simpa only [evE] using p) S c.base

/-! ### operations -/
theorem se_bin {a b : Expr} {i j : E} {op : Bop} {p : Pos} (ha : SE G EX C Γ m a i) (hb : SE G EX C Γ m b j) : SE G EX C Γ m (.BinOp a (bopA op) b p) (.bin op i j) := fun X g =>
  weakE (pe_op (or_bin (X := X) g.K op) (ha X g) (hb X g)) fun σ H Q u => by
    obtain ⟨r, s, h, S, L, p⟩ := u
    simp only [evE] at p
    refine Post.bindU S L p fun r1 H1 h1 x y st0 S1 q1 p1 => ?_
    have L1 := L.step st0
    refine Post.bindU (f := evE C j) S1 L1 p1 fun r2 H2 h2 x2 y2 st S2 q2 p2 => ?_
    exact ⟨r2, h2, x, x2, S2, q1.step st, q2, p2.nx⟩
theorem se_neg {a : Expr} {i : E} {p : Pos} (ha : SE G EX C Γ m a i) : SE G EX C Γ m (.UnaryOp .USub a p) (.neg i) := fun X g =>
  weakE (pe_un un_neg (ha X g)) fun σ H Q u => by
    obtain ⟨r, s, h, S, L, p⟩ := u
    simp only [evE] at p
    refine Post.bindU S L p fun r1 H1 h1 x y st0 S1 q1 p1 => ?_
    have L1 := L.step st0
    cases x <;> (try exact False.elim p1)
    cases q1
    exact ⟨_, rfl, Post.ok p1 S1 (.int _)⟩
theorem se_not {a : Expr} {i : E} {p : Pos} (ha : SE G EX C Γ m a i) : SE G EX C Γ m (.UnaryOp .Not a p) (.notE i) := fun X g =>
  weakE (pe_notT (ha X g)) fun σ H Q u => by
    obtain ⟨r, s, h, S, L, p⟩ := u
    simp only [evE] at p
    refine Post.bindU S L p fun r1 H1 h1 x y st0 S1 q1 p1 => ?_
    have L1 := L.step st0
    cases e : tru h1 x with
    | none => rw [e] at p1; exact False.elim p1
    | some k =>
      rw [e] at p1
      exact ⟨k, g.K ▸ S1.tru q1 e, Post.ok (h := h1) p1 S1 (.bl _)⟩
theorem se_and {a b : Expr} {rest : List Expr} {i j : E} {p : Pos} (ha : SE G EX C Γ m a i) (hb : SE G EX C Γ m (.BoolOp .And (b :: rest) p) j) : SE G EX C Γ m (.BoolOp .And (a :: b :: rest) p) (.andE i j) := fun X g =>
  weakE (pe_andT (ha X g) (hb X g)) fun σ H Q u => by
    obtain ⟨r, s, h, S, L, p⟩ := u
    simp only [evE] at p
    refine Post.bindU S L p fun r1 H1 h1 x y st0 S1 q1 p1 => ?_
    have L1 := L.step st0
    cases e : tru h1 x with
    | none => simp only [e] at p1; exact False.elim p1
    | some k =>
      simp only [e] at p1
      refine ⟨k, g.K ▸ S1.tru q1 e, ?_⟩
      cases k with
      | true => exact ⟨r1, s, h1, S1, L1, p1⟩
      | false => exact Post.ok (h := h1) p1 S1 q1
theorem se_or {a b : Expr} {rest : List Expr} {i j : E} {p : Pos} (ha : SE G EX C Γ m a i) (hb : SE G EX C Γ m (.BoolOp .Or (b :: rest) p) j) : SE G EX C Γ m (.BoolOp .Or (a :: b :: rest) p) (.orE i j) := fun X g =>
  weakE (pe_orT (ha X g) (hb X g)) fun σ H Q u => by
    obtain ⟨r, s, h, S, L, p⟩ := u
    simp only [evE] at p
    refine Post.bindU S L p fun r1 H1 h1 x y st0 S1 q1 p1 => ?_
    have L1 := L.step st0
    cases e : tru h1 x with
    | none => simp only [e] at p1; exact False.elim p1
    | some k =>
      simp only [e] at p1
      refine ⟨k, g.K ▸ S1.tru q1 e, ?_⟩
      cases k with
      | true => exact Post.ok (h := h1) p1 S1 q1
      | false => exact ⟨r1, s, h1, S1, L1, p1⟩
theorem se_one {a : Expr} {op : BoolOp} {i : E} {p : Pos} (ha : SE G EX C Γ m a i) : SE G EX C Γ m (.BoolOp op [a] p) i := fun X g => pe_one (ha X g)
/-! ### comparisons -/
def notSet : Expr → Bool
  | .Set .. => false
  | _ => true
theorem noMark {b : Expr} (op : CmpOp) (h : notSet b = true) : behindInMarks op b = false := by
  cases b <;> first | rfl | cases h
theorem se_cmp {a b : Expr} {i j : E} {op : Cop} {p : Pos} (hc : NoEq C) (ha : SE G EX C Γ m a i) (hb : SE G EX C Γ m b j) (hm : notSet b = true) : SE G EX C Γ m (.Compare a [copA op] [b] p) (.cmp op i j) := fun X g =>
  weakE (pe_cmpR (or_cmp (X := X) g.K g.units hc op) (ha X g) (hb X g) (noMark _ hm)) fun σ H Q u => by
    obtain ⟨r, s, h, S, L, p⟩ := u
    simp only [evE] at p
    refine Post.bindU S L p fun r1 H1 h1 x y st0 S1 q1 p1 => ?_
    have L1 := L.step st0
    refine Post.bindU (f := evE C j) S1 L1 p1 fun r2 H2 h2 x2 y2 st S2 q2 p2 => ?_
    exact ⟨r2, h2, x, x2, S2, q1.step st, q2, p2.nx⟩
theorem st_cmp {a b : Expr} {i j : E} {op : Cop} {p : Pos} (hc : NoEq C) (ha : SE G EX C Γ m a i) (hb : SE G EX C Γ m b j) (hm : notSet b = true) : STt G EX C Γ m (.Compare a [copA op] [b] p) (.cmp op i j) := fun X g =>
  weakT (pt_cmpR (or_cmp (X := X) g.K g.units hc op) (ha X g) (hb X g) (noMark _ hm)) fun σ H Q u => by
    obtain ⟨r, s, h, S, L, p⟩ := u
    simp only [evT] at p
    refine Post.bindU S L p fun r1 H1 h1 x y st0 S1 q1 p1 => ?_
    have L1 := L.step st0
    refine Post.bindU (f := evE C j) S1 L1 p1 fun r2 H2 h2 x2 y2 st S2 q2 p2 => ?_
    refine ⟨r2, h2, x, x2, S2, q1.step st, q2, Post.of_bindN p2 fun r3 H3 h3 x3 y3 st3 S3 q3 p3 => ?_⟩
    cases x3 <;> (try exact False.elim p3)
    cases q3
    exact ⟨_, rfl, Post.ok p3 S3 rfl⟩
theorem chainU {op op' : Cop} {l : E} {x : W} {s : Sl} {σ : St} {y : V} {α β : Type} {rel : Rho → Hp → α → β → Prop} {Q : β → Hp → Prop} {r2 : Rho} {H2 : Hp} {h2 : Hh} {x2 : W} {y2 : V}
    {fin : W → Hh → R α} {Q1 : VK} {no : Hh → R α} (S2 : Sim G r2 h2 H2) (L2 : SlR G r2 H2 s σ) (q1 : RelW G r2 H2 x y) (q2 : RelW G r2 H2 x2 y2)
    (p2 : Post G r2 H2 rel Q EX ((cmpW C op x x2 h2).bindN fun r h3 => match r with
      | .bl true => (evE C l s h3).bind fun z h4 => (cmpW C op' x2 z h4).bindN fin
      | .bl false => no h3
      | _ => .no))
    (hf : ∀ r H h, Sim G r h H → Post G r H rel Q EX (no h) → Q1 (.bl false) H)
    (hk : ∀ r H h w v, Sim G r h H → RelW G r H w v → Post G r H rel Q EX (fin w h) → Q1 v H) :
    u2 G (cmpW C op) y y2 H2 fun z H3 => ∃ k, z = .bl k ∧ (if k = true then UU G EX (RelW G) (evE C l) σ H3 (fun w' H4 => u2 G (cmpW C op') y2 w' H4 Q1) else Q1 (.bl false) H3) := by
  refine ⟨r2, h2, x, x2, S2, q1, q2, Post.of_bindN p2 fun r3 H3 h3 x3 y3 st3 S3 q3 p3 => ?_⟩
  cases x3 <;> (try exact False.elim p3)
  cases q3
  rename_i k
  refine ⟨k, rfl, ?_⟩
  cases k with
  | true =>
    refine Post.bindU (f := evE C l) S3 (L2.step st3) p3 fun r4 H4 h4 x4 y4 st4 S4 q4 p4 => ?_
    exact ⟨r4, h4, x2, x4, S4, (q2.step st3).step st4, q4, Post.of_bindN p4 fun r5 H5 h5 x5 y5 st5 S5 q5 p5 => hk _ _ _ _ _ S5 q5 p5⟩
  | false => exact hf _ _ _ S3 p3
theorem lastNo {op op' : CmpOp} {b c : Expr} (h : notSet c = true) : lastMarks [op, op'] [b, c] = false := by
  show lastMarks [op'] [c] = false
  show behindInMarks op' c = false
  exact noMark _ h
theorem se_cmp2 {a b c : Expr} {i j l : E} {op op' : Cop} {p : Pos} (hc : NoEq C) (ha : SE G EX C Γ m a i) (hb : SE G EX C Γ m b j) (hd : SE G EX C Γ m c l) (hm : notSet c = true) :
    SE G EX C Γ m (.Compare a [copA op, copA op'] [b, c] p) (.cmp2 op op' i j l) := fun X g =>
  weakE (pe_chain (or_cmp (X := X) g.K g.units hc op) (or_cmp (X := X) g.K g.units hc op') (ha X g) (hb X g) (hd X g) (lastNo hm)) fun σ H Q u => by
    obtain ⟨r, s, h, S, L, p⟩ := u
    simp only [evE] at p
    refine Post.bindU S L p fun r1 H1 h1 x y st0 S1 q1 p1 => ?_
    have L1 := L.step st0
    refine Post.bindU (f := evE C j) S1 L1 p1 fun r2 H2 h2 x2 y2 st S2 q2 p2 => ?_
    have p3 : Post G r2 H2 (RelW G) Q EX ((cmpW C op x x2 h2).bindN fun r h3 => match r with
      | .bl true => (evE C l s h3).bind fun z h4 => (cmpW C op' x2 z h4).bindN fun w h5 => .ok w h5
      | .bl false => .ok (.bl false) h3
      | _ => .no) := by
      have e : (fun (r : W) (h3 : Hh) => match r with
        | .bl true => (evE C l s h3).bind fun z h4 => (cmpW C op' x2 z h4).bindN fun w h5 => .ok w h5
        | .bl false => .ok (.bl false) h3
        | _ => .no) = (fun (r : W) (h3 : Hh) => match r with
        | .bl true => (evE C l s h3).bind fun z h4 => (cmpW C op' x2 z h4).nx
        | .bl false => .ok (.bl false) h3
        | _ => .no) := by
        have e0 : ∀ x : R W, (x.bindN fun w h5 => .ok w h5) = x.nx := fun x => by cases x <;> rfl
        funext r h3
        simp only [e0]
      rw [e]; exact p2
    exact chainU S2 (L1.step st) (q1.step st) q2 p3 (fun r H h S p => Post.ok p S (.bl _)) (fun r H h w v S q p => Post.ok p S q)
theorem st_cmp2 {a b c : Expr} {i j l : E} {op op' : Cop} {p : Pos} (hc : NoEq C) (ha : SE G EX C Γ m a i) (hb : SE G EX C Γ m b j) (hd : SE G EX C Γ m c l) (hm : notSet c = true) :
    STt G EX C Γ m (.Compare a [copA op, copA op'] [b, c] p) (.cmp2 op op' i j l) := fun X g =>
  weakT (pt_chain (or_cmp (X := X) g.K g.units hc op) (or_cmp (X := X) g.K g.units hc op') (ha X g) (hb X g) (hd X g) (lastNo hm)) fun σ H Q u => by
    show tChain _ _ _ _ _ σ H _
    obtain ⟨r, s, h, S, L, p⟩ := u
    simp only [evT] at p
    refine Post.bindU S L p fun r1 H1 h1 x y st0 S1 q1 p1 => ?_
    have L1 := L.step st0
    refine Post.bindU (f := evE C j) S1 L1 p1 fun r2 H2 h2 x2 y2 st S2 q2 p2 => ?_
    refine chainU S2 (L1.step st) (q1.step st) q2 p2 (fun r H h S p => ⟨_, rfl, Post.ok p S rfl⟩) (fun r H h w v S q p => ?_)
    cases w <;> (try exact False.elim p)
    cases q
    exact ⟨_, rfl, Post.ok p S rfl⟩
/-! ### tests -/
theorem st_not {a : Expr} {i : E} {p : Pos} (ha : STt G EX C Γ m a i) : STt G EX C Γ m (.UnaryOp .Not a p) (.notE i) := fun X g =>
  weakT (pt_not (ha X g)) fun σ H Q u => by
    obtain ⟨r, s, h, S, L, p⟩ := u
    simp only [evT] at p
    refine Post.bindU S L p fun r1 H1 h1 x y st0 S1 q1 p1 => ?_
    have L1 := L.step st0
    subst q1
    exact Post.ok p1 S1 rfl
theorem sw_and {a b : Expr} {rest : List Expr} {i j : E} {p : Pos} (ha : STt G EX C Γ m a i) (hb : SW G EX C Γ m (.BoolOp .And (b :: rest) p) j) : SW G EX C Γ m (.BoolOp .And (a :: b :: rest) p) (.andE i j) := fun X g =>
  weakW (pw_and (ha X g) (hb X g)) fun σ H Q u => by
    obtain ⟨r, s, h, S, L, p⟩ := u
    simp only [evT] at p
    refine Post.bindU S L p fun r1 H1 h1 x y st0 S1 q1 p1 => ?_
    have L1 := L.step st0
    subst q1
    cases x with
    | true => exact ⟨r1, s, h1, S1, L1, p1⟩
    | false => exact Post.ok p1 S1 rfl
theorem sw_or {a b : Expr} {rest : List Expr} {i j : E} {p : Pos} (ha : STt G EX C Γ m a i) (hb : SW G EX C Γ m (.BoolOp .Or (b :: rest) p) j) : SW G EX C Γ m (.BoolOp .Or (a :: b :: rest) p) (.orE i j) := fun X g =>
  weakW (pw_or (ha X g) (hb X g)) fun σ H Q u => by
    obtain ⟨r, s, h, S, L, p⟩ := u
    simp only [evT] at p
    refine Post.bindU S L p fun r1 H1 h1 x y st0 S1 q1 p1 => ?_
    have L1 := L.step st0
    subst q1
    cases x with
    | false => exact ⟨r1, s, h1, S1, L1, p1⟩
    | true => exact Post.ok p1 S1 rfl
theorem sw_and1 {a : Expr} {i : E} {p : Pos} (ha : STt G EX C Γ m a i) : SW G EX C Γ m (.BoolOp .And [a] p) i := fun X g => pw_and1 (ha X g)
theorem sw_or1 {a : Expr} {i : E} {p : Pos} (ha : STt G EX C Γ m a i) : SW G EX C Γ m (.BoolOp .Or [a] p) i := fun X g => pw_or1 (ha X g)
theorem SW.pt {a : Expr} {i : E} (h : SW G EX C Γ m a i) : STt G EX C Γ m a i := fun X g => (h X g).pt
def plainT : Expr → Bool
  | .UnaryOp .Not _ _ => false
  | .BoolOp .. => false
  | .IfExp .. => false
  | .Compare .. => false
  | _ => true
theorem plainT_is {a : Expr} (h : plainT a = true) (env : Env) (whole : Sem Value) : isTrue a env whole = (do let v ← whole; standAt a.pos; holding [v] (truthy v)) := by
  cases a <;> first | rfl | (cases h; done) | skip
  rename_i op e p
  cases op <;> first | rfl | cases h
/-- the value's truth -/
def evTru (C : Cal) (i : E) (s : Sl) (h : Hh) : R Bool := (evE C i s h).bind fun x h1 => .of h1 (tru h1 x)
theorem st_tru {a : Expr} {i : E} (ha : SE G EX C Γ m a i) (hp : plainT a = true) (he : ∀ s h, evT C i s h = evTru C i s h) : STt G EX C Γ m a i := fun X g =>
  weakT (pt_truth (ha X g) (plainT_is hp X.env)) fun σ H Q u => by
    have e1 : evT C i = evTru C i := funext fun s => funext fun h => he s h
    rw [e1] at u
    obtain ⟨r, s, h, S, L, p⟩ := u
    unfold evTru at p
    refine Post.bindU S L p fun r1 H1 h1 x y st0 S1 q1 p1 => ?_
    have L1 := L.step st0
    cases e : tru h1 x with
    | none => rw [e] at p1; exact False.elim p1
    | some k =>
      rw [e] at p1
      exact ⟨k, g.K ▸ S1.tru q1 e, Post.ok (h := h1) p1 S1 rfl⟩
theorem se_ife {c a b : Expr} {k i j : E} {p : Pos} (hc : STt G EX C Γ m c k) (ha : SE G EX C Γ m a i) (hb : SE G EX C Γ m b j) : SE G EX C Γ m (.IfExp c a b p) (.ife k i j) := fun X g =>
  weakE (pe_ifExp (hc X g) (ha X g) (hb X g)) fun σ H Q u => by
    obtain ⟨r, s, h, S, L, p⟩ := u
    simp only [evE] at p
    refine Post.bindU S L p fun r1 H1 h1 x y st0 S1 q1 p1 => ?_
    have L1 := L.step st0
    subst q1
    cases x with
    | true => exact ⟨r1, s, h1, S1, L1, p1⟩
    | false => exact ⟨r1, s, h1, S1, L1, p1⟩
end
end Mi

set_option Elab.async false
set_option linter.all false
set_option maxRecDepth 100000
set_option maxHeartbeats 4000000
/-! Argument lists, displays, subscripts, fields, calls. -/
namespace Mi
open PySem PySem.Spec PyProof.Rows L2

def notStar : Expr → Bool
  | .Starred .. => false
  | _ => true
theorem star_cons {a : Expr} (h : notStar a = true) (es : List Expr) (env : Env) : starEach (a :: es) env = (false, eval a env) :: starEach es env := by
  cases a <;> first | rfl | cases h
theorem assign_cons {a : Expr} (h : notStar a = true) (es : List Expr) (env : Env) : assignEach (a :: es) env = (false, assign a env) :: assignEach es env := by
  cases a <;> first | rfl | cases h
/-- no starred item -/
def plainAll (es : List Expr) : Bool := es.all notStar
theorem star_all : ∀ {es : List Expr} (h : plainAll es = true) (env : Env), starEach es env = es.map fun a => (false, eval a env)
  | [], _, _ => rfl
  | a :: es, h, env => by
    simp only [plainAll, List.all_cons, Bool.and_eq_true] at h
    rw [star_cons h.1, star_all (es := es) h.2]; rfl
theorem backTo_any {es : List Expr} (h : plainAll es = true) (env : Env) (pos : Pos) : (backTo pos (starEach es env)).any (·.1) = false := by
  rw [star_all h]
  induction es with
  | nil => rfl
  | cons a es ih =>
    simp only [plainAll, List.all_cons, Bool.and_eq_true] at h
    simpa [backTo] using ih h.2
theorem backTo_all {es : List Expr} (h : plainAll es = true) (env : Env) (pos : Pos) : (backTo pos (starEach es env)).all (fun x => !x.1) = true := by
  rw [star_all h]
  induction es with
  | nil => rfl
  | cons a es ih =>
    simp only [plainAll, List.all_cons, Bool.and_eq_true] at h
    simpa [backTo] using ih h.2
/-- no super().x -/
def plainB : Expr → Bool
  | .Call (.Name _ _) [] [] _ => false
  | _ => true
theorem plainB_is {o : Expr} (h : plainB o = true) (attr : Str) (env : Env) (whole : Sem Value) : attributeBase o attr env whole = whole := by
  unfold attributeBase
  split
  · cases h
  · rfl
def notSlice : Expr → Bool
  | .Slice .. => false
  | _ => true
theorem notSlice_ix {b : Expr} (h : notSlice b = true) : PlainIx b := by
  intro o i
  cases b <;> first | rfl | cases h
def noComp : Expr → Bool
  | .ListComp .. => false | .SetComp .. => false | .DictComp .. => false
  | _ => true
theorem noComp_sw {e : Expr} (h : noComp e = true) (t : Option Expr) (l : Nat) (env : Env) : swapsWith e t l env = pure false := by
  cases e <;> first | rfl | cases h

section
variable {G : Gx} {EX : XK} {C : Cal} {Γ : Gm} {m : Nat}
structure SEs' (G : Gx) (EX : XK) (C : Cal) (Γ : Gm) (m : Nat) (e : List Expr) (i : Es) : Prop where
  pl : plainAll e = true
  nil : e = [] → i = .nil
  run : ∀ X, Gd G Γ m X → PA X e (UU G EX (RelWs G) (evEs C i))
theorem ss_nil : SEs' G EX C Γ m [] .nil := ⟨rfl, fun _ => rfl, fun X g => weakA pa_nil fun σ H Q ⟨r, s, h, S, L, p⟩ => by
  simp only [evEs] at p
  exact Post.ok (h := h) p S .nil⟩
theorem ss_cons {a : Expr} {es : List Expr} {i : E} {is : Es} (ha : SE G EX C Γ m a i) (hs : SEs' G EX C Γ m es is) (hn : notStar a = true) : SEs' G EX C Γ m (a :: es) (.cons i is) :=
  ⟨by simp only [plainAll, List.all_cons, Bool.and_eq_true]; exact ⟨hn, hs.pl⟩, fun e => (by cases e), fun X g => weakA (pa_cons (ha X g) (hs.run X g) (star_cons hn _ _)) fun σ H Q ⟨r, s, h, S, L, p⟩ => by
    simp only [evEs] at p
    refine Post.bindU S L p fun r1 H1 h1 x y st0 S1 q1 p1 => ?_
    have L1 := L.step st0
    refine Post.bindU (f := evEs C is) S1 L1 p1 fun r2 H2 h2 x2 y2 st S2 q2 p2 => ?_
    exact Post.ok p2 S2 (.cons (q1.step st) q2)⟩
/-! ### displays -/
theorem se_lst {es : List Expr} {is : Es} {p : Pos} (hs : SEs' G EX C Γ m es is) : SE G EX C Γ m (.List es p) (.lst is) := fun X g =>
  weakE (pe_lst (hs.run X g)) fun σ H Q ⟨r, s, h, S, L, p⟩ => by
    simp only [evE] at p
    refine Post.bindU S L p fun r1 H1 h1 x y st0 S1 q1 p1 => ?_
    have p2 := p1.nx (E' := EX)
    unfold newL at p2
    split at p2
    · rename_i hl
      exact ⟨by rw [← q1.length]; exact hl, Post.newL S1 q1 p2⟩
    · exact False.elim p2
theorem se_tup {es : List Expr} {is : Es} {p : Pos} {k : Nat} (hs : SEs' G EX C Γ m es is) : SE G EX C Γ m (.Tuple es k p) (.tup is) := fun X g =>
  weakE (pe_tup (hs.run X g)) fun σ H Q ⟨r, s, h, S, L, p⟩ => by
    simp only [evE] at p
    refine Post.bindU S L p fun r1 H1 h1 x y st0 S1 q1 p1 => ?_
    have p2 := p1.nx (E' := EX)
    unfold newT at p2
    split at p2
    · rename_i hl
      exact ⟨by rw [← q1.length]; exact hl, Post.newT S1 q1 p2⟩
    · exact False.elim p2
theorem se_dic0 {p : Pos} : SE G EX C Γ m (.Dict [] [] p) .dic0 := fun X g =>
  weakE pe_dnewK fun σ H Q ⟨r, s, h, S, L, p⟩ => by
    simp only [evE] at p
    exact Post.newD S .nil p
/-! ### subscripts -/
theorem se_ix {a b : Expr} {i j : E} {p : Pos} (ha : SE G EX C Γ m a i) (hb : SE G EX C Γ m b j) (hn : notSlice b = true) : SE G EX C Γ m (.Subscript a b p) (.ix i j) := fun X g =>
  weakE (pe_ix (or_ix (X := X) g.K g.units) (ha X g) (hb X g) (notSlice_ix hn)) fun σ H Q ⟨r, s, h, S, L, p⟩ => by
    simp only [evE] at p
    refine Post.bindU S L p fun r1 H1 h1 x y st0 S1 q1 p1 => ?_
    have L1 := L.step st0
    refine Post.bindU (f := evE C j) S1 L1 p1 fun r2 H2 h2 x2 y2 st S2 q2 p2 => ?_
    refine ⟨r2, h2, x, x2, S2, q1.step st, q2, ?_⟩
    cases e : ixW x x2 h2 with
    | none => rw [e] at p2; exact False.elim p2
    | some w =>
      rw [e] at p2
      show Post G r2 H2 (RelW G) Q _ (R.of h2 (ixW x x2 h2))
      rw [e]; exact p2
theorem se_rev {a : Expr} {i : E} {k : Nat} {p1 p2 p3 p : Pos} (ha : SE G EX C Γ m a i) : SE G EX C Γ m (.Subscript a (.Slice none none (some (.UnaryOp .USub (.Constant (.int 1) k p1) p2)) p3) p) (.rev i) := fun X g =>
  weakE (pe_revL (ha X g)) fun σ H Q ⟨r, s, h, S, L, p⟩ => by
    simp only [evE] at p
    refine Post.bindU S L p fun r1 H1 h1 x y st0 S1 q1 p1 => ?_
    have p2 := p1.nx (E' := EX)
    unfold revW at p2
    split at p2
    · split at p2
      · rename_i e
        obtain ⟨pa, vs, rfl, sl', rs⟩ := S1.seqRef q1 e
        exact ⟨pa, vs, rfl, g.K ▸ sl', Post.newL S1 rs.reverse p2⟩
      · exact False.elim p2
    · exact False.elim p2
/-- a part of a slice -/
def SO (G : Gx) (EX : XK) (C : Cal) (Γ : Gm) (m : Nat) (e : Option Expr) (i : Eo) : Prop := ∀ X, Gd G Γ m X → PO X e (UU G EX (fun _ _ => Eq) (evO C i))
theorem weakO {X : Cx} {e : Option Expr} {t t' : TO} (h : PO X e t) (w : ∀ σ H Q, t' σ H Q → t σ H Q) : PO X e t' := ⟨fun pins s σ H Q I q => h.run pins s σ H Q I (w _ _ _ q)⟩
theorem so_none : SO G EX C Γ m none .none := fun X g => weakO po_none fun σ H Q ⟨r, s, h, S, L, p⟩ => by
  simp only [evO] at p
  exact Post.ok (h := h) p S rfl
theorem so_some {a : Expr} {i : E} (ha : SE G EX C Γ m a i) : SO G EX C Γ m (some a) (.some i) := fun X g => weakO (po_some (ha X g)) fun σ H Q ⟨r, s, h, S, L, p⟩ => by
  simp only [evO] at p
  refine Post.bindU S L p fun r1 H1 h1 x y st0 S1 q1 p1 => ?_
  cases x <;> (try exact False.elim p1)
  cases q1
  exact ⟨_, rfl, Post.ok p1 S1 rfl⟩
theorem se_slc {a : Expr} {lo hi : Option Expr} {i : E} {l u : Eo} {p2 p : Pos} (ha : SE G EX C Γ m a i) (hl : SO G EX C Γ m lo l) (hh : SO G EX C Γ m hi u) : SE G EX C Γ m (.Subscript a (.Slice lo hi none p2) p) (.slc i l u) := fun X g =>
  weakE (pe_slice (or_slc (X := X) g.K) (ha X g) (hl X g) (hh X g)) fun σ H Q ⟨r, s, h, S, L, p⟩ => by
    simp only [evE] at p
    refine Post.bindU S L p fun r1 H1 h1 x y st0 S1 q1 p1 => ?_
    have L1 := L.step st0
    refine Post.bindU (f := evO C l) S1 L1 p1 fun r2 H2 h2 x2 y2 st S2 q2 p2 => ?_
    subst q2
    refine Post.bindU (f := evO C u) S2 (L1.step st) p2 fun r3 H3 h3 x3 y3 st3 S3 q3 p3 => ?_
    subst q3
    exact ⟨r3, h3, x, S3, (q1.step st).step st3, p3.nx⟩
end

/-! ### calls of own defs -/
/-- what the callees promise: one level below -/
structure FnC (G : Gx) (C : Cal) (l k : Nat) : Prop where
  ex : ∃ (fd : FuncData) (ps : List Str), FnOk G.P G.w G.K G.mg G.base CX0 l (G.fa k) fd ps (fun vs H Q EX => vs.length = ps.length ∧ ∃ r h ws, Sim G r h H ∧ RelWs G r H ws vs ∧ Post G r H (RelW G) Q EX (C.call k ws h)) ∧
    PySem.W.keepIn G.K (.ref (G.fa k)) = true ∧ Binds G.K fd ps [] ∧ ∀ ws h, C.call k ws h ≠ .no → ws.length = ps.length
def COk (G : Gx) (C : Cal) (l n : Nat) : Prop := ∀ k, k < n → FnC G C l k
theorem Post.ne {α β : Type} {G : Gx} {r : Rho} {H : Hp} {rel : Rho → Hp → α → β → Prop} {Q : β → Hp → Prop} {EX : XK} {x : R α} (p : Post G r H rel Q EX x) : x ≠ .no := fun e => by rw [e] at p; exact p
section
variable {G : Gx} {EX : XK} {C : Cal} {Γ : Gm} {m l n : Nat} {X : Cx}
theorem Gd.fnOk (g : Gd G Γ m X) {k l : Nat} {f : Addr} {fd : FuncData} {ps : List Str} {sp : Sp} (F : FnOk G.P G.w G.K G.mg G.base CX0 l f fd ps sp) : FnOk X.prog X.w X.K X.mg X.base CX0 l f fd ps sp := by
  rw [g.prog, g.w, g.K, g.mg, g.base]; exact F
theorem se_call {k : Nat} {x : Str} {es : List Expr} {is : Es} {p pos : Pos} (hc : COk G C l n) (hl : l ≤ m) (hk : k < n) (hs : SEs' G EX C Γ m es is) (hg : Γ.sc.names.lookup x = some .globalImplicit) (hn : nmOk x = true)
    (hm : G.mg x = some (.ref (G.fa k))) : SE G EX C Γ m (.Call (.Name x p) es [] pos) (.call k is []) := fun X g => by
  obtain ⟨fd, ps, F, kp, hb, hlen⟩ := (hc k hk).ex
  have F' := g.fnOk (k := k) F
  have room : Room l X.A := g.room.mono hl
  have mg' : X.mg x = some (.ref (G.fa k)) := by rw [g.mg]; exact hm
  have kp' : PySem.W.keepIn X.K (.ref (G.fa k)) = true := by rw [g.K]; exact kp
  have hb' : Binds X.K fd ps [] := by rw [g.K]; exact hb
  cases es with
  | nil =>
    refine weakE (pe_call0 F' room (g.gl hg) mg' kp' hb' (dvs := []) .nil (passes0 X EX) (nmOk.d hn).1) fun σ H Q ⟨r, s, h, S, L, p⟩ => ?_
    have e0 := hs.nil rfl
    subst e0
    simp only [evE, evEs, R.bind, permW] at p
    have e := hlen _ _ p.ne
    exact ⟨e, r, h, [], S, .nil, p⟩
  | cons a es =>
    have ha := hs.pl
    simp only [plainAll, List.all_cons, Bool.and_eq_true] at ha
    refine weakE (pe_call F' room (g.gl hg) mg' kp' hb' (dvs := []) .nil (passes0 X EX) (hs.run X g) (nmOk.d hn).1 (star_cons ha.1 _ _) (backTo_any ha.2 _ _)) fun σ H Q ⟨r, s, h, S, L, p⟩ => ?_
    simp only [evE] at p
    refine Post.bindU S L p fun r1 H1 h1 x y st0 S1 q1 p1 => ?_
    simp only [permW] at p1
    have e := hlen _ _ p1.ne
    refine ⟨?_, r1, h1, x, S1, ?_, p1⟩
    · rw [List.append_nil, ← q1.length]; exact e
    · rw [List.append_nil]; exact q1
end
end Mi

set_option Elab.async false
set_option linter.all false
set_option maxRecDepth 100000
set_option maxHeartbeats 4000000
/-! Methods, fields, new instances, built-ins. -/
namespace Mi
open PySem PySem.Spec PyProof.Rows L2

theorem kwNone (pos : Pos) (env : Env) : backToKw pos (keywordEach [] env) = [] := rfl
theorem callForm {es : List Expr} {env : Env} {pos : Pos} (hp : plainAll es = true) (hl : es.length < 29) : methodCallForm (es.length + ([] : List Keyword).length) (backTo pos (starEach es env)) (backToKw pos (keywordEach [] env)) = true := by
  unfold methodCallForm
  rw [backTo_all hp, kwNone]
  simp; omega
theorem meth_ht {o : Expr} {m : Str} {es : List Expr} {apos pos : Pos} {env : Env} (hb : plainB o = true) (hp : plainAll es = true) (hl : es.length < 29) (hline : (apos.endLine == pos.line) = true) :
    eval (.Call (.Attribute o m apos) es [] pos) env = (do
      let ov ← eval o env
      standAt apos.atName
      let (f, first) ← holding [ov] (getMethod ov m (do return (← importBound o env).getD true))
      callWith pos f first (backTo pos (starEach es env)) (backToKw pos (keywordEach [] env))) := by
  rw [arm_eval_Call, plainB_is hb]
  unfold methodCall
  rw [callForm hp hl]
  have e : methodCallPos true o env apos pos = pure pos := by
    unfold methodCallPos
    rw [hline]; rfl
  rw [e]
  rfl
/-- what of the text a class must have -/
structure ClsF (G : Gx) (n c : Nat) (q : ClsI) : Prop where
  cls : Cls G.K (G.ca c)
  ms : ∀ f k, q.ms.lookup f = some k → k < n ∧ ∃ x, G.nm[f]? = some x ∧ Meth G.K (G.ca c) x (G.fa k)
  ps : ∀ f k, q.ps.lookup f = some k → k < n ∧ ∃ x p, G.nm[f]? = some x ∧ PropOf G.K (G.ca c) x p (G.fa k)
  na : ∀ f x, G.nm[f]? = some x → q.ms.lookup f = none → q.ps.lookup f = none → NoAttr G.K (G.ca c) x
  ini : q.ini < n
  mkF : Mk G.K (G.ca c) (G.fa q.ini)
structure CsF (G : Gx) (C : Cal) (n : Nat) : Prop where
  nd : G.nm.Nodup
  cl : ∀ c q, C.cs[c]? = some q → ClsF G n c q
section
variable {G : Gx} {EX : XK} {C : Cal} {Γ : Gm} {m l n : Nat} {X : Cx}
/-- the reading is kept for a run that is known -/
theorem UU.of {α β : Type} {rel : Rho → Hp → α → β → Prop} {f : Sl → Hh → R α} {σ : St} {H : Hp} {r : Rho} {s : Sl} {h h1 : Hh} {a : α} {K : β → Hp → Prop} (S : Sim G r h H) (L : SlR G r H s σ) (e : f s h = .ok a h1)
    (k : ∀ r1 H1 b, Step G r H r1 H1 → Sim G r1 h1 H1 → rel r1 H1 a b → K b H1) : UU G EX rel f σ H K := ⟨r, s, h, S, L, by rw [e]; exact k⟩
theorem UU.ex {α β : Type} {rel : Rho → Hp → α → β → Prop} {f : Sl → Hh → R α} {σ : St} {H : Hp} {r : Rho} {s : Sl} {h h1 : Hh} {c : Nat} {fs : Fs} {γ δ : Type} {rel' : Rho → Hp → γ → δ → Prop} {Q : δ → Hp → Prop} {K : β → Hp → Prop} (S : Sim G r h H) (L : SlR G r H s σ) (e : f s h = .ex c fs h1)
    (p : Post G r H rel' Q EX (.ex c fs h1)) : UU G EX rel f σ H K := ⟨r, s, h, S, L, by rw [e]; exact p⟩
theorem Gd.binds (g : Gd G Γ m X) {fd : FuncData} {ps : List Str} {ds : List Value} (h : Binds G.K fd ps ds) : Binds X.K fd ps ds := by rw [g.K]; exact h
theorem RelW.inv' {r : Rho} {H : Hp} {k : Nat} {v : V} (q : RelW G r H (.ref k) v) : ∃ a, v = .ref a ∧ r[k]? = some a := q.inv
/-- o.m(..) of a known class -/
theorem meth_at {i : E} {o : Expr} {x : Str} {es : List Expr} {is : Es} {apos pos : Pos} {c k f : Nat} {q : ClsI} (g : Gd G Γ m X) (hc : COk G C l n) (cf : ClsF G n c q) (hk : q.ms.lookup f = some k) (hx : G.nm[f]? = some x) (hl : l ≤ m)
    (ho : SE G EX C Γ m o i) (hs : SEs' G EX C Γ m es is) (hb : plainB o = true) (h29 : es.length < 29) (hline : (apos.endLine == pos.line) = true) :
    ∃ (fd : FuncData) (ps : List Str), (∀ ws h, C.call k ws h ≠ .no → ws.length = ps.length) ∧ PE X (.Call (.Attribute o x apos) es [] pos)
      (tMeth (G.ca c) x (fun vs H Q EX => vs.length = ps.length ∧ ∃ r h ws, Sim G r h H ∧ RelWs G r H ws vs ∧ Post G r H (RelW G) Q EX (C.call k ws h)) [] EX (UU G EX (RelW G) (evE C i)) (UU G EX (RelWs G) (evEs C is))) := by
  obtain ⟨hkn, x', hx', me⟩ := cf.ms f k hk
  rw [hx] at hx'; cases hx'
  obtain ⟨fd, ps, F, kp, hb', hlen⟩ := (hc k hkn).ex
  refine ⟨fd, ps, hlen, ?_⟩
  have F' := g.fnOk (k := k) F
  have room : Room l X.A := g.room.mono hl
  have cls' : Cls X.K (G.ca c) := by rw [g.K]; exact cf.cls
  have me' : Meth X.K (G.ca c) x (G.fa k) := by rw [g.K]; exact me
  cases es with
  | nil =>
    have e0 := hs.nil rfl
    subst e0
    refine weakE (pe_meth0 (ho X g) cls' me' F' room (g.binds hb') (dvs := []) .nil (passes0 X EX) (meth_ht hb hs.pl h29 hline)) fun σ H Q u => ?_
    obtain ⟨r, s, h, S, L, p⟩ := u
    refine ⟨r, s, h, S, L, ?_⟩
    cases e : evE C i s h with
    | ok a h1 =>
      rw [e] at p
      intro r' H' b st S' q'
      obtain ⟨a', dx, fs, e1, e2, e3, r3, s3, h3, S3, L3, p3⟩ := p r' H' b st S' q'
      refine ⟨a', dx, fs, e1, e2, e3, ?_⟩
      simp only [evEs] at p3
      exact Post.ok (h := h3) p3 S3 .nil
    | ex c fs h1 => rw [e] at p; exact p
    | no => rw [e] at p; exact p
  | cons a es =>
    have ha := hs.pl
    simp only [plainAll, List.all_cons, Bool.and_eq_true] at ha
    exact pe_meth (ho X g) cls' me' F' room (g.binds hb') (dvs := []) .nil (passes0 X EX) (hs.run X g) (star_cons ha.1 _ _) (backTo_any ha.2 _ _) (meth_ht hb hs.pl h29 hline)
theorem se_meth {i : E} {o : Expr} {x : Str} {es : List Expr} {is : Es} {apos pos : Pos} {f : Nat} (hc : COk G C l n) (cs : CsF G C n) (hw : ∃ (c : Nat) (q : ClsI) (k : Nat), C.cs[c]? = some q ∧ q.ms.lookup f = some k) (hx : G.nm[f]? = some x) (hl : l ≤ m)
    (ho : SE G EX C Γ m o i) (hs : SEs' G EX C Γ m es is) (hb : plainB o = true) (h29 : es.length < 29) (hline : (apos.endLine == pos.line) = true) : SE G EX C Γ m (.Call (.Attribute o x apos) es [] pos) (.meth i f is []) := fun X g => by
  refine pickE fun σ H Q ⟨r, s, h, S, L, p⟩ => ?_
  simp only [evE] at p
  cases e : evE C i s h with
  | ok a h1 =>
    rw [e] at p
    simp only [R.bind] at p
    cases em : methOf C a f h1 with
    | none => rw [em] at p; exact False.elim p
    | some k =>
      rw [em] at p
      dsimp only at p
      unfold methOf at em
      split at em
      · split at em
        · rename_i nn c fs g1
          split at em
          · rename_i q eq el
            obtain ⟨fd, ps, hlen, pe⟩ := meth_at (apos := apos) (pos := pos) g hc (cs.cl c q eq) em hx hl ho hs hb h29 hline
            refine ⟨_, pe, UU.of S L e fun r1 H1 b st S1 q1 => ?_⟩
            obtain ⟨pa, rfl, e2⟩ := q1.inv
            obtain ⟨dx, fv, ea, rf⟩ := S1.ins e2 g1
            have lk : fv.lookup x = none := by
              rcases rf.lookup cs.nd hx with ⟨_, z⟩ | ⟨w, v, z, _⟩
              · exact z
              · rw [el] at z; cases z
            refine ⟨pa, dx, fv, rfl, ea, lk, ?_⟩
            refine Post.bindU S1 (L.step st) (Post.step (x := (evEs C is s h1).bind _) p st) fun r2 H2 h2 ws vs st2 S2 q2 p2 => ?_
            simp only [permW] at p2
            have e3 := hlen _ _ p2.ne
            refine ⟨?_, r2, h2, _, S2, .cons (RelW.step st2 (.ref e2)) ?_, p2⟩
            · rw [List.append_nil]; simpa [q2.length] using e3
            · rw [List.append_nil]; exact q2
          · cases em
        · cases em
      · cases em
  | ex c fs h1 =>
    rw [e] at p
    simp only [R.bind] at p
    obtain ⟨c0, q, k, e1, e2⟩ := hw
    obtain ⟨fd, ps, hlen, pe⟩ := meth_at (apos := apos) (pos := pos) g hc (cs.cl c0 q e1) e2 hx hl ho hs hb h29 hline
    exact ⟨_, pe, UU.ex S L e p⟩
  | no => rw [e] at p; exact False.elim p
/-! ### fields, properties -/
theorem se_fld {i : E} {o : Expr} {x : Str} {f : Nat} {p : Pos} (hc : COk G C l n) (cs : CsF G C n) (hx : G.nm[f]? = some x) (hl : l + 1 ≤ m) (ho : SE G EX C Γ m o i) (hb : plainB o = true) : SE G EX C Γ m (.Attribute o x p) (.fld i f) := fun X g => by
  refine pickE fun σ H Q ⟨r, s, h, S, L, p⟩ => ?_
  simp only [evE] at p
  cases e : evE C i s h with
  | ok a h1 =>
    rw [e] at p
    simp only [R.bind] at p
    replace p := p.nx (E' := EX)
    unfold fldW at p
    split at p
    · rename_i nn
      split at p
      · rename_i c fs g1
        split at p
        · rename_i q eq
          have cf := cs.cl c q eq
          have cls' : Cls X.K (G.ca c) := by rw [g.K]; exact cf.cls
          split at p
          · rename_i k ek
            obtain ⟨hkn, x', pr, hx', po⟩ := cf.ps f k ek
            rw [hx] at hx'; cases hx'
            obtain ⟨fd, ps, F, kp, hb', hlen⟩ := (hc k hkn).ex
            refine ⟨_, pe_prop (ho X g) cls' (g.K ▸ po) (g.fnOk (k := k) F) (g.room.mono hl) (g.binds hb') (dvs := []) .nil (passes0 X.nox EX) (plainB_is hb _ _ _), UU.of S L e fun r1 H1 b st S1 q1 => ?_⟩
            obtain ⟨pa, rfl, e2⟩ := q1.inv
            obtain ⟨dx, fv, ea, rf⟩ := S1.ins e2 g1
            have p1 := Post.step (x := C.call k [W.ref nn] h1) p st
            have e3 := hlen _ _ p1.ne
            exact ⟨pa, dx, fv, rfl, ea, e3, r1, h1, _, S1, .cons (.ref e2) .nil, p1⟩
          · rename_i ep
            split at p
            · exact False.elim p
            · rename_i emm
              refine ⟨_, pe_fld (ho X g) (plainB_is hb _ _ _), UU.of S L e fun r1 H1 b st S1 q1 => ?_⟩
              obtain ⟨pa, rfl, e2⟩ := q1.inv
              obtain ⟨dx, fv, ea, rf⟩ := S1.ins e2 g1
              rcases rf.lookup cs.nd hx with ⟨z, _⟩ | ⟨w, v, z1, z2, z3⟩
              · rw [z] at p; exact False.elim p
              · rw [z1] at p
                refine ⟨pa, _, dx, fv, v, rfl, ea, cls', ?_, z2, Post.ok (h := h1) (Post.step (x := .ok w h1) p st) S1 z3⟩
                rw [g.K]; exact cf.na f x hx emm ep
        · exact False.elim p
      · exact False.elim p
    · exact False.elim p
  | ex c fs h1 =>
    rw [e] at p
    simp only [R.bind] at p
    exact ⟨_, pe_fld (ho X g) (plainB_is hb _ _ _), UU.ex S L e p⟩
  | no => rw [e] at p; exact False.elim p
end
end Mi

set_option Elab.async false
set_option linter.all false
set_option maxRecDepth 100000
set_option maxHeartbeats 4000000
/-! New instances, built-ins, methods of lists and dicts, isinstance. -/
namespace Mi
open PySem PySem.Spec PyProof.Rows L2
section
variable {G : Gx} {EX : XK} {C : Cal} {Γ : Gm} {m l n : Nat} {X : Cx}
theorem se_make {c : Nat} {q : ClsI} {x : Str} {es : List Expr} {is : Es} {p pos : Pos} (hc : COk G C l n) (cs : CsF G C n) (hq : C.cs[c]? = some q) (hl : l + 1 ≤ m) (hs : SEs' G EX C Γ m es is)
    (hg : Γ.sc.names.lookup x = some .globalImplicit) (hn : nmOk x = true) (hm : G.mg x = some (.ref (G.ca c))) : SE G EX C Γ m (.Call (.Name x p) es [] pos) (.make c is []) := fun X g => by
  have cf := cs.cl c q hq
  obtain ⟨fd, ps, F, kp, hb, hlen⟩ := (hc q.ini cf.ini).ex
  have F' := g.fnOk (k := q.ini) F
  have mk' : Mk X.K (G.ca c) (G.fa q.ini) := by rw [g.K]; exact cf.mkF
  have mg' : X.mg x = some (.ref (G.ca c)) := by rw [g.mg]; exact hm
  have fin : ∀ {Q : VK} {r1 : Rho} {H1 : Hp} {h1 : Hh} {ws : List W} {vs : List V}, Sim G r1 h1 H1 → RelWs G r1 H1 ws vs → Post G r1 H1 (RelW G) Q EX (makeW C c ws h1) → ∀ x dx, H1 x = none → H1 dx = none → dx ≠ x →
      ((V.ref x :: (vs ++ [])).length = ps.length ∧ ∃ r h ws, Sim G r h (upd (upd H1 dx (.own x)) x (.ins (G.ca c) dx [])) ∧ RelWs G r (upd (upd H1 dx (.own x)) x (.ins (G.ca c) dx [])) ws (V.ref x :: (vs ++ [])) ∧
        Post G r (upd (upd H1 dx (.own x)) x (.ins (G.ca c) dx [])) (RelW G) (fun v H2 => v = .non ∧ Q (.ref x) H2) EX (C.call q.ini ws h)) := by
    intro Q r1 H1 h1 ws vs S1 q1 p1 x dx hx hdx ne
    unfold makeW at p1
    rw [hq] at p1
    dsimp only at p1
    have S0 := S1.fresh (ho := .own x) hdx
    have st0 : Step G r1 H1 r1 (upd H1 dx (.own x)) := Step.fresh hdx
    have hx' : upd H1 dx (.own x) x = none := by rw [upd_ne (Ne.symm ne)]; exact hx
    obtain ⟨S2, st2⟩ := S0.push (o := .ins c []) (ho := .ins (G.ca c) dx []) hx' ⟨dx, [], upd_same, .nil⟩
    have p2 := Post.step p1 (st0.trans st2)
    have hne : C.call q.ini (.ref h1.n :: ws) (h1.push (.ins c [])) ≠ .no := fun e => by rw [e] at p2; exact p2
    have e3 := hlen _ _ hne
    refine ⟨?_, _, _, _, S2, .cons (.ref (S0.last x)) (by rw [List.append_nil]; exact q1.step (st0.trans st2)), ?_⟩
    · rw [List.append_nil]; simpa [q1.length] using e3
    · refine Post.of_bind p2 fun r3 H3 h3 a b st3 S3 q3 p3 => ?_
      cases a <;> (try exact False.elim p3)
      cases q3
      exact ⟨rfl, Post.ok p3 S3 (.ref (st3.get (S0.last x)))⟩
  cases es with
  | nil =>
    have e0 := hs.nil rfl
    subst e0
    refine weakE (pe_make0 mk' F' (g.room.mono hl) (g.gl hg) mg' (g.binds hb) (dvs := []) .nil (passes0 X EX) (nmOk.d hn).1) fun σ H Q ⟨r, s, h, S, L, p⟩ => ?_
    simp only [evE, evEs, R.bind, permW] at p
    exact fin S .nil p
  | cons a es =>
    have ha := hs.pl
    simp only [plainAll, List.all_cons, Bool.and_eq_true] at ha
    refine weakE (pe_make mk' F' (g.room.mono hl) (g.gl hg) mg' (g.binds hb) (dvs := []) .nil (passes0 X EX) (hs.run X g) (nmOk.d hn).1 (star_cons ha.1 _ _) (backTo_any ha.2 _ _)) fun σ H Q ⟨r, s, h, S, L, p⟩ => ?_
    simp only [evE] at p
    refine Post.bindU S L p fun r1 H1 h1 ws vs st0 S1 q1 p1 => ?_
    simp only [permW] at p1
    exact fin S1 q1 p1
/-! ### built-ins -/
def bcN : Bc → Str
  | .len1 => "len" | .abs1 => "abs" | .int1 => "int" | .list1 => "list" | .tuple1 => "tuple" | .sorted1 => "sorted" | .dict1 => "dict" | .repr1 => "repr"
  | .any1 => "any" | .all1 => "all" | .sum1 => "sum" | .min1 => "min" | .max1 => "max" | .max2 => "max" | .min2 => "min" | .divmod2 => "divmod"
theorem bc_boot (b : Bc) : bootBuiltins (bcN b) = some (bcA b) := by cases b <;> decide +kernel
theorem bc_nm (b : Bc) : nmOk (bcN b) = true := by cases b <;> decide +kernel
theorem callBT {X : Cx} {p pos : Pos} {e : Expr} {es : List Expr} {t : TA} {r : List V → Hp → VK → Prop} (b : Bc) (hc : CallR X (bcA b) r) (hg : Gl X (bcN b)) (hm : X.mg (bcN b) = none) (ha : PA X (e :: es) t)
    (he : starEach (e :: es) X.env = (false, eval e X.env) :: starEach es X.env) (hpl : (backTo pos (starEach es X.env)).any (·.1) = false) : PE X (.Call (.Name (bcN b) p) (e :: es) [] pos) (tCB r t) := by
  have n := nmOk.d (bc_nm b)
  have v := bc_boot b
  cases b <;> first | exact pe_callB hc hg hm v ha n.2.2 n.1 he hpl | exact pe_callTy hc hg hm v ha n.2.2 n.1 he hpl
theorem se_bc {b : Bc} {a : Expr} {es : List Expr} {is : Es} {p pos : Pos} (hs : SEs' G EX C Γ m (a :: es) is) (hg : Γ.sc.names.lookup (bcN b) = some .globalImplicit) (hm : G.mg (bcN b) = none) :
    SE G EX C Γ m (.Call (.Name (bcN b) p) (a :: es) [] pos) (.bc b is) := fun X g => by
  have ha := hs.pl
  simp only [plainAll, List.all_cons, Bool.and_eq_true] at ha
  refine weakE (callBT b (or_bc (X := X) g.K g.calm b) (g.gl hg) (by rw [g.mg]; exact hm) (hs.run X g) (star_cons ha.1 _ _) (backTo_any ha.2 _ _)) fun σ H Q ⟨r, s, h, S, L, p⟩ => ?_
  simp only [evE] at p
  refine Post.bindU S L p fun r1 H1 h1 ws vs st0 S1 q1 p1 => ?_
  exact ⟨r1, h1, ws, S1, q1, p1.nx⟩
/-! ### methods of lists and dicts -/
def bmN : Bm → Str
  | .append1 => "append" | .insert2 => "insert" | .pop0 => "pop" | .pop1 => "pop" | .remove1 => "remove"
theorem few_ok {es : List Expr} {env : Env} {pos : Pos} (hp : plainAll es = true) (hl : es.length < 29) : ((backTo pos (starEach es env)).all (fun x => !x.1) && (backToKw pos (keywordEach [] env)).all (fun x => x.1.isSome)
      && decide (es.length + ([] : List Keyword).length + (if ([] : List Keyword).isEmpty then 0 else 1) < 30)) = true := by
  rw [backTo_all hp, kwNone]
  simp; omega
theorem kindW_t {h : Hh} {w : W} (e : kindW h w = some true) : isL h w = true := by
  unfold kindW at e
  split at e
  · assumption
  · split at e <;> cases e
theorem kindW_f {h : Hh} {w : W} (e : kindW h w = some false) : isD h w = true := by
  unfold kindW at e
  split at e
  · cases e
  · split at e
    · assumption
    · cases e
theorem isL_ty {r : Rho} {h : Hh} {H : Hp} {w : W} {v : V} (S : Sim G r h H) (e : isL h w = true) (q : RelW G r H w v) : tyV G.K "list" v H := by
  obtain ⟨n, ws, rfl, g⟩ := isL_inv e
  obtain ⟨a, rfl, e2⟩ := q.inv
  obtain ⟨vs, a1, b1⟩ := S.lst e2 g
  exact .inl ⟨rfl, vs, SqL.of a1⟩
theorem isD_ty {r : Rho} {h : Hh} {H : Hp} {w : W} {v : V} (S : Sim G r h H) (e : isD h w = true) (q : RelW G r H w v) : tyV G.K "dict" v H := by
  obtain ⟨n, ws, rfl, g⟩ := isD_inv e
  obtain ⟨a, rfl, e2⟩ := q.inv
  obtain ⟨vs, a1, b1⟩ := S.dic e2 g
  exact .inr (.inr (.inl ⟨rfl, .inl ⟨vs, a1⟩⟩))
/-- on a list -/
theorem bm_list {i : E} {is : Es} {b : Bm} {o : Expr} {a : Expr} {es : List Expr} {name : Str} {id : String} {apos pos : Pos} (slot : Slot "list" name id) (hty : typeOf (.builtin id) = pure (.type "method_descriptor")) (g : Gd G Γ m X) (hm : MtR X id (uMl G b))
    (ho : SE G EX C Γ m o i) (hs : SEs' G EX C Γ m (a :: es) is) (hb : plainB o = true) (h29 : (a :: es).length < 29) (hline : (apos.endLine == pos.line) = true) :
    PE X (.Call (.Attribute o name apos) (a :: es) [] pos) (tBM X.K "list" (uMl G b) (UU G EX (RelW G) (evE C i)) (UU G EX (RelWs G) (evEs C is))) := by
  have ha := hs.pl
  simp only [plainAll, List.all_cons, Bool.and_eq_true] at ha
  exact pe_bm PySem.F.plainAttrs_list slot hty hm (ho X g) (hs.run X g) (plainB_is hb _ _ _) (few_ok hs.pl h29) hline (star_cons ha.1 _ _) (backTo_any ha.2 _ _)
theorem se_bmL {i : E} {is : Es} {b : Bm} {o : Expr} {a : Expr} {es : List Expr} {name : Str} {id : String} {apos pos : Pos} (slot : Slot "list" name id) (hty : typeOf (.builtin id) = pure (.type "method_descriptor")) (hm : ∀ X, MtR X id (uMl G b)) (h1 : b ≠ .pop1)
    (ho : SE G EX C Γ m o i) (hs : SEs' G EX C Γ m (a :: es) is) (hb : plainB o = true) (h29 : (a :: es).length < 29) (hline : (apos.endLine == pos.line) = true) : SE G EX C Γ m (.Call (.Attribute o name apos) (a :: es) [] pos) (.bm b i is) := fun X g =>
  weakE (bm_list slot hty g (hm X) ho hs hb h29 hline) fun σ H Q ⟨r, s, h, S, L, p⟩ => by
    simp only [evE] at p
    refine Post.bindU S L p fun r1 H1 h1' x y st0 S1 q1 p1 => ?_
    cases ek : kindW h1' x with
    | none => rw [ek] at p1; exact False.elim p1
    | some k =>
      rw [ek] at p1
      dsimp only at p1
      cases k with
      | false =>
        rw [if_neg (by simp [h1])] at p1
        exact False.elim p1
      | true =>
        rw [if_pos (by simp)] at p1
        refine ⟨by rw [g.K]; exact isL_ty S1 (kindW_t ek) q1, ?_⟩
        refine Post.bindU S1 (L.step st0) p1 fun r2 H2 h2 ws vs st2 S2 q2 p2 => ?_
        split at p2
        · rename_i e2
          exact ⟨r2, h2, x, ws, S2, kindW_t e2, q1.step st2, q2, p2.nx⟩
        · exact False.elim p2
theorem se_append {i : E} {is : Es} {o : Expr} {a : Expr} {es : List Expr} {apos pos : Pos} (ho : SE G EX C Γ m o i) (hs : SEs' G EX C Γ m (a :: es) is) (hb : plainB o = true) (h29 : (a :: es).length < 29) (hline : (apos.endLine == pos.line) = true) :
    SE G EX C Γ m (.Call (.Attribute o "append" apos) (a :: es) [] pos) (.bm .append1 i is) := se_bmL PySem.F.slot_list_append PySem.F.type_list_append (fun X => or_append) (by decide) ho hs hb h29 hline
theorem se_insert {i : E} {is : Es} {o : Expr} {a : Expr} {es : List Expr} {apos pos : Pos} (ho : SE G EX C Γ m o i) (hs : SEs' G EX C Γ m (a :: es) is) (hb : plainB o = true) (h29 : (a :: es).length < 29) (hline : (apos.endLine == pos.line) = true) :
    SE G EX C Γ m (.Call (.Attribute o "insert" apos) (a :: es) [] pos) (.bm .insert2 i is) := se_bmL PySem.F.slot_list_insert PySem.F.type_list_insert (fun X => or_insert) (by decide) ho hs hb h29 hline
theorem se_pop0 {i : E} {o : Expr} {apos pos : Pos} (ho : SE G EX C Γ m o i) (hb : plainB o = true) (hline : (apos.endLine == pos.line) = true) :
    SE G EX C Γ m (.Call (.Attribute o "pop" apos) [] [] pos) (.bm .pop0 i .nil) := fun X g =>
  weakE (pe_bm0 PySem.F.plainAttrs_list PySem.F.slot_list_pop PySem.F.type_list_pop (or_pop0 (X := X)) (ho X g) (plainB_is hb _ _ _) hline) fun σ H Q ⟨r, s, h, S, L, p⟩ => by
    simp only [evE] at p
    refine Post.bindU S L p fun r1 H1 h1' x y st0 S1 q1 p1 => ?_
    cases ek : kindW h1' x with
    | none => rw [ek] at p1; exact False.elim p1
    | some k =>
      rw [ek] at p1
      dsimp only at p1
      cases k with
      | false => exact False.elim p1
      | true =>
        rw [if_pos (by simp)] at p1
        refine ⟨by rw [g.K]; exact isL_ty S1 (kindW_t ek) q1, ?_⟩
        simp only [evEs, R.bind] at p1
        rw [if_pos ek] at p1
        exact ⟨r1, h1', x, [], S1, kindW_t ek, q1, .nil, p1.nx⟩
theorem se_pop1 {i : E} {is : Es} {o : Expr} {a : Expr} {es : List Expr} {apos pos : Pos} (ho : SE G EX C Γ m o i) (hs : SEs' G EX C Γ m (a :: es) is) (hb : plainB o = true) (h29 : (a :: es).length < 29) (hline : (apos.endLine == pos.line) = true) :
    SE G EX C Γ m (.Call (.Attribute o "pop" apos) (a :: es) [] pos) (.bm .pop1 i is) := fun X g => by
  refine pickE fun σ H Q ⟨r, s, h, S, L, p⟩ => ?_
  have ha := hs.pl
  simp only [plainAll, List.all_cons, Bool.and_eq_true] at ha
  have R1 := bm_list (b := .pop1) PySem.F.slot_list_pop PySem.F.type_list_pop g (or_pop1 (X := X)) ho hs hb h29 hline
  have R2 : PE X (.Call (.Attribute o "pop" apos) (a :: es) [] pos) (tBM X.K "dict" (uMd G .pop1) (UU G EX (RelW G) (evE C i)) (UU G EX (RelWs G) (evEs C is))) :=
    pe_bm PySem.F.plainAttrs_dict PySem.F.slot_dict_pop PySem.F.type_dict_pop (or_dpop (X := X)) (ho X g) (hs.run X g) (plainB_is hb _ _ _) (few_ok hs.pl h29) hline (star_cons ha.1 _ _) (backTo_any ha.2 _ _)
  simp only [evE] at p
  cases e : evE C i s h with
  | no => rw [e] at p; exact False.elim p
  | ex c fs h1 => rw [e] at p; exact ⟨_, R1, UU.ex S L e p⟩
  | ok x h1 =>
    rw [e] at p
    simp only [R.bind] at p
    cases ek : kindW h1 x with
    | none => rw [ek] at p; exact False.elim p
    | some k =>
      rw [ek] at p
      dsimp only at p
      rw [if_pos (by simp)] at p
      cases k with
      | true =>
        refine ⟨_, R1, UU.of S L e fun r1 H1 y st0 S1 q1 => ⟨by rw [g.K]; exact isL_ty S1 (kindW_t ek) q1, ?_⟩⟩
        refine Post.bindU S1 (L.step st0) (Post.step (x := (evEs C is s h1).bind _) p st0) fun r2 H2 h2 ws vs st2 S2 q2 p2 => ?_
        split at p2
        · rename_i e2
          exact ⟨r2, h2, x, ws, S2, kindW_t e2, q1.step st2, q2, p2.nx⟩
        · exact False.elim p2
      | false =>
        refine ⟨_, R2, UU.of S L e fun r1 H1 y st0 S1 q1 => ⟨by rw [g.K]; exact isD_ty S1 (kindW_f ek) q1, ?_⟩⟩
        refine Post.bindU S1 (L.step st0) (Post.step (x := (evEs C is s h1).bind _) p st0) fun r2 H2 h2 ws vs st2 S2 q2 p2 => ?_
        split at p2
        · rename_i e2
          exact ⟨r2, h2, x, ws, S2, kindW_f e2, q1.step st2, q2, p2.nx⟩
        · exact False.elim p2
/-! ### list(range(..)), tuple(range(..)) -/
theorem rngL_fin {tp : Bool} {r : Rho} {h : Hh} {H : Hp} {Q : VK} {a b : Int} (S : Sim G r h H)
    (p : Post G r H (RelW G) Q EX (if -(2 ^ 62) ≤ a ∧ a < 2 ^ 62 ∧ -(2 ^ 62) ≤ b ∧ b < 2 ^ 62 ∧ (b - a).toNat ≤ 2 ^ 24 then
      (if tp then .ok (.tup ((List.range (b - a).toNat).map fun i => W.int (a + (i : Nat)))) h else .ok (.ref h.n) (h.push (.lst ((List.range (b - a).toNat).map fun i => W.int (a + (i : Nat)))))) else .no : R W)) :
    RgOk a b ∧ ∀ q, H q = none → Q (.ref q) (upd H q (if tp then .tup (rgV a b) else .lst (rgV a b))) := by
  have rel : RelWs G r H ((List.range (b - a).toNat).map fun i => W.int (a + (i : Nat))) (rgV a b) := by
    unfold rgV
    generalize List.range (b - a).toNat = l
    induction l with
    | nil => exact .nil
    | cons i l ih => exact .cons (.int _) ih
  split at p
  · rename_i hc
    refine ⟨hc, fun q hq => ?_⟩
    cases tp with
    | true => exact Post.newT S rel p q hq
    | false => exact Post.newL S rel p q hq
  · exact False.elim p
end
end Mi

set_option Elab.async false
set_option linter.all false
set_option maxRecDepth 100000
set_option maxHeartbeats 4000000
/-! Ranges as lists, isinstance. -/
namespace Mi
open PySem PySem.Spec PyProof.Rows L2
/-- a global name -/
abbrev GL (Γ : Gm) (x : Str) : Prop := Γ.sc.names.lookup x = some .globalImplicit
section
variable {G : Gx} {EX : XK} {C : Cal} {Γ : Gm} {m l n : Nat} {X : Cx}
theorem boot_range' : bootBuiltins "range" = some (.type "range") := by decide +kernel
/-- a range's bounds -/
theorem rng1 {a : Expr} {i : E} {p pos : Pos} {tp : Bool} (ha : SE G EX C Γ m a i) (hn : notStar a = true) (g : Gd G Γ m X) (hg : GL Γ "range") (hm : G.mg "range" = none) :
    PRg X (.Call (.Name "range" p) [a] [] pos) (tRg1 (UU G EX (RelW G) (evE C i))) := prg_1 (g.gl hg) (by rw [g.mg]; exact hm) (ha X g) (star_cons hn _ _)
theorem rng2 {a b : Expr} {i j : E} {p pos : Pos} {tp : Bool} (ha : SE G EX C Γ m a i) (hb : SE G EX C Γ m b j) (hn : notStar a = true) (hn2 : notStar b = true) (g : Gd G Γ m X) (hg : GL Γ "range") (hm : G.mg "range" = none) :
    PRg X (.Call (.Name "range" p) [a, b] [] pos) (tRg2 (UU G EX (RelW G) (evE C i)) (UU G EX (RelW G) (evE C j))) := prg_2 (g.gl hg) (by rw [g.mg]; exact hm) (ha X g) (hb X g) (star_cons hn _ _) (star_cons hn2 _ _)
      (backTo_any (es := [b]) (by simp [plainAll, hn2]) _ _)
theorem rngL1 {tp : Bool} {i : E} {σ : St} {H : Hp} {Q : VK} {r : Rho} {s : Sl} {h : Hh} (S : Sim G r h H) (L : SlR G r H s σ) (p : Post G r H (RelW G) Q EX (evE C (.rngL tp (.cons i .nil)) s h)) :
    tRg1 (UU G EX (RelW G) (evE C i)) σ H fun a b H1 => RgOk a b ∧ ∀ q, H1 q = none → Q (.ref q) (upd H1 q (if tp then .tup (rgV a b) else .lst (rgV a b))) := by
  simp only [evE, evEs] at p
  have p0 : Post G r H (RelW G) Q EX ((evE C i s h).bind fun x h1 => (rngW tp [x] h1).nx) := by
    cases e : evE C i s h with
    | ok x h1 => rw [e] at p; exact p
    | ex c fs h1 => rw [e] at p; exact p
    | no => rw [e] at p; exact p
  refine Post.bindU S L p0 fun r1 H1 h1 x y st0 S1 q1 p1 => ?_
  have p2 := p1.nx (E' := EX)
  cases x <;> (try exact False.elim p2)
  cases q1
  exact ⟨_, rfl, rngL_fin S1 p2⟩
theorem rngL2 {tp : Bool} {i j : E} {σ : St} {H : Hp} {Q : VK} {r : Rho} {s : Sl} {h : Hh} (S : Sim G r h H) (L : SlR G r H s σ) (p : Post G r H (RelW G) Q EX (evE C (.rngL tp (.cons i (.cons j .nil))) s h)) :
    tRg2 (UU G EX (RelW G) (evE C i)) (UU G EX (RelW G) (evE C j)) σ H fun a b H1 => RgOk a b ∧ ∀ q, H1 q = none → Q (.ref q) (upd H1 q (if tp then .tup (rgV a b) else .lst (rgV a b))) := by
  simp only [evE, evEs] at p
  have p0 : Post G r H (RelW G) Q EX ((evE C i s h).bind fun x h1 => (evE C j s h1).bind fun y h2 => (rngW tp [x, y] h2).nx) := by
    cases e : evE C i s h with
    | ok x h1 =>
      rw [e] at p
      simp only [R.bind] at p ⊢
      cases e2 : evE C j s h1 with
      | ok y h2 => rw [e2] at p; exact p
      | ex c fs h2 => rw [e2] at p; exact p
      | no => rw [e2] at p; exact p
    | ex c fs h1 => rw [e] at p; exact p
    | no => rw [e] at p; exact p
  refine Post.bindU S L p0 fun r1 H1 h1 x y st0 S1 q1 p1 => ?_
  refine Post.bindU S1 (L.step st0) p1 fun r2 H2 h2 x2 y2 st2 S2 q2 p2 => ?_
  replace p2 := p2.nx (E' := EX)
  cases x <;> cases x2 <;> (try exact False.elim p2)
  cases q1; cases q2
  exact ⟨_, _, rfl, rfl, rngL_fin S2 p2⟩
theorem se_listR1 {a : Expr} {i : E} {p p2 pos pos2 : Pos} (ha : SE G EX C Γ m a i) (hn : notStar a = true) (hg : GL Γ "range") (hm : G.mg "range" = none) (hg2 : GL Γ "list") (hm2 : G.mg "list" = none) :
    SE G EX C Γ m (.Call (.Name "list" p) [.Call (.Name "range" p2) [a] [] pos2] [] pos) (.rngL false (.cons i .nil)) := fun X g =>
  weakE (pe_listRg g.calm (g.gl hg2) (by rw [g.mg]; exact hm2) (rng1 (tp := false) ha hn g hg hm)) fun σ H Q ⟨r, s, h, S, L, p⟩ => rngL1 (tp := false) S L p
theorem se_tupR1 {a : Expr} {i : E} {p p2 pos pos2 : Pos} (ha : SE G EX C Γ m a i) (hn : notStar a = true) (hg : GL Γ "range") (hm : G.mg "range" = none) (hg2 : GL Γ "tuple") (hm2 : G.mg "tuple" = none) :
    SE G EX C Γ m (.Call (.Name "tuple" p) [.Call (.Name "range" p2) [a] [] pos2] [] pos) (.rngL true (.cons i .nil)) := fun X g =>
  weakE (pe_tupRg g.calm (g.gl hg2) (by rw [g.mg]; exact hm2) (rng1 (tp := true) ha hn g hg hm)) fun σ H Q ⟨r, s, h, S, L, p⟩ => rngL1 (tp := true) S L p
theorem se_listR2 {a b : Expr} {i j : E} {p p2 pos pos2 : Pos} (ha : SE G EX C Γ m a i) (hb : SE G EX C Γ m b j) (hn : notStar a = true) (hn2 : notStar b = true) (hg : GL Γ "range") (hm : G.mg "range" = none) (hg2 : GL Γ "list") (hm2 : G.mg "list" = none) :
    SE G EX C Γ m (.Call (.Name "list" p) [.Call (.Name "range" p2) [a, b] [] pos2] [] pos) (.rngL false (.cons i (.cons j .nil))) := fun X g =>
  weakE (pe_listRg g.calm (g.gl hg2) (by rw [g.mg]; exact hm2) (rng2 (tp := false) ha hb hn hn2 g hg hm)) fun σ H Q ⟨r, s, h, S, L, p⟩ => rngL2 (tp := false) S L p
theorem se_tupR2 {a b : Expr} {i j : E} {p p2 pos pos2 : Pos} (ha : SE G EX C Γ m a i) (hb : SE G EX C Γ m b j) (hn : notStar a = true) (hn2 : notStar b = true) (hg : GL Γ "range") (hm : G.mg "range" = none) (hg2 : GL Γ "tuple") (hm2 : G.mg "tuple" = none) :
    SE G EX C Γ m (.Call (.Name "tuple" p) [.Call (.Name "range" p2) [a, b] [] pos2] [] pos) (.rngL true (.cons i (.cons j .nil))) := fun X g =>
  weakE (pe_tupRg g.calm (g.gl hg2) (by rw [g.mg]; exact hm2) (rng2 (tp := true) ha hb hn hn2 g hg hm)) fun σ H Q ⟨r, s, h, S, L, p⟩ => rngL2 (tp := true) S L p

/-! ### isinstance -/
def btS : Bt → String
  | .int => "int" | .bool => "bool" | .str => "str" | .list => "list" | .tuple => "tuple" | .dict => "dict"
def btN : Bt → Str
  | .int => "int" | .bool => "bool" | .str => "str" | .list => "list" | .tuple => "tuple" | .dict => "dict"
theorem bt_boot (b : Bt) : bootBuiltins (btN b) = some (.type (btS b)) := by cases b <;> decide +kernel
theorem bt_nm (b : Bt) : nmOk (btN b) = true := by cases b <;> decide +kernel
def tyVv (G : Gx) : Ty → V
  | .own k => .ref (G.ca k)
  | .bi b => .ty (btS b)
def tyVl (G : Gx) : Ty → Value
  | .own k => .ref (G.ca k)
  | .bi b => .type (btS b)
theorem ty_cls (t : Ty) : ClsV (tyVv G t) (tyVl G t) := by cases t <;> constructor
/-- what isinstance asks of the own classes -/
structure IsiF (G : Gx) (c : Nat) : Prop where
  cls : Cls G.K (G.ca c)
  ha : PySem.W.findIn G.K (.ref (G.ca c)) "__class__" = some (some (.builtin "object.__class__"))
  hn : PySem.W.specialIn G.K (.builtin "object.__class__") "__get__" = some (some (.builtin "getset_descriptor.__get__"))
  htk : PySem.W.takesIn G.K (.builtin "object.__class__") = some true
  hm : PySem.W.mroIn G.K (G.ca c) (.type "object") = some true
  self : PySem.W.kitOne G.K (.ref (G.ca c)) (.ref (G.ca c)) = some true
  bi : (["NoneType", "bool", "int", "str", "list", "tuple", "dict"].all fun x => PySem.W.kitOne G.K (.type x) (.ref (G.ca c)) == some false) = true
def tyStr : W → Hh → Option (Sum Nat String)
  | .non, _ => some (.inr "NoneType")
  | .bl _, _ => some (.inr "bool")
  | .int _, _ => some (.inr "int")
  | .str _, _ => some (.inr "str")
  | .tup _, _ => some (.inr "tuple")
  | .ref n, h => match h.get n with
    | some (.lst _) => some (.inr "list")
    | some (.frz _) => some (.inr "list")
    | some (.dic _) => some (.inr "dict")
    | some (.ins c _) => some (.inl c)
    | none => none
  | _, _ => none
def tyOfS (G : Gx) : Sum Nat String → Value
  | .inl c => .ref (G.ca c)
  | .inr x => .type x
theorem tyX_of {r : Rho} {h : Hh} {H : Hp} {w : W} {v : V} {t : Sum Nat String} (S : Sim G r h H) (q : RelW G r H w v) (e : tyStr w h = some t) (fc : ∀ c, t = .inl c → IsiF G c) : TyX G.K H v (tyOfS G t) := by
  cases q with
  | non => simp [tyStr] at e; subst e; exact .base .non
  | bl b => simp [tyStr] at e; subst e; exact .base (.bl b)
  | int b => simp [tyStr] at e; subst e; exact .base (.int b)
  | str b => simp [tyStr] at e; subst e; exact .base (.str b)
  | tup t ws =>
    simp [tyStr] at e; subst e
    rcases t with (t | ⟨o, t⟩) | ⟨o, its, k, t, tc, _⟩
    · exact .base (.tup t)
    · exact .fTuple t
    · exact .kTuple t tc
  | ref q =>
    simp only [tyStr] at e
    split at e
    · rename_i g; simp at e; subst e
      obtain ⟨vs, a, b⟩ := S.lst q g
      exact .base (.lst a)
    · rename_i g; simp at e; subst e
      obtain ⟨vs, a, b⟩ : OkO G r H _ (.frz _) := S.at q g
      rcases a with ⟨o, a⟩ | ⟨o, its, k, t, tc, _⟩
      · exact .base (.frz a)
      · exact .kList t tc
    · rename_i g; simp at e; subst e
      obtain ⟨vs, a, b⟩ := S.dic q g
      exact .base (.dK a)
    · rename_i c fs g; simp at e; subst e
      obtain ⟨dx, fv, a, b⟩ := S.ins q g
      have F := fc c rfl
      exact .base (.ins a F.cls F.ha F.hn F.htk F.hm)
    · cases e
  | fn k => simp [tyStr] at e
  | cl k => simp [tyStr] at e
theorem kitB_of (x : String) (b : Bt) (hx : x ∈ ["NoneType", "bool", "int", "str", "list", "tuple", "dict"]) : kitB x (btS b) = some (x == btS b || (x == "bool" && btS b == "int")) := by
  simp only [List.mem_cons, List.mem_nil_iff, or_false] at hx
  rcases hx with rfl | rfl | rfl | rfl | rfl | rfl | rfl <;> cases b <;> decide +kernel
theorem tyName_str (w : W) (h : Hh) : tyName h w = (tyStr w h).map fun t => match t with
    | .inl c => .inl c
    | .inr x => .inr (if x = "NoneType" then [] else if x = "bool" then [.bool, .int] else if x = "int" then [.int] else if x = "str" then [.str] else if x = "tuple" then [.tuple] else if x = "list" then [.list] else [.dict]) := by
  cases w with
  | ref n =>
    simp only [tyName, tyStr]
    cases h.get n with
    | none => rfl
    | some o => cases o <;> rfl
  | _ => rfl
theorem isOne_kit {w : W} {h : Hh} {t : Ty} {b : Bool} {x : Sum Nat String} (ex : tyStr w h = some x) (e : isOne h w t = some b) (fc : ∀ c, t = .own c → IsiF G c) : PySem.W.kitOne G.K (tyOfS G x) (tyVl G t) = some b := by
  unfold isOne at e
  rw [tyName_str, ex] at e
  cases x with
  | inl c =>
    cases t with
    | own d =>
      simp only [Option.map] at e
      split at e
      · rename_i ed; subst ed; cases e
        exact (fc c rfl).self
      · cases e
    | bi k => simp [Option.map] at e
  | inr y =>
    have hy : y ∈ ["NoneType", "bool", "int", "str", "list", "tuple", "dict"] := by
      cases w <;> simp only [tyStr] at ex <;> (try (cases ex; simp; done))
      split at ex <;> (try (cases ex; simp; done))
      all_goals cases ex
    cases t with
    | own d =>
      simp only [Option.map, Option.some.injEq] at e; subst e
      have F := (fc d rfl).bi
      rw [List.all_eq_true] at F
      exact beq_iff_eq.mp (F y hy)
    | bi k =>
      simp only [Option.map, Option.some.injEq] at e; subst e
      refine kit_ty ((kitB_of y k hy).trans ?_)
      simp only [List.mem_cons, List.mem_nil_iff, or_false] at hy
      rcases hy with rfl | rfl | rfl | rfl | rfl | rfl | rfl <;> cases k <;> decide
theorem isOne_ty {w : W} {h : Hh} {t : Ty} {b : Bool} (e : isOne h w t = some b) : ∃ x, tyStr w h = some x := by
  unfold isOne at e
  rw [tyName_str] at e
  cases ex : tyStr w h with
  | none => rw [ex] at e; cases t <;> simp at e
  | some x => exact ⟨x, rfl⟩
theorem isi_any {w : W} {h : Hh} {x : Sum Nat String} (ex : tyStr w h = some x) : ∀ {ts : List Ty} {b : Bool}, isiW h w ts = some b → (∀ c, Ty.own c ∈ ts → IsiF G c) → PySem.W.kitAny G.K (tyOfS G x) (ts.map (tyVl G)) = some b
  | [], b, e, _ => by simp [isiW] at e; subst e; exact kitAny_nil
  | t :: ts, b, e, fc => by
    simp only [isiW] at e
    split at e
    · rename_i e1; cases e
      exact kitAny_cons (isOne_kit ex e1 fun c ec => fc c (by simp [ec])) (fun z => by cases z) (fun _ => rfl)
    · rename_i e1
      exact kitAny_cons (isOne_kit ex e1 fun c ec => fc c (by simp [ec])) (fun _ => isi_any ex e fun c hc => fc c (List.mem_cons_of_mem _ hc)) (fun z => by cases z)
    · cases e
theorem isi_own {w : W} {h : Hh} {c : Nat} (ex : tyStr w h = some (.inl c)) {ts : List Ty} {b : Bool} (e : isiW h w ts = some b) (hne : ts ≠ []) : Ty.own c ∈ ts := by
  cases ts with
  | nil => exact absurd rfl hne
  | cons t ts =>
    have hn : tyName h w = some (.inl c) := by rw [tyName_str, ex]; rfl
    simp only [isiW, isOne, hn] at e
    cases t with
    | own d =>
      dsimp only at e
      by_cases hd : c = d
      · subst hd; simp
      · rw [if_neg hd] at e; cases e
    | bi k => cases e
/-- a class that is written -/
def STy (G : Gx) (Γ : Gm) (m : Nat) (a : Expr) (t : Ty) : Prop := notStar a = true ∧ ∀ X, Gd G Γ m X → PE X a (tC (tyVv G t))
theorem sy_own {x : Str} {k : Nat} {p : Pos} (hg : GL Γ x) (hn : nmOk x = true) (hm : G.mg x = some (.ref (G.ca k))) : STy G Γ m (.Name x p) (.own k) :=
  ⟨rfl, fun X g => pe_glob (g.gl hg) (by rw [g.mg]; exact hm) rfl (nmOk.d hn).1⟩
theorem sy_bi {b : Bt} {p : Pos} (hg : GL Γ (btN b)) (hm : G.mg (btN b) = none) : STy G Γ m (.Name (btN b) p) (.bi b) :=
  ⟨rfl, fun X g => pe_bltn (g.gl hg) (by rw [g.mg]; exact hm) (bt_boot b) rfl (nmOk.d (bt_nm b)).2.2 (nmOk.d (bt_nm b)).1⟩
theorem isi_fin {i : E} {tp : Bool} {ts : List Ty} {r : Rho} {s : Sl} {h : Hh} {σ : St} {H : Hp} {Q : VK} (S : Sim G r h H) (L : SlR G r H s σ) (p : Post G r H (RelW G) Q EX (evE C (.isi i tp ts) s h)) :
    UU G EX (RelW G) (evE C i) σ H fun v H1 => ∃ r1 h1 w b, Sim G r1 h1 H1 ∧ RelW G r1 H1 w v ∧ isiW h1 w ts = some b ∧ Q (.bl b) H1 := by
  simp only [evE] at p
  refine Post.bindU S L p fun r1 H1 h1 x y st0 S1 q1 p1 => ?_
  cases e : isiW h1 x ts with
  | none => rw [e] at p1; exact False.elim p1
  | some b => rw [e] at p1; exact ⟨r1, h1, x, b, S1, q1, e, Post.ok (h := h1) p1 S1 (.bl b)⟩
theorem se_isi1 {a c : Expr} {i : E} {t : Ty} {p pos : Pos} (ha : SE G EX C Γ m a i) (hn : notStar a = true) (hc : STy G Γ m c t) (fi : ∀ c, Ty.own c ∈ [t] → IsiF G c) (hg : GL Γ "isinstance") (hm : G.mg "isinstance" = none) :
    SE G EX C Γ m (.Call (.Name "isinstance" p) [a, c] [] pos) (.isi i false [t]) := fun X g =>
  weakE (pe_callB (call_isi (X := X)) (g.gl hg) (by rw [g.mg]; exact hm) boot_isinstance (pa_cons (ha X g) (pa_cons (hc.2 X g) pa_nil (star_cons hc.1 _ _)) (star_cons hn _ _)) (by decide) (by decide) (star_cons hn _ _) (backTo_any (es := [c]) (by simp [plainAll, hc.1]) _ _)) fun σ H Q ⟨r, s, h, S, L, p⟩ => by
    obtain ⟨r', s', h', S', L', p'⟩ := isi_fin (C := C) S L p
    refine ⟨r', s', h', S', L', ?_⟩
    cases e : evE C i s' h' with
    | no => rw [e] at p'; exact p'
    | ex c fs h1 => rw [e] at p'; exact p'
    | ok w h1 =>
      rw [e] at p'
      intro r1 H1 v st S1 q1
      obtain ⟨r2, h2, w2, b, S2, q2, e2, q⟩ := p' r1 H1 v st S1 q1
      have e3 : isOne h2 w2 t = some b := by
        simp only [isiW] at e2
        split at e2
        · rename_i z; cases e2; exact z
        · rename_i z; cases e2; exact z
        · cases e2
      obtain ⟨x, ex⟩ := isOne_ty e3
      refine ⟨v, tyVv G t, tyOfS G x, tyVl G t, b, rfl, ty_cls t, ?_, ?_, q⟩
      · rw [g.K]; exact tyX_of S2 q2 ex fun c ec => fi c (isi_own (ec ▸ ex) e2 (by simp))
      · rw [g.K]; exact isOne_kit ex e3 fun c ec => fi c (by simp [ec])
/-- a tuple of classes -/
inductive STys (G : Gx) (Γ : Gm) (m : Nat) : List Expr → List Ty → Prop
  | nil : STys G Γ m [] []
  | cons {a : Expr} {t : Ty} {es : List Expr} {ts : List Ty} : STy G Γ m a t → STys G Γ m es ts → STys G Γ m (a :: es) (t :: ts)
def tTys (G : Gx) (ts : List Ty) : TA := fun _ H Q => Q (ts.map (tyVv G)) H
theorem STys.run (g : Gd G Γ m X) : ∀ {es : List Expr} {ts : List Ty}, STys G Γ m es ts → PA X es (tTys G ts)
  | _, _, .nil => pa_nil
  | _, _, .cons h t => weakA (pa_cons (h.2 X g) (STys.run g t) (star_cons h.1 _ _)) fun σ H Q q => q
theorem se_isiT {a : Expr} {es : List Expr} {i : E} {ts : List Ty} {k : Nat} {p p2 pos : Pos} (ha : SE G EX C Γ m a i) (hn : notStar a = true) (hc : STys G Γ m es ts) (hne : ts ≠ []) (hz : ts.length ≤ 64) (fi : ∀ c, Ty.own c ∈ ts → IsiF G c) (hg : GL Γ "isinstance") (hm : G.mg "isinstance" = none) :
    SE G EX C Γ m (.Call (.Name "isinstance" p) [a, .Tuple es k p2] [] pos) (.isi i true ts) := fun X g =>
  weakE (pe_callB (call_isiT (X := X)) (g.gl hg) (by rw [g.mg]; exact hm) boot_isinstance (pa_cons (ha X g) (pa_cons (pe_tup (STys.run g hc)) pa_nil rfl) (star_cons hn _ _)) (by decide) (by decide) (star_cons hn _ _) rfl) fun σ H Q ⟨r, s, h, S, L, p⟩ => by
    obtain ⟨r', s', h', S', L', p'⟩ := isi_fin (C := C) S L p
    refine ⟨r', s', h', S', L', ?_⟩
    cases e : evE C i s' h' with
    | no => rw [e] at p'; exact p'
    | ex c fs h1 => rw [e] at p'; exact p'
    | ok w h1 =>
      rw [e] at p'
      intro r1 H1 v st S1 q1
      have hl : (ts.map (tyVv G)).length ≤ sizeLine := by rw [List.length_map, sizeLine_eq]; omega
      refine ⟨hl, fun tp htp => ?_⟩
      obtain ⟨r2, h2, w2, b, S2, q2, e2, q⟩ := p' r1 _ v (st.trans (Step.fresh htp)) (S1.fresh (ho := .tup (ts.map (tyVv G))) htp) (q1.step (Step.fresh htp))
      obtain ⟨x, ex⟩ : ∃ x, tyStr w2 h2 = some x := by
        cases ts with
        | nil => exact absurd rfl hne
        | cons t ts =>
          simp only [isiW] at e2
          split at e2
          · rename_i z; exact isOne_ty z
          · rename_i z; exact isOne_ty z
          · cases e2
      refine ⟨v, tp, ts.map (tyVv G), tyOfS G x, ts.map (tyVl G), b, rfl, upd_same, ?_, ?_, ?_, q⟩
      · generalize ts = ts
        induction ts with
        | nil => exact .nil
        | cons t ts ih => exact .cons (ty_cls t) ih
      · rw [g.K]; exact tyX_of S2 q2 ex fun c ec => fi c (isi_own (ec ▸ ex) e2 hne)
      · rw [g.K]; exact isi_any ex e2 fi
end
end Mi

set_option Elab.async false
set_option linter.all false
set_option maxRecDepth 100000
set_option maxHeartbeats 4000000
/-! Targets; what is walked; comprehensions. -/
namespace Mi
open PySem PySem.Spec PyProof.Rows L2

/-! ### targets -/
mutual
def tgIx : Tg → List Nat
  | .name i => [i]
  | .tup ts => tgsIx ts
  | _ => []
def tgsIx : Tgs → List Nat
  | .nil => []
  | .cons t ts => tgIx t ++ tgsIx ts
end
theorem wipe_set {σ : St} {i : Nat} {x : Option V} : ∀ {vs : List Nat}, i ∈ vs → wipe (σ.set i x) vs = wipe σ vs
  | [], h => by cases h
  | v :: vs, h => by
    unfold wipe
    by_cases c : i ∈ vs
    · rw [wipe_set c]
    · have e : i = v := by
        rcases List.mem_cons.mp h with e | e
        · exact e
        · exact absurd e c
      subst e
      have : ∀ {ws : List Nat}, i ∉ ws → wipe (σ.set i x) ws = (wipe σ ws).set i x := by
        intro ws
        induction ws with
        | nil => intro _; rfl
        | cons w ws ih =>
          intro hn
          simp only [List.mem_cons, not_or] at hn
          unfold wipe
          rw [ih hn.2, List.set_comm _ _ (Ne.symm hn.1 |> fun z => z.symm)]
      rw [this c, List.set_set]
theorem wipe_wipe (σ : St) : ∀ vs : List Nat, wipe (wipe σ vs) vs = wipe σ vs := by
  have h : ∀ (ws vs : List Nat), (∀ i ∈ ws, i ∈ vs) → wipe (wipe σ ws) vs = wipe σ vs := by
    intro ws
    induction ws with
    | nil => intro vs _; rfl
    | cons w ws ih =>
      intro vs hs
      show wipe ((wipe σ ws).set w none) vs = _
      rw [wipe_set (hs w (by simp)), ih vs fun i hi => hs i (List.mem_cons_of_mem _ hi)]
  exact fun vs => h vs vs fun _ hi => hi
/-- slots behind a store: those of the target alone -/
def relSl (G : Gx) (σ : St) (ix : List Nat) : Rho → Hp → Sl → St → Prop := fun r H s' σ' => SlR G r H s' σ' ∧ ∀ vs : List Nat, (∀ i ∈ ix, i ∈ vs) → wipe σ' vs = wipe σ vs
def UG (G : Gx) (EX : XK) (C : Cal) (t : Tg) : TG := fun v σ H Q => ∃ r s h w, Sim G r h H ∧ SlR G r H s σ ∧ RelW G r H w v ∧ Post G r H (relSl G σ (tgIx t)) (fun σ' H' => Q σ' H') EX (evG C t w s h)
def UGs (G : Gx) (EX : XK) (C : Cal) (ts : Tgs) : TGs := fun vs σ H Q => ∃ r s h ws, Sim G r h H ∧ SlR G r H s σ ∧ RelWs G r H ws vs ∧ Post G r H (relSl G σ (tgsIx ts)) (fun σ' H' => Q σ' H') EX (evGs C ts ws s h)
theorem weakG {X : Cx} {e : Expr} {t t' : TG} (h : PG X e t) (w : ∀ v σ H Q, t' v σ H Q → t v σ H Q) : PG X e t' := ⟨fun pins s σ H v u Q I r q => h.run pins s σ H v u Q I r (w _ _ _ _ q)⟩
theorem weakGs {X : Cx} {e : List Expr} {t t' : TGs} (h : PGs X e t) (w : ∀ v σ H Q, t' v σ H Q → t v σ H Q) : PGs X e t' := ⟨fun pins s σ H v u Q I r q => h.run pins s σ H v u Q I r (w _ _ _ _ q)⟩
def SG (G : Gx) (EX : XK) (C : Cal) (Γ : Gm) (m : Nat) (e : Expr) (t : Tg) : Prop := notStar e = true ∧ ∀ X, Gd G Γ m X → PG X e (UG G EX C t)
structure SGs (G : Gx) (EX : XK) (C : Cal) (Γ : Gm) (m : Nat) (e : List Expr) (t : Tgs) : Prop where
  pl : plainAll e = true
  len : tgsL t = e.length
  run : ∀ X, Gd G Γ m X → PGs X e (UGs G EX C t)
section
variable {G : Gx} {EX : XK} {C : Cal} {Γ : Gm} {m l n : Nat} {X : Cx}
theorem sg_name {x : Str} {i : Nat} {p : Pos} (hi : Γ.N[i]? = some x) (hl : locB Γ x = true) : SG G EX C Γ m (.Name x p) (.name i) := ⟨rfl, fun X g =>
  weakG (pg_name (by rw [g.N]; exact g.nd) (by rw [g.N]; exact hi) (g.loc hl).1 (g.loc hl).2) fun v σ H Q ⟨r, s, h, w, S, L, q, p⟩ => by
    simp only [evG] at p
    exact Post.ok (h := h) (b := σ.set i (some v)) p S ⟨L.set q, fun vs hv => wipe_set (hv i (by simp [tgIx]))⟩⟩
theorem sgs_nil : SGs G EX C Γ m [] .nil := ⟨rfl, rfl, fun X g =>
  weakGs pgs_nil fun vs σ H Q ⟨r, s, h, ws, S, L, q, p⟩ => by
    cases q with
    | nil =>
      simp only [evGs] at p
      exact ⟨rfl, Post.ok (h := h) (b := σ) p S ⟨L, fun _ _ => rfl⟩⟩
    | cons a b => simp only [evGs] at p; exact False.elim p⟩
theorem sgs_cons {a : Expr} {es : List Expr} {t : Tg} {ts : Tgs} (ha : SG G EX C Γ m a t) (hs : SGs G EX C Γ m es ts) : SGs G EX C Γ m (a :: es) (.cons t ts) :=
  ⟨by simp only [plainAll, List.all_cons, Bool.and_eq_true]; exact ⟨ha.1, hs.pl⟩, by simp [tgsL, hs.len], fun X g =>
  weakGs (pgs_cons (ha.2 X g) (hs.run X g) (by rw [assign_cons ha.1]; rfl)) fun vs σ H Q ⟨r, s, h, ws, S, L, q, p⟩ => by
    cases q with
    | nil => simp only [evGs] at p; exact False.elim p
    | @cons w v ws vs q1 qs =>
      simp only [evGs] at p
      refine ⟨v, vs, rfl, r, s, h, w, S, L, q1, Post.of_bind p fun r1 H1 h1 s1 σ1 st S1 q2 p1 => ?_⟩
      refine ⟨r1, s1, h1, ws, S1, q2.1, qs.step st, ?_⟩
      cases e1 : evGs C ts ws s1 h1 with
      | no => rw [e1] at p1; exact p1
      | ex c fs h2 => rw [e1] at p1; exact p1
      | ok s2 h2 =>
        rw [e1] at p1
        intro r2 H2 σ2 st2 S2 q3
        exact p1 r2 H2 σ2 st2 S2 ⟨q3.1, fun vs hv => (q3.2 vs fun i hi => hv i (by simp [tgsIx, hi])).trans (q2.2 vs fun i hi => hv i (by simp [tgsIx, hi]))⟩⟩
theorem assign_all : ∀ {es : List Expr} (h : plainAll es = true) (env : Env), (assignEach es env).length = es.length ∧ (assignEach es env).findIdx? (·.1) = none
  | [], _, _ => ⟨rfl, rfl⟩
  | a :: es, h, env => by
    simp only [plainAll, List.all_cons, Bool.and_eq_true] at h
    rw [assign_cons h.1]
    obtain ⟨a1, a2⟩ := assign_all (es := es) h.2 env
    exact ⟨by simp [a1], by simp [List.findIdx?_cons, a2]⟩
theorem sg_tup {es : List Expr} {ts : Tgs} {k : Nat} {p : Pos} (hs : SGs G EX C Γ m es ts) : SG G EX C Γ m (.Tuple es k p) (.tup ts) := ⟨rfl, fun X g =>
  weakG (pg_tup g.calm (hs.run X g) (assign_all hs.pl _).1 (assign_all hs.pl _).2) fun v σ H Q ⟨r, s, h, w, S, L, q, p⟩ => by
    cases q with
    | tup t ws =>
      simp only [evG] at p
      split at p
      · rename_i hl
        exact ⟨_, _, rfl, g.K ▸ t, by rw [← ws.length, hl, hs.len], r, s, h, _, S, L, ws, p⟩
      · exact False.elim p
    | _ => simp only [evG] at p; exact False.elim p⟩
/-! ### o[i] = v -/
def uSet (G : Gx) : TSet := fun o i v H Q => ∃ r h a b c, Sim G r h H ∧ RelW G r H a o ∧ RelW G r H b i ∧ RelW G r H c v ∧ ∃ h', setIx a b c h = some h' ∧ ∀ r' H', Step G r H r' H' → Sim G r' h' H' → Q H'
theorem or_set (hu : X.A.units + 64 < cLine) : PSet X (uSet G) := by
  intro pins s σ H o i v ov iv u Q I ro ri rv ⟨r, h, a, b, c, S, q1, q2, q3, h', e, q⟩
  cases q1 <;> (try (simp [setIx] at e; done))
  rename_i nn pa e2
  simp only [setIx] at e
  split at e
  · rename_i ws g
    obtain ⟨vs, a1, b1⟩ := S.lst e2 g
    split at e
    · rename_i k
      cases q2
      split at e
      · rename_i j ej
        cases e
        rw [b1.length] at ej
        refine set_list pins s σ H _ _ _ ov iv u Q I ro ri rv ⟨pa, vs, k, j, rfl, rfl, a1, ej, ?_⟩
        obtain ⟨S', st⟩ := S.put (o := .lst (ws.set j c)) (ho := .lst (vs.set j v)) e2 g rfl rfl fun st => ⟨_, upd_same, (b1.set j q3).step st⟩
        exact q _ _ st S'
      · cases e
    · cases e
  · rename_i kvs g
    obtain ⟨vs, a1, b1⟩ := S.dic e2 g
    split at e
    · rename_i k ek
      have ev := keyW_rel ek q2
      subst ev
      split at e
      · rename_i hl
        cases e
        rw [b1.length] at hl
        obtain ⟨S', st⟩ := S.put (o := .dic (putKW kvs k c)) (ho := .dK (putK vs k v)) e2 g rfl rfl fun st => ⟨_, upd_same, (b1.put k q3).step st⟩
        cases ro
        exact d_setItem (by omega) I (DPut.k a1 hl) ri rv fun s' I' => ⟨_, I', q _ _ st S'⟩
      · cases e
    · cases e
  · cases e
theorem sub_assign {o i : Expr} {pos : Pos} {env : Env} (hn : notSlice i = true) (v : Value) : assign (.Subscript o i pos) env v = (do
    let ov ← holding [v] (eval o env)
    let iv ← holding [v, ov] (eval i env)
    standAt pos
    holding [v, ov, iv] (setItem ov iv v)
    release [v, ov, iv] []) := by
  cases i <;> first | rfl | cases hn
theorem sg_sub {o i : Expr} {io ii : E} {p : Pos} (ho : SE G EX C Γ m o io) (hi : SE G EX C Γ m i ii) (hn : notSlice i = true) : SG G EX C Γ m (.Subscript o i p) (.sub io ii) := ⟨rfl, fun X g =>
  weakG (pg_sub (ho X g) (hi X g) (or_set (G := G) g.units) (sub_assign hn)) fun v σ H Q ⟨r, s, h, w, S, L, q, p⟩ => by
    simp only [evG] at p
    refine Post.bindU S L p fun r1 H1 h1 x y st0 S1 q1 p1 => ?_
    refine Post.bindU S1 (L.step st0) p1 fun r2 H2 h2 x2 y2 st2 S2 q2 p2 => ?_
    refine ⟨r2, h2, x, x2, w, S2, q1.step st2, q2, (q.step st0).step st2, ?_⟩
    cases e : setIx x x2 w h2 with
    | none => rw [e] at p2; exact False.elim p2
    | some h3 =>
      rw [e] at p2
      exact ⟨h3, rfl, fun r3 H3 st3 S3 => p2 r3 H3 σ st3 S3 ⟨((L.step st0).step st2).step st3, fun _ _ => rfl⟩⟩⟩
end
end Mi

set_option Elab.async false
set_option linter.all false
set_option maxRecDepth 100000
set_option maxHeartbeats 4000000
/-! What is walked; comprehensions. -/
namespace Mi
open PySem PySem.Spec PyProof.Rows L2

/-- what is walked, here and there -/
inductive RelJ (G : Gx) (r : Rho) (H : Hp) : J → L2.It → Prop
  | lst {n : Nat} {a : Addr} : r[n]? = some a → RelJ G r H (.seq (.ref n)) (Itl G.K a)
  | tup {ws : List W} {vs : List V} {a : Addr} : SqT G.K H a vs → RelWs G r H ws vs → RelJ G r H (.seq (.tup ws)) (Itt G.K a)
  | rng (lo : Int) (n : Nat) : RelJ G r H (.rng lo n) (Itr lo n)
  | enm {n : Nat} {a : Addr} : r[n]? = some a → RelJ G r H (.enm n) (Ite G.K a)
  | zip {n k : Nat} {a b : Addr} : r[n]? = some a → r[k]? = some b → RelJ G r H (.zip n k) (Itz G.K a b)
theorem RelJ.step {G : Gx} {r r' : Rho} {H H' : Hp} {j : J} {t : L2.It} (s : Step G r H r' H') (q : RelJ G r H j t) : RelJ G r' H' j t := by
  cases q with
  | lst e => exact .lst (s.get e)
  | tup t ws => exact .tup (s.tup _ _ t) (ws.step s)
  | rng lo n => exact .rng lo n
  | enm e => exact .enm (s.get e)
  | zip e e2 => exact .zip (s.get e) (s.get e2)
section
variable {G : Gx} {r : Rho} {H : Hp} {h : Hh}
theorem seqAt_ref {n : Nat} {ws : List W} (e : seqAt h (.ref n) = some ws) : lstAt h n = some ws := by
  simp only [seqAt] at e
  simp only [lstAt]
  exact e
/-- it stops -/
theorem RelJ.stop {j : J} {t : L2.It} {i : Nat} (q : RelJ G r H j t) (S : Sim G r h H) (e : j.next i h = some none) : t.stop i H := by
  cases q with
  | lst e2 =>
    simp only [J.next, Option.map_eq_some_iff] at e
    obtain ⟨ws, e1, e3⟩ := e
    obtain ⟨vs, a, b⟩ := S.lstL e2 (seqAt_ref e1)
    exact ⟨vs, a, by rw [← b.length]; exact List.getElem?_eq_none_iff.mp e3⟩
  | tup t ws =>
    simp only [J.next, seqAt, Option.map_some, Option.some.injEq] at e
    exact ⟨_, t, by rw [← ws.length]; exact List.getElem?_eq_none_iff.mp e⟩
  | rng lo n =>
    simp only [J.next, Option.some.injEq] at e
    split at e
    · cases e
    · rename_i c; exact Nat.le_of_not_lt c
  | enm e2 =>
    simp only [J.next, Option.map_eq_some_iff] at e
    obtain ⟨ws, e1, e3⟩ := e
    obtain ⟨vs, a, b⟩ := S.lstL e2 e1
    have e4 : ws[i]? = none := by
      cases z : ws[i]? with
      | none => rfl
      | some w => rw [z] at e3; cases e3
    exact ⟨vs, a, by rw [← b.length]; exact List.getElem?_eq_none_iff.mp e4⟩
  | zip e2 e3 =>
    simp only [J.next] at e
    split at e
    · rename_i xs ys g1 g2
      obtain ⟨vs, a, b⟩ := S.lstL e2 g1
      obtain ⟨us, a', b'⟩ := S.lstL e3 g2
      refine ⟨vs, us, a, a', ?_⟩
      rw [← b.length, ← b'.length]
      split at e
      · cases e
      · rename_i hno
        by_cases c : xs.length ≤ i
        · exact .inl c
        · by_cases c2 : ys.length ≤ i
          · exact .inr c2
          · exact absurd (List.getElem?_eq_getElem (Nat.lt_of_not_le c2)) (hno _ _ (List.getElem?_eq_getElem (Nat.lt_of_not_le c)))
    · cases e
/-- it goes on: what it yields -/
theorem RelJ.go {j : J} {t : L2.It} {i : Nat} {w : W} (q : RelJ G r H j t) (S : Sim G r h H) (e : j.next i h = some (some w)) :
    t.go i H ∧ ∀ x H', t.yld i H x H' → Step G r H r H' ∧ Sim G r h H' ∧ RelW G r H' w x := by
  cases q with
  | lst e2 =>
    simp only [J.next, Option.map_eq_some_iff] at e
    obtain ⟨ws, e1, e3⟩ := e
    obtain ⟨vs, a, b⟩ := S.lstL e2 (seqAt_ref e1)
    obtain ⟨v, ev, rv⟩ := b.get e3
    refine ⟨⟨vs, v, a, ev⟩, fun x H' y => ?_⟩
    obtain ⟨rfl, y⟩ := y
    have := y vs a
    rw [ev] at this; cases this
    exact ⟨Step.refl, S, rv⟩
  | tup t ws =>
    simp only [J.next, seqAt, Option.map_some, Option.some.injEq] at e
    obtain ⟨v, ev, rv⟩ := ws.get e
    refine ⟨⟨_, v, t, ev⟩, fun x H' y => ?_⟩
    obtain ⟨rfl, y⟩ := y
    have := y _ t
    rw [ev] at this; cases this
    exact ⟨Step.refl, S, rv⟩
  | rng lo n =>
    simp only [J.next, Option.some.injEq] at e
    split at e
    · rename_i c
      cases e
      refine ⟨c, fun x H' y => ?_⟩
      obtain ⟨rfl, rfl⟩ := y
      exact ⟨Step.refl, S, .int _⟩
    · cases e
  | enm e2 =>
    simp only [J.next, Option.map_eq_some_iff] at e
    obtain ⟨ws, e1, e3⟩ := e
    obtain ⟨vs, a, b⟩ := S.lstL e2 e1
    obtain ⟨u, e4, e5⟩ : ∃ u, ws[i]? = some u ∧ w = .tup [.int (i : Nat), u] := by
      cases z : ws[i]? with
      | none => rw [z] at e3; simp at e3
      | some u => rw [z] at e3; simp at e3; exact ⟨u, rfl, e3.symm⟩
    subst e5
    obtain ⟨v, ev, rv⟩ := b.get e4
    refine ⟨⟨vs, v, a, ev⟩, fun x H' y => ?_⟩
    obtain ⟨T, v', rfl, hT, rfl, y⟩ := y
    have := y vs a
    rw [ev] at this; cases this
    exact ⟨Step.fresh hT, S.fresh hT, .tup (SqT.of upd_same) (.cons (.int _) (.cons (rv.step (Step.fresh hT)) .nil))⟩
  | zip e2 e3 =>
    simp only [J.next] at e
    split at e
    · rename_i xs ys g1 g2
      obtain ⟨vs, a, b⟩ := S.lstL e2 g1
      obtain ⟨us, a', b'⟩ := S.lstL e3 g2
      split at e
      · rename_i x y ex ey
        cases e
        obtain ⟨v, ev, rv⟩ := b.get ex
        obtain ⟨u, eu, ru⟩ := b'.get ey
        refine ⟨⟨vs, us, v, u, a, a', ev, eu⟩, fun z H' y => ?_⟩
        obtain ⟨T, v', u', rfl, hT, rfl, y1, y2⟩ := y
        have h1 := y1 vs a
        rw [ev] at h1; cases h1
        have h2 := y2 us a'
        rw [eu] at h2; cases h2
        exact ⟨Step.fresh hT, S.fresh hT, .tup (SqT.of upd_same) (.cons (rv.step (Step.fresh hT)) (.cons (ru.step (Step.fresh hT)) .nil))⟩
      · cases e
    · cases e
end

section
variable {G : Gx} {EX : XK} {C : Cal} {Γ : Gm} {m l n : Nat} {X : Cx}
def UI (G : Gx) (EX : XK) (C : Cal) (i : It) : TI := fun σ H R => UU G EX (RelJ G) (evI C i) σ H R
theorem weakI {X : Cx} {tg e : Expr} {t t' : TI} (h : PI X tg e t) (w : ∀ σ H Q, t' σ H Q → t σ H Q) : PI X tg e t' := ⟨fun pins s σ H Q I q => h.run pins s σ H Q I (w _ _ _ q)⟩
def folded (e : Expr) : Prop := ∀ (env : Env) (x : Value), foldedSetIterable e env x = pure x
theorem notSet_folded {e : Expr} (h : notSet e = true) : folded e := by
  intro env x
  cases e <;> first | rfl | cases h
structure SI (G : Gx) (EX : XK) (C : Cal) (Γ : Gm) (m : Nat) (tg e : Expr) (i : It) : Prop where
  fo : folded e
  run : ∀ X, Gd G Γ m X → PI X tg e (UI G EX C i)
theorem pickI {X : Cx} {tg e : Expr} {t' : TI} (h : ∀ σ H Q, t' σ H Q → ∃ t, PI X tg e t ∧ t σ H Q) : PI X tg e t' := ⟨fun pins s σ H Q I q => let ⟨_, a, b⟩ := h _ _ _ q; a.run pins s σ H Q I b⟩
theorem si_seq {tg e : Expr} {i : E} (ha : SE G EX C Γ m e i) (hn : notSet e = true) : SI G EX C Γ m tg e (.seq i) := ⟨notSet_folded hn, fun X g => by
  refine pickI fun σ H Q ⟨r, s, h, S, L, p⟩ => ?_
  simp only [evI] at p
  cases e : evE C i s h with
  | no => rw [e] at p; exact False.elim p
  | ex c fs h1 => rw [e] at p; exact ⟨_, pi_list (ha X g), UU.ex S L e p⟩
  | ok x h1 =>
    rw [e] at p
    simp only [R.bind] at p
    cases x with
    | tup ws =>
      refine ⟨_, pi_tup (ha X g), UU.of S L e fun r1 H1 y st S1 q1 => ?_⟩
      cases q1 with
      | tup t rs =>
        exact ⟨_, rfl, ⟨_, g.K ▸ t⟩, g.K ▸ p r1 H1 _ st S1 (.tup t rs)⟩
    | ref n =>
      cases e2 : seqAt h1 (.ref n) with
      | none => rw [e2] at p; exact False.elim p
      | some ws =>
        rw [e2] at p
        refine ⟨_, pi_list (ha X g), UU.of S L e fun r1 H1 y st S1 q1 => ?_⟩
        obtain ⟨a, rfl, ea⟩ := q1.inv
        obtain ⟨vs, b1, b2⟩ := S1.lstL ea (seqAt_ref e2)
        exact ⟨a, rfl, ⟨vs, g.K ▸ b1⟩, g.K ▸ p r1 H1 _ st S1 (.lst ea)⟩
    | _ => exact False.elim p⟩
theorem call_folded {f : Expr} {as : List Expr} {ks : List Keyword} {p : Pos} : folded (.Call f as ks p) := fun _ _ => rfl
theorem si_rng1 {tg a : Expr} {i : E} {p pos : Pos} (ha : SE G EX C Γ m a i) (hn : notStar a = true) (hg : GL Γ "range") (hm : G.mg "range" = none) : SI G EX C Γ m tg (.Call (.Name "range" p) [a] [] pos) (.rng1 i) := ⟨call_folded, fun X g =>
  weakI (pi_range1 (g.gl hg) (by rw [g.mg]; exact hm) (pa_cons (ha X g) pa_nil (star_cons hn _ _)) (star_cons hn _ _)) fun σ H Q ⟨r, s, h, S, L, p⟩ => by
    simp only [evI] at p
    refine Post.bindU S L p fun r1 H1 h1 x y st0 S1 q1 p1 => ?_
    cases x <;> (try exact False.elim p1)
    cases q1
    simp only [rngJ] at p1
    split at p1
    · rename_i hc
      refine ⟨_, rfl, hc.2.2.1, hc.2.2.2, ?_⟩
      have := Post.ok p1 S1 (.rng 0 _)
      simpa using this
    · exact False.elim p1⟩
theorem si_rng2 {tg a b : Expr} {i j : E} {p pos : Pos} (ha : SE G EX C Γ m a i) (hb : SE G EX C Γ m b j) (hn : notStar a = true) (hn2 : notStar b = true) (hg : GL Γ "range") (hm : G.mg "range" = none) : SI G EX C Γ m tg (.Call (.Name "range" p) [a, b] [] pos) (.rng2 i j) := ⟨call_folded, fun X g =>
  weakI (pi_range2 (g.gl hg) (by rw [g.mg]; exact hm) (pa_cons (ha X g) (pa_cons (hb X g) pa_nil (star_cons hn2 _ _)) (star_cons hn _ _)) (by rw [star_cons hn, star_cons hn2]; rfl) (star_cons hn2 _ _)) fun σ H Q ⟨r, s, h, S, L, p⟩ => by
    simp only [evI] at p
    refine Post.bindU S L p fun r1 H1 h1 x y st0 S1 q1 p1 => ?_
    refine Post.bindU S1 (L.step st0) p1 fun r2 H2 h2 x2 y2 st2 S2 q2 p2 => ?_
    cases x <;> cases x2 <;> (try exact False.elim p2)
    cases q1; cases q2
    simp only [rngJ] at p2
    split at p2
    · rename_i hc
      exact ⟨_, _, rfl, hc, Post.ok p2 S2 (.rng _ _)⟩
    · exact False.elim p2⟩
theorem si_enm {elts : List Expr} {kk : Nat} {a : Expr} {i : E} {p pos tpos : Pos} (ha : SE G EX C Γ m a i) (hn : notStar a = true) (hg : GL Γ "enumerate") (hm : G.mg "enumerate" = none) : SI G EX C Γ m (.Tuple elts kk tpos) (.Call (.Name "enumerate" p) [a] [] pos) (.enm i) := ⟨call_folded, fun X g =>
  weakI (pi_enum (g.gl hg) (by rw [g.mg]; exact hm) (pa_cons (ha X g) pa_nil (star_cons hn _ _)) (star_cons hn _ _)) fun σ H Q ⟨r, s, h, S, L, p⟩ => by
    simp only [evI] at p
    refine Post.bindU S L p fun r1 H1 h1 x y st0 S1 q1 p1 => ?_
    cases x <;> (try exact False.elim p1)
    obtain ⟨a, rfl, ea⟩ := q1.inv
    dsimp only at p1
    split at p1
    · rename_i g1
      obtain ⟨vs, b1, b2⟩ := S1.lstL ea g1
      exact ⟨a, vs, rfl, g.K ▸ b1, g.K ▸ Post.ok p1 S1 (.enm ea)⟩
    · exact False.elim p1⟩
theorem si_zip {elts : List Expr} {kk : Nat} {a b : Expr} {i j : E} {p pos tpos : Pos} (ha : SE G EX C Γ m a i) (hb : SE G EX C Γ m b j) (hn : notStar a = true) (hn2 : notStar b = true) (hg : GL Γ "zip") (hm : G.mg "zip" = none) : SI G EX C Γ m (.Tuple elts kk tpos) (.Call (.Name "zip" p) [a, b] [] pos) (.zip i j) := ⟨call_folded, fun X g =>
  weakI (pi_zip (g.gl hg) (by rw [g.mg]; exact hm) (pa_cons (ha X g) (pa_cons (hb X g) pa_nil (star_cons hn2 _ _)) (star_cons hn _ _)) (star_cons hn _ _) (backTo_any (es := [b]) (by simp [plainAll, hn2]) _ _)) fun σ H Q ⟨r, s, h, S, L, p⟩ => by
    simp only [evI] at p
    refine Post.bindU S L p fun r1 H1 h1 x y st0 S1 q1 p1 => ?_
    refine Post.bindU S1 (L.step st0) p1 fun r2 H2 h2 x2 y2 st2 S2 q2 p2 => ?_
    cases x <;> cases x2 <;> (try exact False.elim p2)
    obtain ⟨a, rfl, ea⟩ := (q1.step st2).inv
    obtain ⟨b, rfl, eb⟩ := q2.inv
    dsimp only at p2
    split at p2
    · rename_i g1 g2
      obtain ⟨vs, b1, b2⟩ := S2.lstL ea g1
      obtain ⟨us, b3, b4⟩ := S2.lstL eb g2
      exact ⟨a, b, vs, us, rfl, g.K ▸ b1, g.K ▸ b3, g.K ▸ Post.ok p2 S2 (.zip ea eb)⟩
    · exact False.elim p2⟩

/-! ### comprehensions -/
def SC (G : Gx) (EX : XK) (C : Cal) (Γ : Gm) (m : Nat) (ifs : List Expr) (i : Eo) : Prop := ∀ X, Gd G Γ m X → PTs X ifs (UU G EX (fun _ _ => Eq) (evC C i))
theorem weakTs {X : Cx} {e : List Expr} {t t' : TT} (h : PTs X e t) (w : ∀ σ H Q, t' σ H Q → t σ H Q) : PTs X e t' := ⟨fun pins s σ H Q I q => h.run pins s σ H Q I (w _ _ _ q)⟩
theorem sc_none : SC G EX C Γ m [] .none := fun X g => weakTs pts_nil fun σ H Q ⟨r, s, h, S, L, p⟩ => by
  simp only [evC] at p
  exact Post.ok (h := h) p S rfl
theorem sc_some {a : Expr} {i : E} (ha : STt G EX C Γ m a i) : SC G EX C Γ m [a] (.some i) := fun X g => weakTs (pts_one (ha X g)) fun σ H Q ⟨r, s, h, S, L, p⟩ => by
  simp only [evC] at p
  exact ⟨r, s, h, S, L, p⟩
/-- the block's context -/
def Gm.blk (Γ : Gm) (scope : Scope) : Gm := ⟨Γ.N, relS scope Γ.sc, false⟩
theorem Gd.blk (g : Gd G Γ m X) {scope : Scope} (hk : scope.kind = .function) (s : Shared) (H : Hp) (D : Addr) (cl : List (Str × Addr)) (fp : List Addr) : Gd G (Γ.blk scope) m (X.blk s H scope (compEnvC scope cl D X.env) fp) where
  prog := g.prog
  w := g.w
  K := g.K
  mg := g.mg
  base := g.base
  N := g.N
  nd := g.nd
  sc := by
    show relabel scope X.env = relS scope Γ.sc
    rw [← g.sc]; rfl
  kind := hk
  calm := g.calm
  room := g.room
  fn := fun h => by cases h
/-- the turns of a comprehension -/
theorem comp_turns {tg : Tg} {cd : Eo} {el : E} {vs : List Nat} {σ : St} {Q : VK} {J0 : J} {t0 : L2.It} {D : Addr} {dn : Nat} (hix : ∀ i ∈ tgIx tg, i ∈ vs) {s : Sl} (fin : Hh → R W) {EX' : XK} :
    ∀ (k i : Nat) (r : Rho) (H : Hp) (h : Hh), Sim G r h H → SlR G r H s (wipe σ vs) → RelJ G r H J0 t0 → r[dn]? = some D →
      Post G r H (RelW G) Q EX' ((compL (evG C tg) (evC C cd) (evE C el) J0 dn s k i h).bindN fun _ h2 => fin h2) →
      ∀ (fq : ∀ r H h, Sim G r h H → r[dn]? = some D → Post G r H (RelW G) Q EX' (fin h) → Q (.ref D) H),
      (t0.stop i H ∧ Q (.ref D) H) ∨ (t0.go i H ∧ ∃ Nx : Hp → Prop, (∀ H', Nx H' → ∃ k', k' < k ∧ ∃ r' h', Sim G r' h' H' ∧ SlR G r' H' s (wipe σ vs) ∧ RelJ G r' H' J0 t0 ∧ r'[dn]? = some D ∧
        Post G r' H' (RelW G) Q EX' ((compL (evG C tg) (evC C cd) (evE C el) J0 dn s k' (i + 1) h').bindN fun _ h2 => fin h2)) ∧
        ∀ x H', t0.yld i H x H' → UG G EX C tg x (wipe σ vs) H' fun σ2 H2 => wipe σ2 vs = wipe σ vs ∧ UU G EX (fun _ _ => Eq) (evC C cd) σ2 H2 fun b H3 =>
          if b = true then UU G EX (RelW G) (evE C el) σ2 H3 fun y H4 => ∃ acc, H4 D = some (.lst acc) ∧ acc.length < sizeLine ∧ Nx (upd H4 D (.lst (acc ++ [y]))) else Nx H3) := by
  intro k i r H h S L rj hD p fq
  cases k with
  | zero => exact False.elim p
  | succ k =>
    simp only [compL] at p
    cases e : J0.next i h with
    | none => rw [e] at p; exact False.elim p
    | some o =>
      rw [e] at p
      cases o with
      | none => exact .inl ⟨rj.stop S e, fq r H h S hD p⟩
      | some w =>
        refine .inr ⟨(rj.go S e).1, fun H' => ∃ k', k' < k + 1 ∧ ∃ r' h', Sim G r' h' H' ∧ SlR G r' H' s (wipe σ vs) ∧ RelJ G r' H' J0 t0 ∧ r'[dn]? = some D ∧
          Post G r' H' (RelW G) Q EX' ((compL (evG C tg) (evC C cd) (evE C el) J0 dn s k' (i + 1) h').bindN fun _ h2 => fin h2), fun H' z => z, fun x H' y => ?_⟩
        obtain ⟨st, S', q⟩ := (rj.go S e).2 x H' y
        dsimp only at p
        replace p := Post.step p st
        have e0 : ∀ {α β γ : Type} (x : R α) (f : α → Hh → R β) (g : β → Hh → R γ), ((x.bindN f).bindN g) = x.bindN fun a h => (f a h).bindN g := by
          intro α β γ x f g; cases x <;> rfl
        rw [e0] at p
        refine ⟨r, s, h, w, S', L.step st, q, Post.of_bindN p fun r1 H1 h1 s1 σ1 st1 S1 q1 p1 => ?_⟩
        refine ⟨(q1.2 vs hix).trans (wipe_wipe σ vs), ?_⟩
        rw [e0] at p1
        refine ⟨r1, s1, h1, S1, q1.1, Post.of_bindN p1 fun r2 H2 h2 b b' st2 S2 q2 p2 => ?_⟩
        subst q2
        have L0 := ((L.step st).step st1).step st2
        have rj0 := ((rj.step st).step st1).step st2
        have hD0 := st2.get (st1.get (st.get hD))
        cases b with
        | false =>
          exact ⟨k, Nat.lt_succ_self k, r2, h2, S2, L0, rj0, hD0, p2⟩
        | true =>
          dsimp only at p2
          rw [e0] at p2
          refine ⟨r2, s1, h2, S2, q1.1.step st2, Post.of_bindN p2 fun r3 H3 h3 y y' st3 S3 q3 p3 => ?_⟩
          split at p3
          · rename_i acc g1
            split at p3
            · rename_i hl
              have hD3 := st3.get hD0
              obtain ⟨us, a1, b1⟩ := S3.lst hD3 g1
              rw [b1.length] at hl
              obtain ⟨S4, st4⟩ := S3.put (o := .lst (acc ++ [y])) (ho := .lst (us ++ [y'])) hD3 g1 rfl rfl fun st => ⟨_, upd_same, (b1.append (.cons q3 .nil)).step st⟩
              exact ⟨us, a1, hl, k, Nat.lt_succ_self k, r3, _, S4, (L0.step st3).step st4, (rj0.step st3).step st4, st4.get hD3, Post.step p3 st4⟩
            · exact False.elim p3
          · exact False.elim p3
end
end Mi

set_option Elab.async false
set_option linter.all false
set_option maxRecDepth 100000
set_option maxHeartbeats 4000000
/-! List comprehensions; statements. -/
namespace Mi
open PySem PySem.Spec PyProof.Rows L2
section
variable {G : Gx} {EX : XK} {C : Cal} {Γ : Gm} {m l n : Nat} {X : Cx}
theorem comp_lc {tg : Tg} {it : It} {cd : Eo} {el : E} {own : List Nat} {σ : St} {H : Hp} {Q : VK} (g : Gd G Γ m X) (hix : (tgIx tg).all (fun i => own.contains i) = true) (u : UU G EX (RelW G) (evE C (.comp el tg it cd own)) σ H Q) :
    tLc (UI G EX C it) (UG G EX C tg) (UU G EX (fun _ _ => Eq) (evC C cd)) (UU G EX (RelW G) (evE C el)) own σ H Q := by
  obtain ⟨r, s, h, S, L, p⟩ := u
  simp only [evE] at p
  refine Post.bindU S L p fun r1 H1 h1 j t0 st0 S1 q1 p1 => ?_
  intro D hD
  have hix' : ∀ i ∈ tgIx tg, i ∈ own := fun i hi => by
    have := List.all_eq_true.mp hix i hi
    simpa using this
  obtain ⟨S2, st2⟩ := S1.push (o := .lst []) (ho := .lst []) hD ⟨[], upd_same, .nil⟩
  refine ⟨fun i k H => ∃ r' h', Sim G r' h' H ∧ SlR G r' H (wipeS s own) (L2.wipe σ own) ∧ RelJ G r' H j t0 ∧ r'[h1.n]? = some D ∧
    Post G r' H (RelW G) Q EX ((compL (evG C tg) (evC C cd) (evE C el) j h1.n (wipeS s own) k i h').bindN fun _ h2 => .ok (.ref h1.n) h2), ?_, ?_⟩
  · exact ⟨j.fuel h1, _, _, S2, ((L.step st0).step st2).wipe own, q1.step st2, S1.last D, Post.step p1 st2⟩
  · intro i k H' ⟨r', h', S', L', q', d', p'⟩
    exact comp_turns hix' (fun h2 => .ok (.ref h1.n) h2) k i r' H' h' S' L' q' d' p' fun r H h S d p => Post.ok p S (.ref d)
theorem Gd.blkOk (g : Gd G Γ m X) {scope : Scope} {own : List (Str × Nat)} (h : blkC Γ.N Γ.sc scope own = true) : BlkOk X.N X.env.scope scope own := by
  rw [g.N, g.sc]; exact blkOk_by h
theorem se_comp {elt tg iter : Expr} {ifs : List Expr} {scope : Scope} {own : List (Str × Nat)} {pos : Pos} {t : Tg} {it : It} {cd : Eo} {el : E} (ob : blkC Γ.N Γ.sc scope own = true) (hix : (tgIx t).all (fun i => (own.map (·.2)).contains i) = true)
    (hi : SI G EX C Γ m tg iter it) (hg : SG G EX C (Γ.blk scope) m tg t) (hc : SC G EX C (Γ.blk scope) m ifs cd) (he : SE G EX C (Γ.blk scope) m elt el) :
    SE G EX C Γ m (.ListComp elt [⟨tg, iter, ifs, 0⟩] scope pos) (.comp el t it cd (own.map (·.2))) := fun X g =>
  weakE (pe_lc g.calm (by rw [g.N]; exact g.nd) (hi.run X g) (g.blkOk ob) (fun s H D cl fp => hg.2 _ (g.blk (g.blkOk ob).kind s H D cl fp)) (fun s H D cl fp => hc _ (g.blk (g.blkOk ob).kind s H D cl fp))
    (fun s H D cl fp => he _ (g.blk (g.blkOk ob).kind s H D cl fp)) (hi.fo X.env)) fun σ H Q u => comp_lc g hix u

/-! ### statements -/
def PostS (G : Gx) (r : Rho) (H : Hp) (D : Ends) (EX : XK) : RS → Prop
  | .nx s h => ∀ r' H' σ', Step G r H r' H' → Sim G r' h H' → SlR G r' H' s σ' → D.nx σ' H'
  | .rt w h => ∀ r' H' v, Step G r H r' H' → Sim G r' h H' → RelW G r' H' w v → D.rt v H'
  | .bk s h => ∀ r' H' σ', Step G r H r' H' → Sim G r' h H' → SlR G r' H' s σ' → D.bk σ' H'
  | .ct s h => ∀ r' H' σ', Step G r H r' H' → Sim G r' h H' → SlR G r' H' s σ' → D.ct σ' H'
  | .ex c fs _ h => ∀ r' H' d fv, Step G r H r' H' → Sim G r' h H' → H' d = some (.xd fv) → RelF G r' H' fs fv → EX (.ref (G.ca c)) (some d) H'
  | .no => False
theorem PostS.step {r r1 : Rho} {H H1 : Hp} {D : Ends} {x : RS} (p : PostS G r H D EX x) (s : Step G r H r1 H1) : PostS G r1 H1 D EX x := by
  cases x with
  | nx a h => intro r' H' b st; exact p r' H' b (s.trans st)
  | rt a h => intro r' H' b st; exact p r' H' b (s.trans st)
  | bk a h => intro r' H' b st; exact p r' H' b (s.trans st)
  | ct a h => intro r' H' b st; exact p r' H' b (s.trans st)
  | ex c fs s' h => intro r' H' d fv st; exact p r' H' d fv (s.trans st)
  | no => exact p
theorem PostS.of {r : Rho} {H : Hp} {D : Ends} {γ δ : Type} {rel' : Rho → Hp → γ → δ → Prop} {K : δ → Hp → Prop} {x : R γ} {s : Sl} {f : γ → Hh → RS} (p : PostS G r H D EX (x.toS s f))
    (k : ∀ r1 H1 h1 a b, Step G r H r1 H1 → Sim G r1 h1 H1 → rel' r1 H1 a b → PostS G r1 H1 D EX (f a h1) → K b H1) : Post G r H rel' K EX x := by
  cases x with
  | ok a h => intro r' H' b st S q; exact k r' H' h a b st S q (PostS.step (x := f a h) p st)
  | ex c fs h => exact p
  | no => exact p
def US (G : Gx) (EX : XK) (f : Sl → Hh → RS) : TS := fun D σ H => ∃ r s h, Sim G r h H ∧ SlR G r H s σ ∧ PostS G r H D EX (f s h)
theorem PostS.ofU {r : Rho} {s : Sl} {h : Hh} {σ : St} {H : Hp} {D : Ends} {γ δ : Type} {rel' : Rho → Hp → γ → δ → Prop} {K : δ → Hp → Prop} {x : Sl → Hh → R γ} {f : γ → Hh → RS} (S : Sim G r h H) (L : SlR G r H s σ) (p : PostS G r H D EX ((x s h).toS s f))
    (k : ∀ r1 H1 h1 a b, Step G r H r1 H1 → Sim G r1 h1 H1 → rel' r1 H1 a b → PostS G r1 H1 D EX (f a h1) → K b H1) : UU G EX rel' x σ H K := ⟨r, s, h, S, L, p.of k⟩
/-- a def's body: its own loops may pass exceptions -/
structure GdS (G : Gx) (Γ : Gm) (m : Nat) (X : Cx) : Prop where
  gd : Gd G Γ m X
  po : PassesOwn (model X.prog X.w) X.A X.env X.xe
def SS (G : Gx) (EX : XK) (C : Cal) (Γ : Gm) (m : Nat) (st : Stmt) (i : Mi.S) : Prop := ∀ X, GdS G Γ m X → PS X st (US G EX (evS C i))
def SSs (G : Gx) (EX : XK) (C : Cal) (Γ : Gm) (m : Nat) (st : List Stmt) (i : Ss) : Prop := ∀ X, GdS G Γ m X → PSs X st (US G EX (evSs C i))
theorem weakS {X : Cx} {e : Stmt} {t t' : TS} (h : PS X e t) (w : ∀ D σ H, t' D σ H → t D σ H) : PS X e t' := ⟨fun pins s σ H D I q => h.run pins s σ H D I (w _ _ _ q)⟩
theorem weakSs {X : Cx} {e : List Stmt} {t t' : TS} (h : PSs X e t) (w : ∀ D σ H, t' D σ H → t D σ H) : PSs X e t' := ⟨fun pins s σ H D I q => h.run pins s σ H D I (w _ _ _ q)⟩
theorem sss_nil : SSs G EX C Γ m [] .nil := fun X g => weakSs pss_nil fun D σ H ⟨r, s, h, S, L, p⟩ => by
  simp only [evSs] at p
  exact p r H σ Step.refl S L
theorem sss_cons {a : Stmt} {rest : List Stmt} {i : Mi.S} {is : Ss} (ha : SS G EX C Γ m a i) (hs : SSs G EX C Γ m rest is) : SSs G EX C Γ m (a :: rest) (.cons i is) := fun X g =>
  weakSs (pss_cons (ha X g) (hs X g)) fun D σ H ⟨r, s, h, S, L, p⟩ => by
    simp only [evSs] at p
    refine ⟨r, s, h, S, L, ?_⟩
    cases e : evS C i s h with
    | nx s1 h1 =>
      rw [e] at p
      intro r1 H1 σ1 st S1 L1
      exact ⟨r1, s1, h1, S1, L1, PostS.step (x := evSs C is s1 h1) p st⟩
    | rt w h1 => rw [e] at p; exact p
    | bk w h1 => rw [e] at p; exact p
    | ct w h1 => rw [e] at p; exact p
    | ex c fs s1 h1 => rw [e] at p; exact p
    | no => rw [e] at p; exact p
theorem s_pass {p : Pos} : SS G EX C Γ m (.Pass p) .pass := fun X g => weakS ps_pass fun D σ H ⟨r, s, h, S, L, p⟩ => by
  simp only [evS] at p
  exact p r H σ Step.refl S L
theorem s_brk {p : Pos} : SS G EX C Γ m (.Break p) .brk := fun X g => weakS ps_break fun D σ H ⟨r, s, h, S, L, p⟩ => by
  simp only [evS] at p
  exact p r H σ Step.refl S L
theorem s_cont {p : Pos} : SS G EX C Γ m (.Continue p) .cont := fun X g => weakS ps_continue fun D σ H ⟨r, s, h, S, L, p⟩ => by
  simp only [evS] at p
  exact p r H σ Step.refl S L
theorem s_never {st : Stmt} : SS G EX C Γ m st .never := fun X g => weakS ps_never fun D σ H ⟨r, s, h, S, L, p⟩ => by
  simp only [evS] at p
  exact p
theorem s_doc {x j p p'} : SS G EX C Γ m (.Expr (.Constant (.str x) j p) p') .pass := fun X g => weakS ps_doc fun D σ H ⟨r, s, h, S, L, p⟩ => by
  simp only [evS] at p
  exact p r H σ Step.refl S L
theorem s_expr {a : Expr} {i : E} {p : Pos} (ha : SE G EX C Γ m a i) (hn : noComp a = true) : SS G EX C Γ m (.Expr a p) (.expr i) := fun X g =>
  weakS (ps_expr (ha X g.gd) (noComp_sw hn _ _ _)) fun D σ H ⟨r, s, h, S, L, p⟩ => by
    simp only [evS] at p
    exact PostS.ofU S L p fun r1 H1 h1 a b st S1 q p1 => p1 r1 H1 σ Step.refl S1 (L.step st)
theorem s_ret {a : Expr} {i : E} {p : Pos} (ha : SE G EX C Γ m a i) : SS G EX C Γ m (.Return (some a) p) (.ret i) := fun X g =>
  weakS (ps_ret (ha X g.gd)) fun D σ H ⟨r, s, h, S, L, p⟩ => by
    simp only [evS] at p
    exact PostS.ofU S L p fun r1 H1 h1 a b st S1 q p1 => p1 r1 H1 b Step.refl S1 q
theorem s_retN {p : Pos} : SS G EX C Γ m (.Return none p) .retN := fun X g => weakS ps_retN fun D σ H ⟨r, s, h, S, L, p⟩ => by
  simp only [evS] at p
  exact p r H .non Step.refl S .non
theorem s_if {c : Expr} {a b : List Stmt} {i : E} {x y : Ss} {p : Pos} (hc : STt G EX C Γ m c i) (ha : SSs G EX C Γ m a x) (hb : SSs G EX C Γ m b y) : SS G EX C Γ m (.If c a b p) (.ifS i x y) := fun X g =>
  weakS (ps_if (hc X g.gd) (ha X g) (hb X g)) fun D σ H ⟨r, s, h, S, L, p⟩ => by
    simp only [evS] at p
    refine PostS.ofU S L p fun r1 H1 h1 k b st S1 q p1 => ?_
    subst q
    cases k with
    | true => exact ⟨r1, s, h1, S1, L.step st, p1⟩
    | false => exact ⟨r1, s, h1, S1, L.step st, p1⟩
/-! ### stores -/
theorem asgU {i : E} {t : Tg} {r : Rho} {s : Sl} {h : Hh} {σ : St} {H : Hp} {D : Ends} (S : Sim G r h H) (L : SlR G r H s σ) (p : PostS G r H D EX (evS C (.asg t i) s h)) : tAsg (UU G EX (RelW G) (evE C i)) (UG G EX C t) D σ H := by
  simp only [evS] at p
  refine PostS.ofU S L p fun r1 H1 h1 a b st S1 q p1 => ?_
  exact ⟨r1, s, h1, a, S1, L.step st, q, PostS.of p1 fun r2 H2 h2 s2 σ2 st2 S2 q2 p2 => p2 r2 H2 σ2 Step.refl S2 q2.1⟩
/-- no exchange of stores -/
def isTL : Expr → Bool
  | .Tuple .. => true | .List .. => true | _ => false
def noSwap (t e : Expr) : Bool := match t, e with
  | .Tuple ts _ _, .Tuple vs _ _ => !(ts.length == 2 || ts.length == 3) || vs.length != ts.length
  | .Tuple .., _ => true
  | .List .., _ => !isTL e
  | _, _ => true
theorem noSwap_tt {ts vs : List Expr} {k k2 : Nat} {p p2 : Pos} (h : (!(ts.length == 2 || ts.length == 3) || vs.length != ts.length) = true) (env : Env) : swappedStores [.Tuple ts k p] (.Tuple vs k2 p2) env = pure none := by
  show (if (!(ts.length == 2 || ts.length == 3) || vs.length != ts.length || env.blockKind != .function) = true then pure none else _) = pure none
  rw [if_pos (by rw [h]; rfl)]
theorem noSwap_t {ts : List Expr} {k : Nat} {p : Pos} {e : Expr} (h : noSwap (.Tuple ts k p) e = true) (env : Env) : swappedStores [.Tuple ts k p] e env = pure none := by
  cases e <;> first | rfl | exact noSwap_tt h env
theorem noSwap_l {ts : List Expr} {p : Pos} {e : Expr} (h : noSwap (.List ts p) e = true) (env : Env) : swappedStores [.List ts p] e env = pure none := by
  cases e <;> first | rfl | cases h
theorem noSwap_is {t e : Expr} (h : noSwap t e = true) (env : Env) : swappedStores [t] e env = pure none := by
  cases t <;> first | exact noSwap_t h env | exact noSwap_l h env | rfl
theorem s_asg {t e : Expr} {tg : Tg} {i : E} {p : Pos} (ht : SG G EX C Γ m t tg) (he : SE G EX C Γ m e i) (hn : noComp e = true) (hs : noSwap t e = true) : SS G EX C Γ m (.Assign [t] e p) (.asg tg i) := fun X g =>
  weakS (ps_asg (he X g.gd) (ht.2 X g.gd) (noComp_sw hn _ _ _) (noSwap_is hs _) (by rw [assign_cons ht.1]; rfl)) fun D σ H ⟨r, s, h, S, L, p⟩ => asgU S L p
end
end Mi

set_option Elab.async false
set_option linter.all false
set_option maxRecDepth 100000
set_option maxHeartbeats 4000000
/-! More stores, loops. -/
namespace Mi
open PySem PySem.Spec PyProof.Rows L2
def isStarB : Expr → Bool
  | .Starred .. => true
  | _ => false
def lineOf (ts : List Expr) : Nat := (ts.head?.map (·.pos.line)).getD 0
def parN (sc : Scope) (ts : List Expr) : List Str := ts.filterMap fun
  | .Name id pos => if sc.names.lookup id == some .local && pos.line == lineOf ts then some id else none
  | _ => none
def parB (sc : Scope) (ts vs : List Expr) : Bool :=
  (ts.length == 2 || ts.length == 3) && vs.length == ts.length && (match sc.kind with | .function => true | _ => false) && !(vs.any isStarB) && (parN sc ts).length == ts.length && (parN sc ts).eraseDups.length == (parN sc ts).length && !(vs.all (foldedForSure 8)) && !(vs.all (constantsAlone 8))
theorem par_is {ts vs : List Expr} {k k2 : Nat} {p p2 : Pos} {env : Env} (h : parB env.scope ts vs = true) : swappedStores [.Tuple ts k p] (.Tuple vs k2 p2) env = pure (some (parN env.scope ts)) := by
  simp only [parB, Bool.and_eq_true, Bool.not_eq_true', beq_iff_eq] at h
  obtain ⟨⟨⟨⟨⟨⟨⟨h1, h2⟩, h3⟩, h4⟩, h5⟩, h6⟩, h7⟩, h8⟩ := h
  have hk : env.scope.kind = .function := by
    cases e : env.scope.kind <;> rw [e] at h3 <;> first | rfl | cases h3
  have hb : (env.blockKind != .function) = false := by
    unfold Env.blockKind
    rw [hk]; rfl
  show (if (!(ts.length == 2 || ts.length == 3) || vs.length != ts.length || env.blockKind != .function) = true then pure none else
    if (vs.any isStarB) = true then pure none else
    if ((parN env.scope ts).length != ts.length || (parN env.scope ts).eraseDups.length != (parN env.scope ts).length) = true then pure none else
    if vs.all (foldedForSure 8) = true then pure none else
    if vs.all (constantsAlone 8) = true then _ else pure (some (parN env.scope ts))) = _
  rw [if_neg (by rw [h1, hb, h2]; simp), if_neg (by rw [h4]; simp), if_neg (by rw [h6]; simp [h5]), if_neg (by rw [h7]; simp), if_neg (by rw [h8]; simp)]
/-- no exchange: not two or three, a starred one, a name that is no local, a name twice, constants alone -/
def noSwapS (sc : Scope) (t e : Expr) : Bool := match t, e with
  | .Tuple ts _ _, .Tuple vs _ _ => !(ts.length == 2 || ts.length == 3) || vs.length != ts.length || vs.any isStarB || (parN sc ts).length != ts.length || (parN sc ts).eraseDups.length != (parN sc ts).length || vs.all (foldedForSure 8)
  | _, _ => noSwap t e
theorem noSwapS_is {t e : Expr} {env : Env} (h : noSwapS env.scope t e = true) : swappedStores [t] e env = pure none := by
  unfold noSwapS at h
  split at h
  · rename_i ts k p vs k2 p2
    show (if (!(ts.length == 2 || ts.length == 3) || vs.length != ts.length || env.blockKind != .function) = true then pure none else
      if (vs.any isStarB) = true then pure none else
      if ((parN env.scope ts).length != ts.length || (parN env.scope ts).eraseDups.length != (parN env.scope ts).length) = true then pure none else
      if vs.all (foldedForSure 8) = true then pure none else
      if vs.all (constantsAlone 8) = true then _ else pure (some (parN env.scope ts))) = _
    by_cases c1 : (!(ts.length == 2 || ts.length == 3) || vs.length != ts.length || env.blockKind != .function) = true
    · rw [if_pos c1]
    rw [if_neg c1]
    by_cases c2 : (vs.any isStarB) = true
    · rw [if_pos c2]
    rw [if_neg c2]
    by_cases c3 : ((parN env.scope ts).length != ts.length || (parN env.scope ts).eraseDups.length != (parN env.scope ts).length) = true
    · rw [if_pos c3]
    rw [if_neg c3]
    by_cases c4 : vs.all (foldedForSure 8) = true
    · rw [if_pos c4]
    exfalso
    simp only [Bool.or_eq_true] at h c1 c3
    rcases h with ((((h | h) | h) | h) | h) | h
    · exact c1 (.inl (.inl h))
    · exact c1 (.inl (.inr h))
    · exact c2 h
    · exact c3 (.inl h)
    · exact c3 (.inr h)
    · exact c4 h
  · exact noSwap_is h env
section
variable {G : Gx} {EX : XK} {C : Cal} {Γ : Gm} {m l n : Nat} {X : Cx}
theorem s_par2 {x y : Str} {a b : Expr} {i j : Nat} {u v : E} {px py pt pos pt2 : Pos} {kt k2 : Nat} (hi : Γ.N[i]? = some x) (hj : Γ.N[j]? = some y) (hij : i ≠ j) (hx : Γ.sc.names.lookup x = some .local) (hy : Γ.sc.names.lookup y = some .local)
    (ha : SE G EX C Γ m a u) (hb : SE G EX C Γ m b v) (n1 : notStar a = true) (n2 : notStar b = true) (hp : parB Γ.sc [.Name x px, .Name y py] [a, b] = true) (hl : py.line = px.line) :
    SS G EX C Γ m (.Assign [.Tuple [.Name x px, .Name y py] kt pt] (.Tuple [a, b] k2 pt2) pos) (.par [i, j] (.cons u (.cons v .nil))) := fun X g => by
  have hs := ss_cons ha (ss_cons hb ss_nil n2) n1
  have hw : swappedStores [.Tuple [.Name x px, .Name y py] kt pt] (.Tuple [a, b] k2 pt2) X.env = pure (some [x, y]) := by
    rw [par_is (by rw [g.gd.sc]; exact hp)]
    have : parN X.env.scope [.Name x px, .Name y py] = [x, y] := by
      rw [g.gd.sc]
      simp [parN, hx, hy, lineOf, hl, Expr.pos]
    rw [this]
  refine weakS (ps_par g.gd.calm (by rw [g.gd.N]; exact g.gd.nd) (by rw [g.gd.N]; exact hi) (by rw [g.gd.N]; exact hj) hij (by rw [g.gd.sc]; exact hx) (by rw [g.gd.sc]; exact hy) (hs.run X g.gd) hw rfl) fun D σ H ⟨r, s, h, S, L, p⟩ => ?_
  simp only [evS] at p
  refine PostS.ofU S L p fun r1 H1 h1 ws vs st S1 q p1 => ?_
  cases q with
  | nil => exact False.elim p1
  | cons q1 t =>
    cases t with
    | nil => exact False.elim p1
    | cons q2 t =>
      cases t with
      | cons => exact False.elim p1
      | nil => exact ⟨_, _, rfl, p1 r1 H1 _ Step.refl S1 (((L.step st).set q1).set q2)⟩
theorem s_par3 {x y z : Str} {a b c : Expr} {i j k : Nat} {u v w : E} {px py pz pt pos pt2 : Pos} {kt k2 : Nat} (hi : Γ.N[i]? = some x) (hj : Γ.N[j]? = some y) (hk : Γ.N[k]? = some z) (hij : i ≠ j) (hik : i ≠ k) (hjk : j ≠ k) (hx : Γ.sc.names.lookup x = some .local) (hy : Γ.sc.names.lookup y = some .local) (hz : Γ.sc.names.lookup z = some .local)
    (ha : SE G EX C Γ m a u) (hb : SE G EX C Γ m b v) (hc : SE G EX C Γ m c w) (n1 : notStar a = true) (n2 : notStar b = true) (n3 : notStar c = true) (hp : parB Γ.sc [.Name x px, .Name y py, .Name z pz] [a, b, c] = true) (hl : py.line = px.line) (hl2 : pz.line = px.line) :
    SS G EX C Γ m (.Assign [.Tuple [.Name x px, .Name y py, .Name z pz] kt pt] (.Tuple [a, b, c] k2 pt2) pos) (.par [i, j, k] (.cons u (.cons v (.cons w .nil)))) := fun X g => by
  have hs := ss_cons ha (ss_cons hb (ss_cons hc ss_nil n3) n2) n1
  have hw : swappedStores [.Tuple [.Name x px, .Name y py, .Name z pz] kt pt] (.Tuple [a, b, c] k2 pt2) X.env = pure (some [x, y, z]) := by
    rw [par_is (by rw [g.gd.sc]; exact hp)]
    have : parN X.env.scope [.Name x px, .Name y py, .Name z pz] = [x, y, z] := by
      rw [g.gd.sc]
      simp [parN, hx, hy, hz, lineOf, hl, hl2, Expr.pos]
    rw [this]
  refine weakS (ps_par3 g.gd.calm (by rw [g.gd.N]; exact g.gd.nd) (by rw [g.gd.N]; exact hi) (by rw [g.gd.N]; exact hj) (by rw [g.gd.N]; exact hk) hij hik hjk (by rw [g.gd.sc]; exact hx) (by rw [g.gd.sc]; exact hy) (by rw [g.gd.sc]; exact hz) (hs.run X g.gd) hw rfl) fun D σ H ⟨r, s, h, S, L, p⟩ => ?_
  simp only [evS] at p
  refine PostS.ofU S L p fun r1 H1 h1 ws vs st S1 q p1 => ?_
  cases q with
  | nil => exact False.elim p1
  | cons q1 t =>
    cases t with
    | nil => exact False.elim p1
    | cons q2 t =>
      cases t with
      | nil => exact False.elim p1
      | cons q3 t =>
        cases t with
        | cons => exact False.elim p1
        | nil => exact ⟨_, _, _, rfl, p1 r1 H1 _ Step.refl S1 ((((L.step st).set q1).set q2).set q3)⟩
theorem s_asgS {t e : Expr} {tg : Tg} {i : E} {p : Pos} (ht : SG G EX C Γ m t tg) (he : SE G EX C Γ m e i) (hn : noComp e = true) (hs : noSwapS Γ.sc t e = true) : SS G EX C Γ m (.Assign [t] e p) (.asg tg i) := fun X g =>
  weakS (ps_asg (he X g.gd) (ht.2 X g.gd) (noComp_sw hn _ _ _) (noSwapS_is (by rw [g.gd.sc]; exact hs)) (by rw [assign_cons ht.1]; rfl)) fun D σ H ⟨r, s, h, S, L, p⟩ => asgU S L p
/-! ### o.f = e -/
theorem fld_sw {value o : Expr} {f : Str} {p : Pos} {l : Nat} {env : Env} : swapsWith value (some (.Attribute o f p)) l env = pure false := by
  cases value <;> rfl
theorem s_fld {o e : Expr} {x : Str} {f : Nat} {io i : E} {pos p : Pos} (cs : CsF G C n) (hx : G.nm[f]? = some x) (ho : SE G EX C Γ m o io) (he : SE G EX C Γ m e i) : SS G EX C Γ m (.Assign [.Attribute o x p] e pos) (.asg (.fld io f) i) := fun X g =>
  weakS (ps_fld (ho X g.gd) (he X g.gd) fld_sw) fun D σ H ⟨r, s, h, S, L, p⟩ => by
    simp only [evS, evG] at p
    refine PostS.ofU S L p fun r1 H1 h1 w v st S1 q p1 => ?_
    have p1' : PostS G r1 H1 D EX ((evE C io s h1).toS s fun x h2 => (match setFld C x f w h2 with | some h3 => R.ok s h3 | none => R.no : R Sl).toS s fun s1 h2 => .nx s1 h2) := by
      cases e : evE C io s h1 with
      | ok a h2 => rw [e] at p1; exact p1
      | ex c fs h2 => rw [e] at p1; exact p1
      | no => rw [e] at p1; exact p1
    refine PostS.ofU S1 (L.step st) p1' fun r2 H2 h2 a b st2 S2 q2 p2 => ?_
    cases e : setFld C a f w h2 with
    | none => rw [e] at p2; exact False.elim p2
    | some h3 =>
      rw [e] at p2
      unfold setFld at e
      split at e
      · split at e
        · rename_i nn c fs g1
          split at e
          · rename_i qc eq
            split at e
            · rename_i e1 e2
              split at e
              · rename_i hl
                cases e
                obtain ⟨pa, rfl, ea⟩ := q2.inv
                obtain ⟨dx, fv, a1, b1⟩ := S2.ins ea g1
                rw [b1.length] at hl
                have cf := cs.cl c qc eq
                obtain ⟨S3, st3⟩ := S2.put (o := .ins c (putFW f w fs)) (ho := .ins (G.ca c) dx (putF x v fv)) ea g1 rfl rfl fun st => ⟨dx, _, upd_same, (b1.put cs.nd hx (q.step st2)).step st⟩
                refine ⟨pa, _, dx, fv, rfl, a1, by rw [g.gd.K]; exact cf.cls, by rw [g.gd.K]; exact cf.na f x hx e2 e1, hl, ?_⟩
                exact p2 _ _ σ st3 S3 (((L.step st).step st2).step st3)
              · cases e
            · cases e
          · cases e
        · cases e
      · cases e
/-! ### name = [..] -/
theorem s_setLc {y : Str} {k : Nat} {py : Pos} {elt tg iter : Expr} {ifs : List Expr} {scope : Scope} {own : List (Str × Nat)} {pos spos : Pos} {t : Tg} {it : It} {cd : Eo} {el : E} (hy : Γ.N[k]? = some y) (hyl : Γ.sc.names.lookup y = some .local) (hl : (py.line == pos.line) = true)
    (hsw : (scope.names.any fun (n, k) => n == y && (k == .local || k == .cell)) = false) (ob : blkC Γ.N Γ.sc scope own = true) (hix : (tgIx t).all (fun i => (own.map (·.2)).contains i) = true)
    (hi : SI G EX C Γ m tg iter it) (hg : SG G EX C (Γ.blk scope) m tg t) (hc : SC G EX C (Γ.blk scope) m ifs cd) (he : SE G EX C (Γ.blk scope) m elt el) :
    SS G EX C Γ m (.Assign [.Name y py] (.ListComp elt [⟨tg, iter, ifs, 0⟩] scope pos) spos) (.asg (.name k) (.comp el t it cd (own.map (·.2)))) := fun X g =>
  weakS (ps_setLc g.gd.calm (by rw [g.gd.N]; exact g.gd.nd) (by rw [g.gd.N]; exact hy) (by rw [g.gd.sc]; exact hyl) (sw_true (by rw [g.gd.sc]; exact g.gd.kind) (by rw [g.gd.sc]; exact hyl) hl hsw) (hi.run X g.gd) (g.gd.blkOk ob)
    (fun s H D cl fp => hg.2 _ (g.gd.blk (g.gd.blkOk ob).kind s H D cl fp)) (fun s H D cl fp => hc _ (g.gd.blk (g.gd.blkOk ob).kind s H D cl fp))
    (fun s H D cl fp => he _ (g.gd.blk (g.gd.blkOk ob).kind s H D cl fp)) (hi.fo X.env)) fun D σ H ⟨r, s, h, S, L, p⟩ => by
    simp only [evS] at p
    refine comp_lc g.gd hix (PostS.ofU S L p fun r1 H1 h1 w v st S1 q p1 => ?_)
    simp only [evG, R.toS] at p1
    exact p1 r1 H1 _ Step.refl S1 ((L.step st).set q)
/-! ### loops -/
theorem s_for {tg iter : Expr} {body : List Stmt} {t : Tg} {it : It} {b : Ss} {pos : Pos} (hi : SI G EX C Γ m tg iter it) (ht : SG G EX C Γ m tg t) (hb : SSs G EX C Γ m body b) : SS G EX C Γ m (.For tg iter body [] pos) (.forS t it b) := fun X g =>
  weakS (ps_for g.po g.gd.calm (hi.run X g.gd) (ht.2 X g.gd) (hb X g) (hi.fo X.env)) fun D σ H ⟨r, s, h, S, L, p⟩ => by
    simp only [evS] at p
    refine PostS.ofU S L p fun r1 H1 h1 j t0 st0 S1 q1 p1 => ?_
    refine ⟨fun i k σ H => ∃ r s h, Sim G r h H ∧ SlR G r H s σ ∧ RelJ G r H j t0 ∧ PostS G r H D EX (forL (evG C t) (evSs C b) j k i s h), ⟨_, r1, s, h1, S1, L.step st0, q1, p1⟩, ?_⟩
    intro i k σ H ⟨r, s, h, S, L, q, p⟩
    cases k with
    | zero => exact False.elim p
    | succ k =>
      simp only [forL] at p
      cases e : j.next i h with
      | none => rw [e] at p; exact False.elim p
      | some o =>
        rw [e] at p
        cases o with
        | none => exact .inl ⟨q.stop S e, p r H σ Step.refl S L⟩
        | some w =>
          refine .inr ⟨(q.go S e).1, fun σ H => ∃ m', m' < k + 1 ∧ ∃ r s h, Sim G r h H ∧ SlR G r H s σ ∧ RelJ G r H j t0 ∧ PostS G r H D EX (forL (evG C t) (evSs C b) j m' (i + 1) s h), fun σ' H' z => z, fun x H' y => ?_⟩
          obtain ⟨st, S', q'⟩ := (q.go S e).2 x H' y
          dsimp only at p
          refine ⟨r, s, h, w, S', L.step st, q', PostS.of (PostS.step p st) fun r2 H2 h2 s2 σ2 st2 S2 q2 p2 => ?_⟩
          refine ⟨r2, s2, h2, S2, q2.1, ?_⟩
          have q0 := (q.step st).step st2
          cases eb : evSs C b s2 h2 with
          | nx s3 h3 =>
            rw [eb] at p2
            intro r3 H3 σ3 st3 S3 L3
            exact ⟨k, Nat.lt_succ_self k, r3, s3, h3, S3, L3, q0.step st3, PostS.step (x := forL (evG C t) (evSs C b) j k (i + 1) s3 h3) p2 st3⟩
          | ct s3 h3 =>
            rw [eb] at p2
            intro r3 H3 σ3 st3 S3 L3
            exact ⟨k, Nat.lt_succ_self k, r3, s3, h3, S3, L3, q0.step st3, PostS.step (x := forL (evG C t) (evSs C b) j k (i + 1) s3 h3) p2 st3⟩
          | bk s3 h3 => rw [eb] at p2; exact p2
          | rt w h3 => rw [eb] at p2; exact p2
          | ex c fs s3 h3 => rw [eb] at p2; exact p2
          | no => rw [eb] at p2; exact p2
theorem s_whl {c : Expr} {body : List Stmt} {i : E} {b : Ss} {pos : Pos} (hc : STt G EX C Γ m c i) (hb : SSs G EX C Γ m body b) : SS G EX C Γ m (.While c body [] pos) (.whl i b) := fun X g =>
  weakS (ps_while g.po (hc X g.gd) (hb X g)) fun D σ H ⟨r, s, h, S, L, p⟩ => by
    simp only [evS] at p
    refine ⟨fun k σ H => ∃ r s h, Sim G r h H ∧ SlR G r H s σ ∧ PostS G r H D EX (whlL (evT C i) (evSs C b) k s h), ⟨_, r, s, h, S, L, p⟩, ?_⟩
    intro k σ H ⟨r, s, h, S, L, p⟩
    cases k with
    | zero => exact False.elim p
    | succ k =>
      simp only [whlL] at p
      refine PostS.ofU S L p fun r2 H2 h2 x y st2 S2 q2 p2 => ?_
      subst q2
      have L2 := L.step st2
      cases x with
      | false => exact p2 r2 H2 σ Step.refl S2 L2
      | true =>
        refine ⟨fun σ H => ∃ m', m' < k + 1 ∧ ∃ r s h, Sim G r h H ∧ SlR G r H s σ ∧ PostS G r H D EX (whlL (evT C i) (evSs C b) m' s h), fun σ' H' z => z, r2, s, h2, S2, L2, ?_⟩
        dsimp only at p2
        cases eb : evSs C b s h2 with
        | nx s3 h3 =>
          rw [eb] at p2
          intro r3 H3 σ3 st3 S3 L3
          exact ⟨k, Nat.lt_succ_self k, r3, s3, h3, S3, L3, PostS.step (x := whlL (evT C i) (evSs C b) k s3 h3) p2 st3⟩
        | ct s3 h3 =>
          rw [eb] at p2
          intro r3 H3 σ3 st3 S3 L3
          exact ⟨k, Nat.lt_succ_self k, r3, s3, h3, S3, L3, PostS.step (x := whlL (evT C i) (evSs C b) k s3 h3) p2 st3⟩
        | bk s3 h3 => rw [eb] at p2; exact p2
        | rt w h3 => rw [eb] at p2; exact p2
        | ex c fs s3 h3 => rw [eb] at p2; exact p2
        | no => rw [eb] at p2; exact p2
end
end Mi

set_option Elab.async false
set_option linter.all false
set_option maxRecDepth 100000
set_option maxHeartbeats 4000000
/-! The text's form against the syntax tree: a checker. -/
namespace Mi
open PySem PySem.Spec PyProof.Rows L2

mutual
def wEq : W → W → Bool
  | .non, .non => true
  | .bl a, .bl b => a == b
  | .int a, .int b => a == b
  | .str a, .str b => decide (a = b)
  | .tup a, .tup b => wsEq a b
  | .ref a, .ref b => a == b
  | .fn a, .fn b => a == b
  | .cl a, .cl b => a == b
  | _, _ => false
def wsEq : List W → List W → Bool
  | [], [] => true
  | a :: as, b :: bs => wEq a b && wsEq as bs
  | _, _ => false
end
mutual
theorem wEq_eq : ∀ {a b : W}, wEq a b = true → a = b
  | .non, b, h => by cases b <;> simp [wEq] at h; rfl
  | .bl x, b, h => by cases b <;> simp [wEq] at h; rw [h]
  | .int x, b, h => by cases b <;> simp [wEq] at h; rw [h]
  | .str x, b, h => by cases b <;> simp [wEq] at h; rw [h]
  | .tup x, b, h => by cases b <;> simp [wEq] at h; rw [wsEq_eq h]
  | .ref x, b, h => by cases b <;> simp [wEq] at h; rw [h]
  | .fn x, b, h => by cases b <;> simp [wEq] at h; rw [h]
  | .cl x, b, h => by cases b <;> simp [wEq] at h; rw [h]
theorem wsEq_eq : ∀ {a b : List W}, wsEq a b = true → a = b
  | [], b, h => by cases b <;> simp [wsEq] at h; rfl
  | x :: xs, b, h => by
    cases b <;> simp [wsEq] at h
    rw [wEq_eq h.1, wsEq_eq h.2]
end
/-- the module's tables -/
structure Tb where
  nm : List Str
  fn : List (Str × Nat)
  cl : List (Str × Nat)
  cs : List (Str × W)
  fr : List Str
  ms : List Nat
  isc : List Nat
def glB (Γ : Gm) (x : Str) : Bool := match Γ.sc.names.lookup x with
  | some .globalImplicit => true
  | _ => false
theorem glB_ok {Γ : Gm} {x : Str} (h : glB Γ x = true) : GL Γ x := by
  unfold glB at h
  split at h
  · assumption
  · cases h
def lcB (Γ : Gm) (x : Str) : Bool := match Γ.sc.names.lookup x with
  | some .local => true
  | _ => false
theorem lcB_ok {Γ : Gm} {x : Str} (h : lcB Γ x = true) : Γ.sc.names.lookup x = some .local := by
  unfold lcB at h
  split at h
  · assumption
  · cases h
def cstB : W → Const → Bool
  | .non, .none => true
  | .bl b, .bool c => b == c
  | .int i, .int j => i == j
  | .str x, .str y => decide (x = y)
  | _, _ => false
def bopOf : Operator → Option Bop
  | .Add => some .add | .Sub => some .sub | .Mult => some .mul | .FloorDiv => some .fdiv | .Mod => some .mod | .Pow => some .pow | .LShift => some .shl | .RShift => some .shr | .BitAnd => some .band | .BitOr => some .bor | .BitXor => some .bxor
  | _ => none
def bopB (o : Operator) (b : Bop) : Bool := decide (bopOf o = some b)
theorem bopB_ok {o : Operator} {b : Bop} (h : bopB o b = true) : o = bopA b := by
  simp only [bopB, decide_eq_true_eq] at h
  cases o <;> simp [bopOf] at h <;> subst h <;> rfl
def copOf : CmpOp → Cop
  | .Eq => .eq | .NotEq => .ne | .Lt => .lt | .LtE => .le | .Gt => .gt | .GtE => .ge | .Is => .is | .IsNot => .isn | .In => .isin | .NotIn => .nin
def copB (o : CmpOp) (b : Cop) : Bool := decide (copOf o = b)
theorem copB_ok {o : CmpOp} {b : Cop} (h : copB o b = true) : o = copA b := by
  simp only [copB, decide_eq_true_eq] at h
  subst h
  cases o <;> rfl
def isBool : Expr → Bool
  | .BoolOp .. => true
  | _ => false
def tyB (tb : Tb) (Γ : Gm) (t : Ty) (a : Expr) : Bool := match a with
  | .Name x _ => match t with
    | .own k => glB Γ x && nmOk x && decide (tb.cl.lookup x = some k) && tb.isc.contains k
    | .bi b => decide (x = btN b) && glB Γ x && tb.fr.contains x
  | _ => false
def tysB (tb : Tb) (Γ : Gm) : List Ty → List Expr → Bool
  | [], [] => true
  | t :: ts, a :: as => tyB tb Γ t a && tysB tb Γ ts as
  | _, _ => false
def ownP (Γ : Gm) (own : List Nat) : List (Str × Nat) := own.map fun i => ((Γ.N[i]?).getD Str.empty, i)
/-- a test that is no test of its own is its value's truth -/
def tB (t : Bool) (a : Expr) : Bool := !t || plainT a
def frB (tb : Tb) (Γ : Gm) (x : Str) : Bool := glB Γ x && tb.fr.contains x

mutual
def ckE (tb : Tb) : E → Bool → Gm → Expr → Bool
  | .cst w, t, Γ, a => tB t a && match a with
    | .Constant c _ _ => cstB w c
    | _ => false
  | .var i, t, Γ, a => tB t a && match a with
    | .Name x _ => decide (Γ.N[i]? = some x) && visB Γ.sc x && nmOk x
    | _ => false
  | .glo w, t, Γ, a => tB t a && match a with
    | .Name x _ => glB Γ x && nmOk x && (match tb.cs.lookup x with
      | some w' => wEq w w'
      | none => false)
    | _ => false
  | .bin op i j, t, Γ, a => tB t a && match a with
    | .BinOp x o y _ => bopB o op && ckE tb i false Γ x && ckE tb j false Γ y
    | _ => false
  | .neg i, t, Γ, a => tB t a && match a with
    | .UnaryOp .USub x _ => ckE tb i false Γ x
    | _ => false
  | .notE i, t, Γ, a => match a with
    | .UnaryOp .Not x _ => ckE tb i t Γ x
    | _ => false
  | .andE i j, t, Γ, a => match a with
    | .BoolOp .And (x :: y :: rest) p => ckE tb i t Γ x && (match rest with
      | [] => ckE tb j t Γ y
      | z :: r => ckE tb j t Γ (.BoolOp .And (y :: z :: r) p))
    | _ => false
  | .orE i j, t, Γ, a => match a with
    | .BoolOp .Or (x :: y :: rest) p => ckE tb i t Γ x && (match rest with
      | [] => ckE tb j t Γ y
      | z :: r => ckE tb j t Γ (.BoolOp .Or (y :: z :: r) p))
    | _ => false
  | .cmp op i j, t, Γ, a => match a with
    | .Compare x [o] [y] _ => copB o op && ckE tb i false Γ x && ckE tb j false Γ y && notSet y
    | _ => false
  | .cmp2 op op' i j k, t, Γ, a => match a with
    | .Compare x [o, o'] [y, z] _ => copB o op && copB o' op' && ckE tb i false Γ x && ckE tb j false Γ y && ckE tb k false Γ z && notSet z
    | _ => false
  | .ife c i j, t, Γ, a => !t && match a with
    | .IfExp z x y _ => ckE tb c true Γ z && ckE tb i false Γ x && ckE tb j false Γ y
    | _ => false
  | .fld i f, t, Γ, a => tB t a && match a with
    | .Attribute o x _ => decide (tb.nm[f]? = some x) && ckE tb i false Γ o && plainB o
    | _ => false
  | .ix i j, t, Γ, a => tB t a && match a with
    | .Subscript x y _ => ckE tb i false Γ x && ckE tb j false Γ y && notSlice y
    | _ => false
  | .rev i, t, Γ, a => tB t a && match a with
    | .Subscript x (.Slice none none (some (.UnaryOp .USub (.Constant (.int k) _ _) _)) _) _ => decide (k = 1) && ckE tb i false Γ x
    | _ => false
  | .slc i l u, t, Γ, a => tB t a && match a with
    | .Subscript x (.Slice lo hi none _) _ => ckE tb i false Γ x && ckO tb l Γ lo && ckO tb u Γ hi
    | _ => false
  | .lst es, t, Γ, a => tB t a && match a with
    | .List xs _ => ckEs tb es Γ xs
    | _ => false
  | .tup es, t, Γ, a => tB t a && match a with
    | .Tuple xs _ _ => ckEs tb es Γ xs
    | _ => false
  | .dic0, t, Γ, a => tB t a && match a with
    | .Dict [] [] _ => true
    | _ => false
  | .dic _ _, _, _, _ => false
  | .call k es pm, t, Γ, a => tB t a && match a with
    | .Call (.Name x _) xs [] _ => pm.isEmpty && decide (tb.fn.lookup x = some k) && glB Γ x && nmOk x && ckEs tb es Γ xs
    | _ => false
  | .make k es pm, t, Γ, a => tB t a && match a with
    | .Call (.Name x _) xs [] _ => pm.isEmpty && decide (tb.cl.lookup x = some k) && glB Γ x && nmOk x && ckEs tb es Γ xs
    | _ => false
  | .meth i f es pm, t, Γ, a => tB t a && match a with
    | .Call (.Attribute o x apos) xs [] pos => pm.isEmpty && decide (tb.nm[f]? = some x) && tb.ms.contains f && ckE tb i false Γ o && ckEs tb es Γ xs && plainB o && decide (xs.length < 29) && (apos.endLine == pos.line)
    | _ => false
  | .callv _ _, _, _, _ => false
  | .bc b es, t, Γ, a => tB t a && match a with
    | .Call (.Name x _) (y :: ys) [] _ => decide (x = bcN b) && frB tb Γ x && ckEs tb es Γ (y :: ys)
    | _ => false
  | .bm b i es, t, Γ, a => tB t a && match a with
    | .Call (.Attribute o x apos) xs [] pos => decide (x = bmN b) && ckE tb i false Γ o && ckEs tb es Γ xs && plainB o && decide (xs.length < 29) && (apos.endLine == pos.line) && (match b with
      | .pop0 => xs.isEmpty
      | .remove1 => false
      | _ => !xs.isEmpty)
    | _ => false
  | .isi i tp ts, t, Γ, a => tB t a && match a with
    | .Call (.Name x _) [y, z] [] _ => decide (x = "isinstance") && frB tb Γ x && ckE tb i false Γ y && notStar y && (match tp with
      | false => tysB tb Γ ts [z]
      | true => match z with
        | .Tuple zs _ _ => tysB tb Γ ts zs && decide (ts.length ≤ 64) && !ts.isEmpty
        | _ => false)
    | _ => false
  | .rngL tp (.cons i .nil), t, Γ, a => tB t a && match a with
    | .Call (.Name x _) [.Call (.Name y _) [z] [] _] [] _ => decide (x = if tp then "tuple" else "list") && decide (y = "range") && frB tb Γ x && frB tb Γ y && ckE tb i false Γ z && notStar z
    | _ => false
  | .rngL tp (.cons i (.cons j .nil)), t, Γ, a => tB t a && match a with
    | .Call (.Name x _) [.Call (.Name y _) [z, z'] [] _] [] _ => decide (x = if tp then "tuple" else "list") && decide (y = "range") && frB tb Γ x && frB tb Γ y && ckE tb i false Γ z && notStar z && ckE tb j false Γ z' && notStar z'
    | _ => false
  | .rngL _ _, _, _, _ => false
  | .sset _, _, _, _ => false
  | .comp el tg it cd own, t, Γ, a => tB t a && match a with
    | .ListComp elt [⟨x, iter, ifs, as⟩] scope _ => (as == 0) && blkC Γ.N Γ.sc scope (ownP Γ own) && (tgIx tg).all (fun i => own.contains i) && ckI tb it Γ x iter && ckG tb tg (Γ.blk scope) x && ckC tb cd (Γ.blk scope) ifs && ckE tb el false (Γ.blk scope) elt
    | _ => false
def ckEs (tb : Tb) : Es → Gm → List Expr → Bool
  | .nil, _, xs => xs.isEmpty
  | .cons e es, Γ, xs => match xs with
    | x :: xs => ckE tb e false Γ x && ckEs tb es Γ xs && notStar x
    | [] => false
def ckO (tb : Tb) : Eo → Gm → Option Expr → Bool
  | .none, _, x => x.isNone
  | .some e, Γ, x => match x with
    | some a => ckE tb e false Γ a
    | none => false
def ckC (tb : Tb) : Eo → Gm → List Expr → Bool
  | .none, _, xs => xs.isEmpty
  | .some e, Γ, xs => match xs with
    | [x] => ckE tb e true Γ x
    | _ => false
def ckI (tb : Tb) : It → Gm → Expr → Expr → Bool
  | .seq e, Γ, _, a => ckE tb e false Γ a && notSet a
  | .rng1 e, Γ, _, a => match a with
    | .Call (.Name x _) [y] [] _ => decide (x = "range") && frB tb Γ x && ckE tb e false Γ y && notStar y
    | _ => false
  | .rng2 e e', Γ, _, a => match a with
    | .Call (.Name x _) [y, z] [] _ => decide (x = "range") && frB tb Γ x && ckE tb e false Γ y && notStar y && ckE tb e' false Γ z && notStar z
    | _ => false
  | .enm e, Γ, tg, a => match tg with
    | .Tuple _ _ _ => (match a with
      | .Call (.Name x _) [y] [] _ => decide (x = "enumerate") && frB tb Γ x && ckE tb e false Γ y && notStar y
      | _ => false)
    | _ => false
  | .zip e e', Γ, tg, a => match tg with
    | .Tuple _ _ _ => (match a with
      | .Call (.Name x _) [y, z] [] _ => decide (x = "zip") && frB tb Γ x && ckE tb e false Γ y && notStar y && ckE tb e' false Γ z && notStar z
      | _ => false)
    | _ => false
def ckG (tb : Tb) : Tg → Gm → Expr → Bool
  | .name i, Γ, a => match a with
    | .Name x _ => decide (Γ.N[i]? = some x) && locB Γ x
    | _ => false
  | .tup ts, Γ, a => match a with
    | .Tuple xs _ _ => ckGs tb ts Γ xs
    | _ => false
  | .sub o i, Γ, a => match a with
    | .Subscript x y _ => ckE tb o false Γ x && ckE tb i false Γ y && notSlice y
    | _ => false
  | .fld _ _, _, _ => false
  | .slc _ _ _, _, _ => false
def ckGs (tb : Tb) : Tgs → Gm → List Expr → Bool
  | .nil, _, xs => xs.isEmpty
  | .cons t ts, Γ, xs => match xs with
    | x :: xs => ckG tb t Γ x && ckGs tb ts Γ xs
    | [] => false
end
/-- name = [..] on one line -/
def setC (tb : Tb) (Γ : Gm) (t : Tg) (i : E) (x a : Expr) : Bool := match t with
  | .name k => (match i with
    | .comp el tg it cd own => (match x with
      | .Name y py => (match a with
        | .ListComp elt [⟨z, iter, ifs, as⟩] scope pos => (as == 0) && decide (Γ.N[k]? = some y) && lcB Γ y && (py.line == pos.line) && !(scope.names.any fun (n, k) => n == y && (k == .local || k == .cell)) &&
          blkC Γ.N Γ.sc scope (ownP Γ own) && (tgIx tg).all (fun i => own.contains i) && ckI tb it Γ z iter && ckG tb tg (Γ.blk scope) z && ckC tb cd (Γ.blk scope) ifs && ckE tb el false (Γ.blk scope) elt
        | _ => false)
      | _ => false)
    | _ => false)
  | _ => false
def asgC (tb : Tb) (Γ : Gm) (t : Tg) (i : E) (x a : Expr) : Bool := match t with
  | .fld o f => match x with
    | .Attribute y n _ => decide (tb.nm[f]? = some n) && ckE tb o false Γ y && ckE tb i false Γ a
    | _ => false
  | t => setC tb Γ t i x a || (ckG tb t Γ x && ckE tb i false Γ a && noComp a && noSwapS Γ.sc x a)
def nmB (Γ : Gm) (i : Nat) (x : Str) : Bool := decide (Γ.N[i]? = some x) && lcB Γ x
def parC (tb : Tb) (Γ : Gm) (is : List Nat) (es : Es) (x a : Expr) : Bool := match x, a with
  | .Tuple [.Name x px, .Name y py] _ _, .Tuple [a, b] _ _ => (match is, es with
    | [i, j], .cons u (.cons v .nil) => nmB Γ i x && nmB Γ j y && decide (i ≠ j) && ckE tb u false Γ a && ckE tb v false Γ b && notStar a && notStar b && parB Γ.sc [.Name x px, .Name y py] [a, b] && decide (py.line = px.line)
    | _, _ => false)
  | .Tuple [.Name x px, .Name y py, .Name z pz] _ _, .Tuple [a, b, c] _ _ => (match is, es with
    | [i, j, k], .cons u (.cons v (.cons w .nil)) => nmB Γ i x && nmB Γ j y && nmB Γ k z && decide (i ≠ j) && decide (i ≠ k) && decide (j ≠ k) && ckE tb u false Γ a && ckE tb v false Γ b && ckE tb w false Γ c && notStar a && notStar b && notStar c &&
        parB Γ.sc [.Name x px, .Name y py, .Name z pz] [a, b, c] && decide (py.line = px.line) && decide (pz.line = px.line)
    | _, _ => false)
  | _, _ => false
mutual
def ckS (tb : Tb) : Mi.S → Gm → Stmt → Bool
  | .expr e, Γ, a => match a with
    | .Expr x _ => ckE tb e false Γ x && noComp x
    | _ => false
  | .asg t e, Γ, a => match a with
    | .Assign [x] y _ => asgC tb Γ t e x y
    | _ => false
  | .par is es, Γ, a => match a with
    | .Assign [x] y _ => parC tb Γ is es x y
    | _ => false
  | .ret e, Γ, a => match a with
    | .Return (some x) _ => ckE tb e false Γ x
    | _ => false
  | .retN, _, a => match a with
    | .Return none _ => true
    | _ => false
  | .pass, _, a => match a with
    | .Pass _ => true
    | .Expr (.Constant (.str _) _ _) _ => true
    | _ => false
  | .brk, _, a => match a with
    | .Break _ => true
    | _ => false
  | .cont, _, a => match a with
    | .Continue _ => true
    | _ => false
  | .never, _, _ => true
  | .ifS c x y, Γ, a => match a with
    | .If z p q _ => ckE tb c true Γ z && ckSs tb x Γ p && ckSs tb y Γ q
    | _ => false
  | .whl c x, Γ, a => match a with
    | .While z p [] _ => ckE tb c true Γ z && ckSs tb x Γ p
    | _ => false
  | .forS t it x, Γ, a => match a with
    | .For y z p [] _ => ckG tb t Γ y && ckI tb it Γ y z && ckSs tb x Γ p
    | _ => false
def ckSs (tb : Tb) : Ss → Gm → List Stmt → Bool
  | .nil, _, xs => xs.isEmpty
  | .cons .never _, _, _ => true
  | .cons e es, Γ, xs => match xs with
    | x :: xs => ckS tb e Γ x && ckSs tb es Γ xs
    | [] => false
end
end Mi

set_option Elab.async false
set_option linter.all false
set_option maxRecDepth 100000
set_option maxHeartbeats 4000000
/-! The checker is sound. -/
namespace Mi
open PySem PySem.Spec PyProof.Rows L2

structure TbF (G : Gx) (C : Cal) (n : Nat) (tb : Tb) : Prop where
  cs : CsF G C n
  ne : NoEq C
  nm : G.nm = tb.nm
  fnF : ∀ x k, tb.fn.lookup x = some k → k < n ∧ G.mg x = some (.ref (G.fa k))
  clF : ∀ x c, tb.cl.lookup x = some c → G.mg x = some (.ref (G.ca c)) ∧ ∃ q, C.cs[c]? = some q
  csF : ∀ x w, tb.cs.lookup x = some w → GlV G x w
  frF : ∀ x, tb.fr.contains x = true → G.mg x = none
  msF : ∀ f, tb.ms.contains f = true → ∃ (c : Nat) (q : ClsI) (k : Nat), C.cs[c]? = some q ∧ q.ms.lookup f = some k
  isF : ∀ c, tb.isc.contains c = true → IsiF G c
def Snd (G : Gx) (EX : XK) (C : Cal) (Γ : Gm) (m : Nat) (a : Expr) (e : E) : Bool → Prop
  | false => SE G EX C Γ m a e
  | true => STt G EX C Γ m a e ∧ (isBool a = true → SW G EX C Γ m a e)
section
variable {G : Gx} {EX : XK} {C : Cal} {Γ : Gm} {m l n : Nat} {tb : Tb}
theorem plain_bool {a : Expr} (h : plainT a = true) : isBool a = false := by cases a <;> first | rfl | cases h
theorem snd_of {t : Bool} {a : Expr} {e : E} (ht : tB t a = true) (h : SE G EX C Γ m a e) (he : ∀ s h, evT C e s h = evTru C e s h) : Snd G EX C Γ m a e t := by
  cases t with
  | false => exact h
  | true =>
    have hp : plainT a = true := by simpa [tB] using ht
    exact ⟨st_tru h hp he, fun hb => by rw [plain_bool hp] at hb; cases hb⟩
theorem frB_ok (F : TbF G C n tb) {x : Str} (h : frB tb Γ x = true) : GL Γ x ∧ G.mg x = none := by
  simp only [frB, Bool.and_eq_true] at h
  exact ⟨glB_ok h.1, F.frF x h.2⟩
theorem tyB_ok (F : TbF G C n tb) {t : Ty} {a : Expr} (h : tyB tb Γ t a = true) : STy G Γ m a t ∧ ∀ c, t = .own c → IsiF G c := by
  unfold tyB at h
  split at h
  · split at h
    · simp only [Bool.and_eq_true, decide_eq_true_eq] at h
      exact ⟨sy_own (glB_ok h.1.1.1) h.1.1.2 (F.clF _ _ h.1.2).1, fun c e => by cases e; exact F.isF _ h.2⟩
    · simp only [Bool.and_eq_true, decide_eq_true_eq] at h
      obtain ⟨⟨rfl, h2⟩, h3⟩ := h
      exact ⟨sy_bi (glB_ok h2) (F.frF _ h3), fun c e => by cases e⟩
  · cases h
theorem tysB_ok (F : TbF G C n tb) : ∀ {ts : List Ty} {as : List Expr}, tysB tb Γ ts as = true → STys G Γ m as ts ∧ ∀ c, Ty.own c ∈ ts → IsiF G c
  | [], [], _ => ⟨.nil, fun c h => by cases h⟩
  | [], _ :: _, h => by simp [tysB] at h
  | _ :: _, [], h => by simp [tysB] at h
  | t :: ts, a :: as, h => by
    simp only [tysB, Bool.and_eq_true] at h
    obtain ⟨a1, a2⟩ := tyB_ok F h.1
    obtain ⟨b1, b2⟩ := tysB_ok F h.2
    refine ⟨.cons a1 b1, fun c hc => ?_⟩
    rcases List.mem_cons.mp hc with e | e
    · exact a2 c e.symm
    · exact b2 c e
theorem ownP_snd (own : List Nat) : (ownP Γ own).map (·.2) = own := by
  unfold ownP
  induction own with
  | nil => rfl
  | cons a t ih => simp only [List.map_cons, ih]
end
section
variable {G : Gx} {EX : XK} {C : Cal} {m l n : Nat} {tb : Tb}
mutual
theorem ckE_ok (F : TbF G C n tb) (hc : COk G C l n) (hl : l + 1 ≤ m) : ∀ (e : E) (t : Bool) (Γ : Gm) (a : Expr), ckE tb e t Γ a = true → Snd G EX C Γ m a e t
  | .cst w, t, Γ, a, h => by
    simp only [ckE, Bool.and_eq_true] at h
    refine snd_of h.1 ?_ fun s h => by simp only [evT]; rfl
    obtain ⟨_, h⟩ := h
    split at h
    · rename_i c k p
      unfold cstB at h
      split at h
      · exact se_non
      · have := beq_iff_eq.mp h; subst this; exact se_bl
      · have := beq_iff_eq.mp h; subst this; exact se_int
      · have := of_decide_eq_true h; subst this; exact se_str
      · cases h
    · cases h
  | .var i, t, Γ, a, h => by
    simp only [ckE, Bool.and_eq_true] at h
    refine snd_of h.1 ?_ fun s h => by simp only [evT]; rfl
    obtain ⟨_, h⟩ := h
    split at h
    · simp only [Bool.and_eq_true, decide_eq_true_eq] at h
      exact se_var h.1.1 h.1.2 h.2
    · cases h
  | .glo w, t, Γ, a, h => by
    simp only [ckE, Bool.and_eq_true] at h
    refine snd_of h.1 ?_ fun s h => by simp only [evT]; rfl
    obtain ⟨_, h⟩ := h
    split at h
    · simp only [Bool.and_eq_true] at h
      obtain ⟨⟨h1, h2⟩, h3⟩ := h
      split at h3
      · rename_i w' ew
        have := wEq_eq h3
        subst this
        exact se_glo (glB_ok h1) h2 (F.csF _ _ ew)
      · cases h3
    · cases h
  | .bin op i j, t, Γ, a, h => by
    simp only [ckE, Bool.and_eq_true] at h
    refine snd_of h.1 ?_ fun s h => by simp only [evT]; rfl
    obtain ⟨_, h⟩ := h
    split at h
    · simp only [Bool.and_eq_true] at h
      rw [bopB_ok h.1.1]
      exact se_bin (ckE_ok F hc hl i false Γ _ h.1.2) (ckE_ok F hc hl j false Γ _ h.2)
    · cases h
  | .neg i, t, Γ, a, h => by
    simp only [ckE, Bool.and_eq_true] at h
    refine snd_of h.1 ?_ fun s h => by simp only [evT]; rfl
    obtain ⟨_, h⟩ := h
    split at h
    · exact se_neg (ckE_ok F hc hl i false Γ _ h)
    · cases h
  | .notE i, t, Γ, a, h => by
    simp only [ckE] at h
    split at h
    · cases t with
      | false => exact se_not (ckE_ok F hc hl i false Γ _ h)
      | true => exact ⟨st_not (ckE_ok F hc hl i true Γ _ h).1, fun z => by cases z⟩
    · cases h
  | .andE i j, t, Γ, a, h => by
    simp only [ckE] at h
    split at h
    · rename_i x y rest p
      simp only [Bool.and_eq_true] at h
      obtain ⟨h1, h2⟩ := h
      have r1 := ckE_ok F hc hl i t Γ _ h1
      cases rest with
      | nil =>
        have r2 := ckE_ok F hc hl j t Γ _ h2
        cases t with
        | false => exact se_and r1 (se_one r2)
        | true =>
          have w := sw_and (p := p) r1.1 (sw_and1 r2.1)
          exact ⟨w.pt, fun _ => w⟩
      | cons z r =>
        have r2 := ckE_ok F hc hl j t Γ _ h2
        cases t with
        | false => exact se_and r1 r2
        | true =>
          have w := sw_and (p := p) r1.1 (r2.2 rfl)
          exact ⟨w.pt, fun _ => w⟩
    · cases h
  | .orE i j, t, Γ, a, h => by
    simp only [ckE] at h
    split at h
    · rename_i x y rest p
      simp only [Bool.and_eq_true] at h
      obtain ⟨h1, h2⟩ := h
      have r1 := ckE_ok F hc hl i t Γ _ h1
      cases rest with
      | nil =>
        have r2 := ckE_ok F hc hl j t Γ _ h2
        cases t with
        | false => exact se_or r1 (se_one r2)
        | true =>
          have w := sw_or (p := p) r1.1 (sw_or1 r2.1)
          exact ⟨w.pt, fun _ => w⟩
      | cons z r =>
        have r2 := ckE_ok F hc hl j t Γ _ h2
        cases t with
        | false => exact se_or r1 r2
        | true =>
          have w := sw_or (p := p) r1.1 (r2.2 rfl)
          exact ⟨w.pt, fun _ => w⟩
    · cases h
  | .cmp op i j, t, Γ, a, h => by
    simp only [ckE] at h
    split at h
    · simp only [Bool.and_eq_true] at h
      obtain ⟨⟨⟨h1, h2⟩, h3⟩, h4⟩ := h
      rw [copB_ok h1]
      have r1 : SE G EX C Γ m _ i := ckE_ok F hc hl i false Γ _ h2
      have r2 : SE G EX C Γ m _ j := ckE_ok F hc hl j false Γ _ h3
      cases t with
      | false => exact se_cmp F.ne r1 r2 h4
      | true => exact ⟨st_cmp F.ne r1 r2 h4, fun z => by cases z⟩
    · cases h
  | .cmp2 op op' i j k, t, Γ, a, h => by
    simp only [ckE] at h
    split at h
    · simp only [Bool.and_eq_true] at h
      obtain ⟨⟨⟨⟨⟨h1, h2⟩, h3⟩, h4⟩, h5⟩, h6⟩ := h
      rw [copB_ok h1, copB_ok h2]
      have r1 : SE G EX C Γ m _ i := ckE_ok F hc hl i false Γ _ h3
      have r2 : SE G EX C Γ m _ j := ckE_ok F hc hl j false Γ _ h4
      have r3 : SE G EX C Γ m _ k := ckE_ok F hc hl k false Γ _ h5
      cases t with
      | false => exact se_cmp2 F.ne r1 r2 r3 h6
      | true => exact ⟨st_cmp2 F.ne r1 r2 r3 h6, fun z => by cases z⟩
    · cases h
  | .ife c i j, t, Γ, a, h => by
    simp only [ckE, Bool.and_eq_true, Bool.not_eq_true'] at h
    obtain ⟨rfl, h⟩ := h
    split at h
    · simp only [Bool.and_eq_true] at h
      exact se_ife (ckE_ok F hc hl c true Γ _ h.1.1).1 (ckE_ok F hc hl i false Γ _ h.1.2) (ckE_ok F hc hl j false Γ _ h.2)
    · cases h
  | .fld i f, t, Γ, a, h => by
    simp only [ckE, Bool.and_eq_true] at h
    refine snd_of h.1 ?_ fun s h => by simp only [evT]; rfl
    obtain ⟨_, h⟩ := h
    split at h
    · simp only [Bool.and_eq_true, decide_eq_true_eq] at h
      exact se_fld hc F.cs (by rw [F.nm]; exact h.1.1) hl (ckE_ok F hc hl i false Γ _ h.1.2) h.2
    · cases h
  | .ix i j, t, Γ, a, h => by
    simp only [ckE, Bool.and_eq_true] at h
    refine snd_of h.1 ?_ fun s h => by simp only [evT]; rfl
    obtain ⟨_, h⟩ := h
    split at h
    · simp only [Bool.and_eq_true] at h
      exact se_ix (ckE_ok F hc hl i false Γ _ h.1.1) (ckE_ok F hc hl j false Γ _ h.1.2) h.2
    · cases h
  | .rev i, t, Γ, a, h => by
    simp only [ckE, Bool.and_eq_true] at h
    refine snd_of h.1 ?_ fun s h => by simp only [evT]; rfl
    obtain ⟨_, h⟩ := h
    split at h
    · simp only [Bool.and_eq_true, decide_eq_true_eq] at h
      obtain ⟨rfl, h⟩ := h
      exact se_rev (ckE_ok F hc hl i false Γ _ h)
    · cases h
  | .slc i lo u, t, Γ, a, h => by
    simp only [ckE, Bool.and_eq_true] at h
    refine snd_of h.1 ?_ fun s h => by simp only [evT]; rfl
    obtain ⟨_, h⟩ := h
    split at h
    · simp only [Bool.and_eq_true] at h
      exact se_slc (ckE_ok F hc hl i false Γ _ h.1.1) (ckO_ok F hc hl lo Γ _ h.1.2) (ckO_ok F hc hl u Γ _ h.2)
    · cases h
  | .lst es, t, Γ, a, h => by
    simp only [ckE, Bool.and_eq_true] at h
    refine snd_of h.1 ?_ fun s h => by simp only [evT]; rfl
    obtain ⟨_, h⟩ := h
    split at h
    · exact se_lst (ckEs_ok F hc hl es Γ _ h)
    · cases h
  | .tup es, t, Γ, a, h => by
    simp only [ckE, Bool.and_eq_true] at h
    refine snd_of h.1 ?_ fun s h => by simp only [evT]; rfl
    obtain ⟨_, h⟩ := h
    split at h
    · exact se_tup (ckEs_ok F hc hl es Γ _ h)
    · cases h
  | .dic0, t, Γ, a, h => by
    simp only [ckE, Bool.and_eq_true] at h
    refine snd_of h.1 ?_ fun s h => by simp only [evT]; rfl
    obtain ⟨_, h⟩ := h
    split at h
    · exact se_dic0
    · cases h
  | .dic _ _, t, Γ, a, h => by simp [ckE] at h
  | .call k es pm, t, Γ, a, h => by
    simp only [ckE, Bool.and_eq_true] at h
    refine snd_of h.1 ?_ fun s h => by simp only [evT]; rfl
    obtain ⟨_, h⟩ := h
    split at h
    · simp only [Bool.and_eq_true, decide_eq_true_eq, List.isEmpty_iff] at h
      obtain ⟨⟨⟨⟨rfl, h1⟩, h2⟩, h3⟩, h4⟩ := h
      obtain ⟨z1, z2⟩ := F.fnF _ _ h1
      exact se_call hc (by omega) z1 (ckEs_ok F hc hl es Γ _ h4) (glB_ok h2) h3 z2
    · cases h
  | .make k es pm, t, Γ, a, h => by
    simp only [ckE, Bool.and_eq_true] at h
    refine snd_of h.1 ?_ fun s h => by simp only [evT]; rfl
    obtain ⟨_, h⟩ := h
    split at h
    · simp only [Bool.and_eq_true, decide_eq_true_eq, List.isEmpty_iff] at h
      obtain ⟨⟨⟨⟨rfl, h1⟩, h2⟩, h3⟩, h4⟩ := h
      obtain ⟨z2, q, z1⟩ := F.clF _ _ h1
      exact se_make hc F.cs z1 hl (ckEs_ok F hc hl es Γ _ h4) (glB_ok h2) h3 z2
    · cases h
  | .meth i f es pm, t, Γ, a, h => by
    simp only [ckE, Bool.and_eq_true] at h
    refine snd_of h.1 ?_ fun s h => by simp only [evT]; rfl
    obtain ⟨_, h⟩ := h
    split at h
    · simp only [Bool.and_eq_true, decide_eq_true_eq, List.isEmpty_iff] at h
      obtain ⟨⟨⟨⟨⟨⟨⟨rfl, h1⟩, h2⟩, h3⟩, h4⟩, h5⟩, h6⟩, h7⟩ := h
      exact se_meth hc F.cs (F.msF f h2) (by rw [F.nm]; exact h1) (by omega) (ckE_ok F hc hl i false Γ _ h3) (ckEs_ok F hc hl es Γ _ h4) h5 h6 h7
    · cases h
  | .callv _ _, t, Γ, a, h => by simp [ckE] at h
  | .bc b es, t, Γ, a, h => by
    simp only [ckE, Bool.and_eq_true] at h
    refine snd_of h.1 ?_ fun s h => by simp only [evT]; rfl
    obtain ⟨_, h⟩ := h
    split at h
    · simp only [Bool.and_eq_true, decide_eq_true_eq] at h
      obtain ⟨⟨rfl, h2⟩, h3⟩ := h
      obtain ⟨z1, z2⟩ := frB_ok F h2
      exact se_bc (ckEs_ok F hc hl es Γ _ h3) z1 z2
    · cases h
  | .bm b i es, t, Γ, a, h => by
    simp only [ckE, Bool.and_eq_true] at h
    refine snd_of h.1 ?_ fun s h => by simp only [evT]; rfl
    obtain ⟨_, h⟩ := h
    split at h
    · rename_i o x apos xs pos _
      simp only [Bool.and_eq_true, decide_eq_true_eq] at h
      obtain ⟨⟨⟨⟨⟨⟨rfl, h2⟩, h3⟩, h4⟩, h5⟩, h6⟩, h7⟩ := h
      have r1 : SE G EX C Γ m _ i := ckE_ok F hc hl i false Γ _ h2
      have r2 : SEs' G EX C Γ m _ es := ckEs_ok F hc hl es Γ _ h3
      cases b with
      | append1 =>
        cases xs with
        | nil => cases h7
        | cons y ys => exact se_append r1 r2 h4 h5 h6
      | insert2 =>
        cases xs with
        | nil => cases h7
        | cons y ys => exact se_insert r1 r2 h4 h5 h6
      | pop0 =>
        have := List.isEmpty_iff.mp h7
        subst this
        have e := r2.nil rfl
        subst e
        exact se_pop0 r1 h4 h6
      | pop1 =>
        cases xs with
        | nil => cases h7
        | cons y ys => exact se_pop1 r1 r2 h4 h5 h6
      | remove1 => cases h7
    · cases h
  | .isi i tp ts, t, Γ, a, h => by
    simp only [ckE, Bool.and_eq_true] at h
    refine snd_of h.1 ?_ fun s h => by simp only [evT]; rfl
    obtain ⟨_, h⟩ := h
    split at h
    · simp only [Bool.and_eq_true, decide_eq_true_eq] at h
      obtain ⟨⟨⟨⟨rfl, h2⟩, h3⟩, h4⟩, h5⟩ := h
      obtain ⟨z1, z2⟩ := frB_ok F h2
      have r1 : SE G EX C Γ m _ i := ckE_ok F hc hl i false Γ _ h3
      cases tp with
      | false =>
        obtain ⟨y1, y2⟩ := tysB_ok (m := m) F h5
        cases y1 with
        | cons y1 y3 =>
          cases y3
          exact se_isi1 r1 h4 y1 y2 z1 z2
      | true =>
        dsimp only at h5
        split at h5
        · simp only [Bool.and_eq_true, decide_eq_true_eq, Bool.not_eq_true', List.isEmpty_eq_false_iff] at h5
          obtain ⟨y1, y2⟩ := tysB_ok (m := m) F h5.1.1
          exact se_isiT r1 h4 y1 h5.2 h5.1.2 y2 z1 z2
        · cases h5
    · cases h
  | .rngL tp .nil, t, Γ, a, h => by simp [ckE] at h
  | .rngL tp (.cons i .nil), t, Γ, a, h => by
    simp only [ckE, Bool.and_eq_true] at h
    refine snd_of h.1 ?_ fun s h => by simp only [evT]; rfl
    obtain ⟨_, h⟩ := h
    split at h
    · simp only [Bool.and_eq_true, decide_eq_true_eq] at h
      obtain ⟨⟨⟨⟨⟨e1, e2⟩, h2⟩, h3⟩, h4⟩, h5⟩ := h
      subst e2
      have r1 : SE G EX C Γ m _ i := ckE_ok F hc hl i false Γ _ h4
      obtain ⟨z1, z2⟩ := frB_ok F h2
      obtain ⟨z3, z4⟩ := frB_ok F h3
      cases tp with
      | false => subst e1; exact se_listR1 r1 h5 z3 z4 z1 z2
      | true => subst e1; exact se_tupR1 r1 h5 z3 z4 z1 z2
    · cases h
  | .rngL tp (.cons i (.cons j .nil)), t, Γ, a, h => by
    simp only [ckE, Bool.and_eq_true] at h
    refine snd_of h.1 ?_ fun s h => by simp only [evT]; rfl
    obtain ⟨_, h⟩ := h
    split at h
    · simp only [Bool.and_eq_true, decide_eq_true_eq] at h
      obtain ⟨⟨⟨⟨⟨⟨⟨e1, e2⟩, h2⟩, h3⟩, h4⟩, h5⟩, h6⟩, h7⟩ := h
      subst e2
      have r1 : SE G EX C Γ m _ i := ckE_ok F hc hl i false Γ _ h4
      have r2 : SE G EX C Γ m _ j := ckE_ok F hc hl j false Γ _ h6
      obtain ⟨z1, z2⟩ := frB_ok F h2
      obtain ⟨z3, z4⟩ := frB_ok F h3
      cases tp with
      | false => subst e1; exact se_listR2 r1 r2 h5 h7 z3 z4 z1 z2
      | true => subst e1; exact se_tupR2 r1 r2 h5 h7 z3 z4 z1 z2
    · cases h
  | .rngL tp (.cons i (.cons j (.cons k es))), t, Γ, a, h => by simp [ckE] at h
  | .sset _, t, Γ, a, h => by simp [ckE] at h
  | .comp el tg it cd own, t, Γ, a, h => by
    simp only [ckE, Bool.and_eq_true] at h
    refine snd_of h.1 ?_ fun s h => by simp only [evT]; rfl
    obtain ⟨_, h⟩ := h
    split at h
    · simp only [Bool.and_eq_true, beq_iff_eq] at h
      obtain ⟨⟨⟨⟨⟨⟨rfl, h1⟩, h2⟩, h3⟩, h4⟩, h5⟩, h6⟩ := h
      have e := ownP_snd (Γ := Γ) own
      have := se_comp (EX := EX) (C := C) (m := m) (G := G) (own := ownP Γ own) (pos := by assumption) h1 (by rw [e]; exact h2) (ckI_ok F hc hl it Γ _ _ h3) (ckG_ok F hc hl tg _ _ h4) (ckC_ok F hc hl cd _ _ h5) (ckE_ok F hc hl el false _ _ h6)
      rw [e] at this
      exact this
    · cases h
theorem ckEs_ok (F : TbF G C n tb) (hc : COk G C l n) (hl : l + 1 ≤ m) : ∀ (e : Es) (Γ : Gm) (a : List Expr), ckEs tb e Γ a = true → SEs' G EX C Γ m a e
  | .nil, Γ, a, h => by
    simp only [ckEs, List.isEmpty_iff] at h
    subst h
    exact ss_nil
  | .cons e es, Γ, a, h => by
    simp only [ckEs] at h
    split at h
    · simp only [Bool.and_eq_true] at h
      exact ss_cons (ckE_ok F hc hl e false Γ _ h.1.1) (ckEs_ok F hc hl es Γ _ h.1.2) h.2
    · cases h
theorem ckO_ok (F : TbF G C n tb) (hc : COk G C l n) (hl : l + 1 ≤ m) : ∀ (e : Eo) (Γ : Gm) (a : Option Expr), ckO tb e Γ a = true → SO G EX C Γ m a e
  | .none, Γ, a, h => by
    simp only [ckO, Option.isNone_iff_eq_none] at h
    subst h
    exact so_none
  | .some e, Γ, a, h => by
    simp only [ckO] at h
    split at h
    · exact so_some (ckE_ok F hc hl e false Γ _ h)
    · cases h
theorem ckC_ok (F : TbF G C n tb) (hc : COk G C l n) (hl : l + 1 ≤ m) : ∀ (e : Eo) (Γ : Gm) (a : List Expr), ckC tb e Γ a = true → SC G EX C Γ m a e
  | .none, Γ, a, h => by
    simp only [ckC, List.isEmpty_iff] at h
    subst h
    exact sc_none
  | .some e, Γ, a, h => by
    simp only [ckC] at h
    split at h
    · exact sc_some (ckE_ok F hc hl e true Γ _ h).1
    · cases h
theorem ckI_ok (F : TbF G C n tb) (hc : COk G C l n) (hl : l + 1 ≤ m) : ∀ (e : It) (Γ : Gm) (tg a : Expr), ckI tb e Γ tg a = true → SI G EX C Γ m tg a e
  | .seq e, Γ, tg, a, h => by
    simp only [ckI, Bool.and_eq_true] at h
    exact si_seq (ckE_ok F hc hl e false Γ _ h.1) h.2
  | .rng1 e, Γ, tg, a, h => by
    simp only [ckI] at h
    split at h
    · simp only [Bool.and_eq_true, decide_eq_true_eq] at h
      obtain ⟨⟨⟨rfl, h2⟩, h3⟩, h4⟩ := h
      obtain ⟨z1, z2⟩ := frB_ok F h2
      exact si_rng1 (ckE_ok F hc hl e false Γ _ h3) h4 z1 z2
    · cases h
  | .rng2 e e', Γ, tg, a, h => by
    simp only [ckI] at h
    split at h
    · simp only [Bool.and_eq_true, decide_eq_true_eq] at h
      obtain ⟨⟨⟨⟨⟨rfl, h2⟩, h3⟩, h4⟩, h5⟩, h6⟩ := h
      obtain ⟨z1, z2⟩ := frB_ok F h2
      exact si_rng2 (ckE_ok F hc hl e false Γ _ h3) (ckE_ok F hc hl e' false Γ _ h5) h4 h6 z1 z2
    · cases h
  | .enm e, Γ, tg, a, h => by
    simp only [ckI] at h
    split at h
    · split at h
      · simp only [Bool.and_eq_true, decide_eq_true_eq] at h
        obtain ⟨⟨⟨rfl, h2⟩, h3⟩, h4⟩ := h
        obtain ⟨z1, z2⟩ := frB_ok F h2
        exact si_enm (ckE_ok F hc hl e false Γ _ h3) h4 z1 z2
      · cases h
    · cases h
  | .zip e e', Γ, tg, a, h => by
    simp only [ckI] at h
    split at h
    · split at h
      · simp only [Bool.and_eq_true, decide_eq_true_eq] at h
        obtain ⟨⟨⟨⟨⟨rfl, h2⟩, h3⟩, h4⟩, h5⟩, h6⟩ := h
        obtain ⟨z1, z2⟩ := frB_ok F h2
        exact si_zip (ckE_ok F hc hl e false Γ _ h3) (ckE_ok F hc hl e' false Γ _ h5) h4 h6 z1 z2
      · cases h
    · cases h
theorem ckG_ok (F : TbF G C n tb) (hc : COk G C l n) (hl : l + 1 ≤ m) : ∀ (e : Tg) (Γ : Gm) (a : Expr), ckG tb e Γ a = true → SG G EX C Γ m a e
  | .name i, Γ, a, h => by
    simp only [ckG] at h
    split at h
    · simp only [Bool.and_eq_true, decide_eq_true_eq] at h
      exact sg_name h.1 h.2
    · cases h
  | .tup ts, Γ, a, h => by
    simp only [ckG] at h
    split at h
    · exact sg_tup (ckGs_ok F hc hl ts Γ _ h)
    · cases h
  | .sub o i, Γ, a, h => by
    simp only [ckG] at h
    split at h
    · simp only [Bool.and_eq_true] at h
      exact sg_sub (ckE_ok F hc hl o false Γ _ h.1.1) (ckE_ok F hc hl i false Γ _ h.1.2) h.2
    · cases h
  | .fld _ _, Γ, a, h => by simp [ckG] at h
  | .slc _ _ _, Γ, a, h => by simp [ckG] at h
theorem ckGs_ok (F : TbF G C n tb) (hc : COk G C l n) (hl : l + 1 ≤ m) : ∀ (e : Tgs) (Γ : Gm) (a : List Expr), ckGs tb e Γ a = true → SGs G EX C Γ m a e
  | .nil, Γ, a, h => by
    simp only [ckGs, List.isEmpty_iff] at h
    subst h
    exact sgs_nil
  | .cons t ts, Γ, a, h => by
    simp only [ckGs] at h
    split at h
    · simp only [Bool.and_eq_true] at h
      exact sgs_cons (ckG_ok F hc hl t Γ _ h.1) (ckGs_ok F hc hl ts Γ _ h.2)
    · cases h
end
end
end Mi

set_option Elab.async false
set_option linter.all false
set_option maxRecDepth 100000
set_option maxHeartbeats 4000000
/-! Statements; a def; all defs by levels. -/
namespace Mi
open PySem PySem.Spec PyProof.Rows L2
section
variable {G : Gx} {EX : XK} {C : Cal} {Γ : Gm} {m l n : Nat} {tb : Tb}
theorem nmB_ok {i : Nat} {x : Str} (h : nmB Γ i x = true) : Γ.N[i]? = some x ∧ Γ.sc.names.lookup x = some .local := by
  simp only [nmB, Bool.and_eq_true, decide_eq_true_eq] at h
  exact ⟨h.1, lcB_ok h.2⟩
theorem setC_ok (F : TbF G C n tb) (hc : COk G C l n) (hl : l + 1 ≤ m) {t : Tg} {i : E} {x a : Expr} {p : Pos} (h : setC tb Γ t i x a = true) : SS G EX C Γ m (.Assign [x] a p) (.asg t i) := by
  unfold setC at h
  split at h
  · split at h
    · split at h
      · split at h
        · simp only [Bool.and_eq_true, beq_iff_eq, decide_eq_true_eq, Bool.not_eq_true'] at h
          obtain ⟨⟨⟨⟨⟨⟨⟨⟨⟨⟨rfl, h1⟩, h2⟩, h3⟩, h4⟩, h5⟩, h6⟩, h7⟩, h8⟩, h9⟩, h10⟩ := h
          rename_i k _ el tg it cd own _ y py _ elt z iter ifs scope pos
          have e := ownP_snd (Γ := Γ) own
          have := s_setLc (EX := EX) (C := C) (m := m) (G := G) (own := ownP Γ own) (pos := pos) (spos := p) (py := py) h1 (lcB_ok h2) (by rw [h3]; exact beq_self_eq_true _) h4 h5 (by rw [e]; exact h6) (ckI_ok F hc hl it Γ _ _ h7) (ckG_ok F hc hl tg _ _ h8) (ckC_ok F hc hl cd _ _ h9) (ckE_ok F hc hl el false _ _ h10)
          rw [e] at this
          exact this
        · cases h
      · cases h
    · cases h
  · cases h
theorem asgC_ok (F : TbF G C n tb) (hc : COk G C l n) (hl : l + 1 ≤ m) {t : Tg} {i : E} {x a : Expr} {p : Pos} (h : asgC tb Γ t i x a = true) : SS G EX C Γ m (.Assign [x] a p) (.asg t i) := by
  unfold asgC at h
  split at h
  · split at h
    · simp only [Bool.and_eq_true, decide_eq_true_eq] at h
      exact s_fld F.cs (by rw [F.nm]; exact h.1.1) (ckE_ok F hc hl _ false Γ _ h.1.2) (ckE_ok F hc hl _ false Γ _ h.2)
    · cases h
  · simp only [Bool.or_eq_true, Bool.and_eq_true] at h
    rcases h with h | ⟨⟨⟨h1, h2⟩, h3⟩, h4⟩
    · exact setC_ok F hc hl h
    · exact s_asgS (ckG_ok F hc hl _ _ _ h1) (ckE_ok F hc hl _ false Γ _ h2) h3 h4
theorem parC_ok (F : TbF G C n tb) (hc : COk G C l n) (hl : l + 1 ≤ m) {is : List Nat} {es : Es} {x a : Expr} {p : Pos} (h : parC tb Γ is es x a = true) : SS G EX C Γ m (.Assign [x] a p) (.par is es) := by
  unfold parC at h
  split at h
  · split at h
    · simp only [Bool.and_eq_true, decide_eq_true_eq] at h
      obtain ⟨⟨⟨⟨⟨⟨⟨⟨h1, h2⟩, h3⟩, h4⟩, h5⟩, h6⟩, h7⟩, h8⟩, h9⟩ := h
      obtain ⟨a1, a2⟩ := nmB_ok h1
      obtain ⟨b1, b2⟩ := nmB_ok h2
      exact s_par2 a1 b1 h3 a2 b2 (ckE_ok F hc hl _ false Γ _ h4) (ckE_ok F hc hl _ false Γ _ h5) h6 h7 h8 h9
    · cases h
  · split at h
    · simp only [Bool.and_eq_true, decide_eq_true_eq] at h
      obtain ⟨⟨⟨⟨⟨⟨⟨⟨⟨⟨⟨⟨⟨⟨h1, h2⟩, h3⟩, h4⟩, h5⟩, h6⟩, h7⟩, h8⟩, h9⟩, h10⟩, h11⟩, h12⟩, h13⟩, h14⟩, h15⟩ := h
      obtain ⟨a1, a2⟩ := nmB_ok h1
      obtain ⟨b1, b2⟩ := nmB_ok h2
      obtain ⟨c1, c2⟩ := nmB_ok h3
      exact s_par3 a1 b1 c1 h4 h5 h6 a2 b2 c2 (ckE_ok F hc hl _ false Γ _ h7) (ckE_ok F hc hl _ false Γ _ h8) (ckE_ok F hc hl _ false Γ _ h9) h10 h11 h12 h13 h14 h15
    · cases h
  · cases h
theorem ckSs_cons {e : Mi.S} {es : Ss} {xs : List Stmt} (en : e ≠ .never) : ckSs tb (.cons e es) Γ xs = match xs with
    | x :: xs => ckS tb e Γ x && ckSs tb es Γ xs
    | [] => false := by
  cases e <;> first | exact absurd rfl en | (cases xs <;> simp only [ckSs])
mutual
theorem ckS_ok (F : TbF G C n tb) (hc : COk G C l n) (hl : l + 1 ≤ m) : ∀ (e : Mi.S) (a : Stmt), ckS tb e Γ a = true → SS G EX C Γ m a e
  | .expr e, a, h => by
    simp only [ckS] at h
    split at h
    · simp only [Bool.and_eq_true] at h
      exact s_expr (ckE_ok F hc hl e false Γ _ h.1) h.2
    · cases h
  | .asg t e, a, h => by
    simp only [ckS] at h
    split at h
    · exact asgC_ok F hc hl h
    · cases h
  | .par is es, a, h => by
    simp only [ckS] at h
    split at h
    · exact parC_ok F hc hl h
    · cases h
  | .ret e, a, h => by
    simp only [ckS] at h
    split at h
    · exact s_ret (ckE_ok F hc hl e false Γ _ h)
    · cases h
  | .retN, a, h => by
    simp only [ckS] at h
    split at h
    · exact s_retN
    · cases h
  | .pass, a, h => by
    simp only [ckS] at h
    split at h
    · exact s_pass
    · exact s_doc
    · cases h
  | .brk, a, h => by
    simp only [ckS] at h
    split at h
    · exact s_brk
    · cases h
  | .cont, a, h => by
    simp only [ckS] at h
    split at h
    · exact s_cont
    · cases h
  | .never, a, h => s_never
  | .ifS c x y, a, h => by
    simp only [ckS] at h
    split at h
    · simp only [Bool.and_eq_true] at h
      exact s_if (ckE_ok F hc hl c true Γ _ h.1.1).1 (ckSs_ok F hc hl x _ h.1.2) (ckSs_ok F hc hl y _ h.2)
    · cases h
  | .whl c x, a, h => by
    simp only [ckS] at h
    split at h
    · simp only [Bool.and_eq_true] at h
      exact s_whl (ckE_ok F hc hl c true Γ _ h.1).1 (ckSs_ok F hc hl x _ h.2)
    · cases h
  | .forS t it x, a, h => by
    simp only [ckS] at h
    split at h
    · simp only [Bool.and_eq_true] at h
      exact s_for (ckI_ok F hc hl it Γ _ _ h.1.2) (ckG_ok F hc hl t Γ _ h.1.1) (ckSs_ok F hc hl x _ h.2)
    · cases h
theorem ckSs_ok (F : TbF G C n tb) (hc : COk G C l n) (hl : l + 1 ≤ m) : ∀ (e : Ss) (a : List Stmt), ckSs tb e Γ a = true → SSs G EX C Γ m a e
  | .nil, a, h => by
    simp only [ckSs, List.isEmpty_iff] at h
    subst h
    exact sss_nil
  | .cons e es, a, h => by
    by_cases en : e = .never
    · subst en
      exact fun X g => weakSs pss_never fun D σ H ⟨r, s, h, S, L, p⟩ => by
        simp only [evSs, evS] at p
        exact p
    · rw [ckSs_cons en] at h
      split at h
      · simp only [Bool.and_eq_true] at h
        exact sss_cons (ckS_ok F hc hl e _ h.1) (ckSs_ok F hc hl es _ h.2)
      · cases h
end
end

/-! ### a def keeps its promise -/
/-- a def of the text: its names, parameters, body, scope -/
structure Df where
  name : Str
  qual : Str
  params : Arguments
  body : List Stmt
  scope : Scope
  N : List Str
  ps : List Str
/-- positional parameters alone, no defaults -/
def parsB (d : Df) : Bool := match d.params with
  | ⟨[], as, none, [], [], none, []⟩ => decide (as.map (·.arg) = d.ps)
  | _ => false
def fnScB (N P : List Str) (sc : Scope) : Bool :=
  (match sc.kind with | .function => true | _ => false) && !sc.isCoroutine && !sc.isGenerator && decide N.Nodup && decide (N.take P.length = P) && (P.all fun x => match sc.names.lookup x with | some .local => true | some .cell => true | _ => false) &&
    sc.names.all fun y => match y.2 with | .free => false | _ => true
theorem fnScB_ok {N P : List Str} {sc : Scope} (h : fnScB N P sc = true) : FnScope N P sc := by
  simp only [fnScB, Bool.and_eq_true, Bool.not_eq_true', decide_eq_true_eq] at h
  obtain ⟨⟨⟨⟨⟨⟨h1, h2⟩, h3⟩, h4⟩, h5⟩, h6⟩, h7⟩ := h
  refine ⟨?_, h2, h3, h4, h5, fun x hx => ?_, fun y hy => ?_⟩
  · cases e : sc.kind <;> rw [e] at h1 <;> first | rfl | cases h1
  · have := List.all_eq_true.mp h6 x hx
    split at this
    · rename_i e; exact .inl e
    · rename_i e; exact .inr e
    · cases this
  · have := List.all_eq_true.mp h7 y hy
    intro e
    rw [e] at this
    cases this
/-- the def's checks -/
def dfB (tb : Tb) (d : Df) (f : FunI) : Bool := fnScB d.N d.ps d.scope && decide (d.ps.length = f.np) && decide (d.N.length = f.ns) && ckSs tb f.body ⟨d.N, d.scope, true⟩ d.body
structure DfF (G : Gx) (d : Df) (a : Addr) : Prop where
  ex : ∃ fd, FunD G.K d.name d.qual d.params d.body d.scope [] [] a fd ∧ Binds G.K fd d.ps []
end Mi

set_option Elab.async false
set_option linter.all false
set_option maxRecDepth 100000
set_option maxHeartbeats 4000000
/-! All defs by levels; the law's end. -/
namespace Mi
open PySem PySem.Spec PyProof.Rows L2

theorem start_rel {G : Gx} {r : Rho} {H : Hp} {ws : List W} {vs : List V} {ns : Nat} {N : List Str} (q : RelWs G r H ws vs) (hn : ns = N.length) : SlR G r H (startS ns ws) (L2.start N vs) := by
  have hl := q.length
  refine ⟨by simp [startS, L2.start, hl, hn], fun i w e => ?_⟩
  unfold startS at e
  unfold L2.start
  by_cases c : i < ws.length
  · rw [List.getElem?_append_left (by simpa using c)] at e
    rw [List.getElem?_append_left (by simpa [← hl] using c)]
    rw [List.getElem?_map] at e ⊢
    cases z : ws[i]? with
    | none => rw [z] at e; cases e
    | some u =>
      rw [z] at e
      simp at e
      subst e
      obtain ⟨v, ev, rv⟩ := q.get z
      exact ⟨v, by rw [ev]; rfl, rv⟩
  · rw [List.getElem?_append_right (by simpa using c)] at e
    have := List.mem_of_getElem? e
    rw [List.mem_replicate] at this
    cases this.2
section
variable {G : Gx} {P : Pr} {wf : Nat} {tb : Tb} {ds : List Df}
structure AllF (G : Gx) (P : Pr) (tb : Tb) (ds : List Df) : Prop where
  tbF : ∀ C : Cal, C.cs = P.cs → TbF G C P.fs.length tb
  df : ∀ (k : Nat) (d : Df), ds[k]? = some d → DfF G d (G.fa k)
  ck : ∀ (k : Nat) (f : FunI), P.fs[k]? = some f → ∃ d, ds[k]? = some d ∧ dfB tb d f = true
theorem call_post {r : Rho} {H : Hp} {Q : VK} {E : XK} {f : FunI} {d k : Nat} {ws : List W} {h : Hh} (ef : P.fs[k]? = some f) (p : Post G r H (RelW G) Q E (callN P wf (d + 1) k ws h)) :
    ws.length = f.np ∧ PostS G r H { nx := fun _ H' => Q .non H', rt := Q } E (evSs (calN P wf d) f.body (startS f.ns ws) h) := by
  simp only [callN, ef] at p
  split at p
  · rename_i hl
    refine ⟨hl, ?_⟩
    show PostS G r H _ E (evSs ⟨callN P wf d, P.cs, wf⟩ f.body (startS f.ns ws) h)
    cases e : evSs ⟨callN P wf d, P.cs, wf⟩ f.body (startS f.ns ws) h with
    | nx s h1 =>
      rw [e] at p
      intro r' H' σ' st S L
      exact p r' H' .non st S .non
    | rt w h1 => rw [e] at p; exact p
    | bk s h1 => rw [e] at p; exact False.elim p
    | ct s h1 => rw [e] at p; exact False.elim p
    | ex c fs s h1 => rw [e] at p; exact p
    | no => rw [e] at p; exact p
  · exact False.elim p
theorem fn_step (A : AllF G P tb ds) {d k : Nat} {f : FunI} {df : Df} {fd : FuncData} (ih : COk G (calN P wf d) (2 * d) P.fs.length) (ef : P.fs[k]? = some f) (hd : dfB tb df f = true) (F : FunD G.K df.name df.qual df.params df.body df.scope [] [] (G.fa k) fd) :
    FnOk G.P G.w G.K G.mg G.base CX0 (2 * d + 1 + 1) (G.fa k) fd df.ps (fun vs H Q EX => vs.length = df.ps.length ∧ ∃ r h ws, Sim G r h H ∧ RelWs G r H ws vs ∧ Post G r H (RelW G) Q EX (callN P wf (d + 1) k ws h)) := by
  simp only [dfB, Bool.and_eq_true, decide_eq_true_eq] at hd
  obtain ⟨⟨⟨h1, h2⟩, h3⟩, h4⟩ := hd
  have sc := fnScB_ok h1
  have T := A.tbF (calN P wf d) rfl
  refine FunD.ok (k := 2 * d + 1) F sc (fun vs H Q E h => h.1) fun cdv A' outer s H vs Q E hr h => ?_
  obtain ⟨hlen, r, h, ws, S, q, p⟩ := h
  obtain ⟨hl, ps⟩ := call_post ef p
  refine ⟨US G E (evSs (calN P wf d) f.body), ckSs_ok (EX := E) T ih (Nat.le_refl _) f.body df.body h4 _ ⟨⟨rfl, rfl, rfl, rfl, rfl, rfl, sc.nd, rfl, sc.kind, rfl, hr, fun _ _ => rfl⟩, passes_of rfl⟩, ?_⟩
  exact ⟨r, _, h, S, start_rel q h3.symm, ps⟩
theorem levels (A : AllF G P tb ds) : ∀ d, COk G (calN P wf d) (2 * d) P.fs.length
  | 0 => fun k hk => by
    obtain ⟨f, ef⟩ : ∃ f, P.fs[k]? = some f := ⟨P.fs[k], List.getElem?_eq_getElem hk⟩
    obtain ⟨d, ed, hd⟩ := A.ck k f ef
    obtain ⟨fd, F, hb⟩ := (A.df k d ed).ex
    refine ⟨fd, d.ps, ⟨fun vs H Q E h => h.1, fun A outer s H args us vs Q E _ _ _ _ h => ?_⟩, F.kp, hb, fun ws h e => absurd rfl e⟩
    obtain ⟨_, r, h, ws, _, _, p⟩ := h
    exact False.elim p
  | d + 1 => fun k hk => by
    have ih := levels A d
    obtain ⟨f, ef⟩ : ∃ f, P.fs[k]? = some f := ⟨P.fs[k], List.getElem?_eq_getElem hk⟩
    obtain ⟨df, ed, hd⟩ := A.ck k f ef
    obtain ⟨fd, F, hb⟩ := (A.df k df ed).ex
    refine ⟨fd, df.ps, fn_step A ih ef hd F, F.kp, hb, fun ws h e => ?_⟩
    simp only [dfB, Bool.and_eq_true, decide_eq_true_eq] at hd
    have : callN P wf (d + 1) k ws h ≠ .no := e
    simp only [callN, ef] at this
    split at this
    · rename_i hl; rw [hl, hd.1.1.2]
    · exact absurd rfl this
/-- a law's promise -/
def spN (G : Gx) (P : Pr) (wf d k : Nat) : Sp := fun vs H Q EX => vs.length = 1 ∧ ∃ r h ws, Sim G r h H ∧ RelWs G r H ws vs ∧ Post G r H (RelW G) Q EX (callN P wf d k ws h)
def h0 (ns : List Int) : Hh := ⟨.n .e (some (.frz (ns.map .int))) .e, 1⟩
theorem law_fn (A : AllF G P tb ds) {d k : Nat} {x : Str} {f : FunI} {df : Df} {fd : FuncData} (ef : P.fs[k]? = some f) (hd : dfB tb df f = true) (hps : df.ps = [x]) (F : FunD G.K df.name df.qual df.params df.body df.scope [] [] (G.fa k) fd) :
    FnOk G.P G.w G.K G.mg G.base CX0 (2 * d + 1 + 1) (G.fa k) fd [x] (spN G P wf (d + 1) k) := by
  have := fn_step (wf := wf) A (levels A d) ef hd F
  rw [hps] at this
  exact this
/-- at the start: the script alone -/
theorem sim0 {a : Addr} {H : Hp} {ns : List Int} (hs : SqF G.K H a (ns.map V.int)) : Sim G [a] (h0 ns) H where
  len := rfl
  ok := fun n b e => by
    cases n with
    | zero =>
      cases e
      exact ⟨.frz (ns.map .int), rfl, _, hs, RelWs.ofInts ns⟩
    | succ n => cases e
  inj := fun n m b o o' e1 e2 g1 g2 f1 f2 => by
    cases n with
    | zero =>
      cases m with
      | zero => rfl
      | succ m => cases e2
    | succ n => cases e1
theorem only_frz {K : PySem.W.Frag} {H : Hp} {a : Addr} {xs : List V} (ho : Only H) (h : SqL K H a xs) : SqF K H a xs := by
  rcases h with h | h
  · rcases h with h | ⟨o, h⟩
    · rcases ho a with z | ⟨o, ys, z⟩
      · rw [z] at h; cases h
      · rw [z] at h; cases h
    · exact .inl ⟨o, h⟩
  · exact .inr h
theorem law_sp {d k : Nat} {wf : Nat} (plain : ∀ ns : List Int, ns.length ≤ 63 → ∃ h', callN P wf d k [.ref 0] (h0 ns) = .ok (.bl true) h') (H : Hp) (a : Addr) (ns : List Int) (hl : ns.length ≤ 63) (ho : Only H) (hs : SqL G.K H a (ns.map V.int)) :
    spN G P wf d k [.ref a] H (fun v _ => v = .bl true) fun _ _ _ => False := by
  obtain ⟨h', e⟩ := plain ns hl
  refine ⟨rfl, [a], h0 ns, [.ref 0], sim0 (only_frz ho hs), .cons (.ref rfl) .nil, ?_⟩
  rw [e]
  intro r' H' b st S q
  cases q
  rfl
end
end Mi

set_option Elab.async false
set_option linter.all false
set_option maxRecDepth 100000
set_option maxHeartbeats 4000000
/-! The head: what the module holds, read by a Hook. -/
namespace Mi
open PySem PySem.Spec PyProof.Rows L2

/-- where a def stands: a global, a method, a property's getter -/
inductive Ad where
  | glo (x : Str) | meth (c m : Str) | prop (c m : Str)
  deriving DecidableEq
def getterAt (K : PySem.W.Frag) (p : Addr) : Addr := match PySem.W.recIn K p "property" with
  | some (.ref g :: _) => g
  | _ => 0
def Ad.at (K : PySem.W.Frag) : Ad → Addr
  | .glo x => He.ga K x
  | .meth c m => He.ma K (He.ga K c) m
  | .prop c m => getterAt K (He.ma K (He.ga K c) m)
/-- a law's tables -/
structure Lw where
  ads : List Ad
  cls : List Str
  pr : Pr
  tb : Tb
  ds : List Df
def adAt (K : PySem.W.Frag) (as : List Ad) (k : Nat) : Addr := match as[k]? with
  | some a => a.at K
  | none => 0
def clAt (K : PySem.W.Frag) (as : List Str) (k : Nat) : Addr := match as[k]? with
  | some a => He.ga K a
  | none => 0
def mkG (lw : Lw) (P : Program) (w : World) (K : PySem.W.Frag) (mg : Str → Option Value) (base : Heap) : Gx :=
  ⟨P, w, K, mg, base, lw.tb.nm, adAt K lw.ads, clAt K lw.cls⟩
/-! ### functions -/
def fnAt (K : PySem.W.Frag) (a : Addr) : He.FnW := match K.lookup a with
  | some ⟨_, _, .func fd, _⟩ => some (fd.name, fd.qualname, fd.params, fd.body, fd.scope, fd.globals, fd.closure, fd.builtins)
  | _ => none
def Df.val (d : Df) : He.FnW := some (d.name, d.qual, d.params, .stmts d.body, d.scope, mainGlobals, [], builtinsNs)
def fnOkB (K : PySem.W.Frag) (a : Addr) (d : Df) : Bool := PySem.W.keepIn K (.ref a) && (match K.lookup a with
  | some ⟨_, _, .func fd, _⟩ => PySem.W.codeIn K fd.code d.qual && (He.dflB K fd.defaults [] && He.kwdB K fd.kwdefaults [])
  | _ => false)
theorem funD_of {K : PySem.W.Frag} {d : Df} {a : Addr} (e : fnAt K a = d.val) (c : fnOkB K a d = true) : ∃ fd, FunD K d.name d.qual d.params d.body d.scope [] [] a fd := by
  obtain ⟨kp, c2⟩ := He.ba c
  unfold fnAt at e
  cases q : K.lookup a with
  | none =>
    rw [q] at c2
    cases c2
  | some o =>
    obtain ⟨oc, od, dt, osl⟩ := o
    rw [q] at c2 e
    cases dt with
    | func fd =>
      obtain ⟨n1, n2, n3, n4, n5, n6, n7, n8, n9, n10, n11, n12, n13, n14, n15⟩ := fd
      have e2 : (some (n1, n2, n3, n4, n5, n6, n7, n15) : He.FnW) = some (d.name, d.qual, d.params, .stmts d.body, d.scope, mainGlobals, [], builtinsNs) := e
      simp only [Option.some.injEq, Prod.mk.injEq] at e2
      obtain ⟨h1, h2, h3, h4, h5, h6, h7, h8⟩ := e2
      subst h1 h2 h3 h4 h5 h6 h7 h8
      have c3 : (PySem.W.codeIn K n13 d.qual && (He.dflB K n8 [] && He.kwdB K n9 [])) = true := c2
      obtain ⟨k1, k2⟩ := He.ba c3
      obtain ⟨k3, k4⟩ := He.ba k2
      exact ⟨_, ⟨oc, od, n8, n9, n10, n11, n12, n13, n14, osl, rfl, q, k1, He.dflB_ok k3, He.kwdB_ok k4⟩, kp⟩
    | _ => cases c2
def BindOk (d : Df) : Prop := ∀ (kV doc pm : Value) (an : Option Addr) (cdv ct : Value) (us : List Value), us.length = d.ps.length → bindArgs (PySem.W.fnOf d.name d.qual d.params d.body d.scope .none kV doc pm an cdv ct) ⟨us, []⟩ = pure (d.ps.zip us)
inductive AllB : List Df → Prop
  | nil : AllB []
  | cons {d : Df} {ds : List Df} : BindOk d → AllB ds → AllB (d :: ds)
theorem AllB.get : ∀ {ds : List Df} {k : Nat} {d : Df}, AllB ds → ds[k]? = some d → BindOk d
  | _, _, _, .nil, e => by simp at e
  | _, 0, _, .cons h _, e => by simp at e; subst e; exact h
  | _, k + 1, _, .cons _ t, e => AllB.get (k := k) t (by simpa using e)
/-! ### facts -/
def propB (K : PySem.W.Frag) (x m : Str) : Bool :=
  He.eqO (PySem.W.findIn K (.ref (He.ga K x)) m) (some (some (.ref (He.ma K (He.ga K x) m)))) && (He.eqO (PySem.W.specialIn K (.ref (He.ma K (He.ga K x) m)) "__get__") (some (some (.builtin "property.__get__"))) &&
    (decide (PySem.W.takesIn K (.ref (He.ma K (He.ga K x) m)) = some true) && (match PySem.W.recIn K (He.ma K (He.ga K x) m) "property" with
      | some (.ref _ :: _) => true
      | _ => false)))
theorem propB_ok {K : PySem.W.Frag} {x m : Str} (h : propB K x m = true) : PropOf K (He.ga K x) m (He.ma K (He.ga K x) m) (getterAt K (He.ma K (He.ga K x) m)) := by
  simp only [propB, Bool.and_eq_true, decide_eq_true_eq] at h
  obtain ⟨h1, h2, h3, h4⟩ := h
  refine ⟨He.eqO_ok h1, He.eqO_ok h2, h3, ?_⟩
  unfold getterAt
  split at h4
  · rename_i g rest e
    rw [e]
    exact ⟨rest, rfl⟩
  · cases h4
def wV : W → Option V
  | .non => some .non
  | .bl b => some (.bl b)
  | .int i => some (.int i)
  | .str x => some (.str x)
  | _ => none
def valB (K : PySem.W.Frag) (w : W) (u : Value) : Bool := match w with
  | .tup ws => (match u with
    | .ref a => (match K.lookup a with
      | some ⟨.type c, _, .seq its _, _⟩ => decide (c = "tuple") && (decide (its.size ≤ sizeLine) && (match ws.mapM wV with
        | some vs => He.relAll vs its.toList
        | none => false))
      | _ => false)
    | _ => false)
  | w => (match wV w with
    | some v => He.relB v u
    | none => false)
theorem wV_rel {G : Gx} {r : Rho} {H : Hp} {w : W} {v : V} (e : wV w = some v) : RelW G r H w v := by
  cases w <;> simp [wV] at e <;> subst e <;> constructor
theorem wVs_rel {G : Gx} {r : Rho} {H : Hp} : ∀ {ws : List W} {vs : List V}, ws.mapM wV = some vs → RelWs G r H ws vs
  | [], vs, e => by simp at e; subst e; exact .nil
  | w :: ws, vs, e => by
    simp only [List.mapM_cons, Option.bind_eq_bind, Option.bind_eq_some_iff] at e
    obtain ⟨v, e1, vs', e2, e3⟩ := e
    cases e3
    exact .cons (wV_rel e1) (wVs_rel e2)
theorem valB_ok {G : Gx} {w : W} {u : Value} (h : valB G.K w u = true) : ∃ v, RelV v u ∧ RelW G [] (fun _ => none) w v := by
  have sc : ∀ w, (match wV w with | some v => He.relB v u | none => false) = true → ∃ v, RelV v u ∧ RelW G [] (fun _ => none) w v := by
    intro w h
    split at h
    · rename_i v e
      exact ⟨v, He.relB_ok h, wV_rel e⟩
    · cases h
  cases w with
  | tup ws =>
    simp only [valB] at h
    split at h
    · rename_i a
      split at h
      · rename_i c od its n sl lk
        simp only [Bool.and_eq_true, decide_eq_true_eq] at h
        obtain ⟨rfl, h2, h3⟩ := h
        split at h3
        · rename_i vs ev
          exact ⟨.ref a, rfl, .tup (.inr ⟨_, its, n, lk, rfl, rfl, h2, He.relAll_ok h3⟩) (wVs_rel ev)⟩
        · cases h3
      · cases h
    · cases h
  | non => exact sc _ h
  | bl b => exact sc _ h
  | int b => exact sc _ h
  | str b => exact sc _ h
  | ref b => exact sc _ h
  | fn b => exact sc _ h
  | cl b => exact sc _ h
def clsB (lw : Lw) (K : PySem.W.Frag) (c : Nat) : Bool := match lw.cls[c]?, lw.pr.cs[c]? with
  | some x, some q => (He.Fa.cls x).ok K && q.eqm.isNone && decide (q.ini < lw.pr.fs.length) && decide (lw.ads[q.ini]? = some (.meth x "__init__")) && (He.Fa.mkr x).ok K &&
    (q.ms.all fun p => decide (p.2 < lw.pr.fs.length) && (match lw.tb.nm[p.1]? with
      | some m => decide (lw.ads[p.2]? = some (.meth x m)) && (He.Fa.meth x m).ok K
      | none => false)) &&
    (q.ps.all fun p => decide (p.2 < lw.pr.fs.length) && (match lw.tb.nm[p.1]? with
      | some m => decide (lw.ads[p.2]? = some (.prop x m)) && propB K x m
      | none => false)) &&
    ((List.range lw.tb.nm.length).all fun f => (q.ms.lookup f).isSome || (q.ps.lookup f).isSome || (match lw.tb.nm[f]? with
      | some m => (He.Fa.noat x m).ok K
      | none => false))
  | _, _ => false
def isiB (lw : Lw) (K : PySem.W.Frag) (c : Nat) : Bool := match lw.cls[c]? with
  | some x => (He.Fa.cls x).ok K && He.eqO (PySem.W.findIn K (.ref (He.ga K x)) "__class__") (some (some (.builtin "object.__class__"))) && He.eqO (PySem.W.specialIn K (.builtin "object.__class__") "__get__") (some (some (.builtin "getset_descriptor.__get__"))) &&
    decide (PySem.W.takesIn K (.builtin "object.__class__") = some true) && decide (PySem.W.mroIn K (He.ga K x) (.type "object") = some true) && decide (PySem.W.kitOne K (.ref (He.ga K x)) (.ref (He.ga K x)) = some true) &&
    (["NoneType", "bool", "int", "str", "list", "tuple", "dict"].all fun y => PySem.W.kitOne K (.type y) (.ref (He.ga K x)) == some false)
  | none => false
def exB (lw : Lw) (K : PySem.W.Frag) : Bool :=
  (lw.tb.fn.all fun p => decide (p.2 < lw.pr.fs.length) && decide (lw.ads[p.2]? = some (.glo p.1)) && (He.Fa.glo p.1).ok K) &&
  (lw.tb.cl.all fun p => decide (p.2 < lw.pr.cs.length) && decide (lw.cls[p.2]? = some p.1) && (He.Fa.glo p.1).ok K) &&
  (lw.tb.cs.all fun p => match PySem.W.nsIn K mainGlobals p.1 with
    | some (some u) => valB K p.2 u
    | _ => false) &&
  (lw.tb.fr.all fun x => (He.Fa.free x).ok K) &&
  ((List.range lw.pr.cs.length).all fun c => clsB lw K c) &&
  (lw.tb.isc.all fun c => isiB lw K c)
/-- what does not lean on the module -/
def ckL (lw : Lw) : Bool := decide lw.tb.nm.Nodup && (lw.tb.ms.all fun f => lw.pr.cs.any fun q => (q.ms.lookup f).isSome) &&
  (List.range lw.pr.fs.length).all fun k => match lw.pr.fs[k]?, lw.ds[k]? with
    | some f, some d => dfB lw.tb d f && parsB d
    | _, _ => false
end Mi

set_option Elab.async false
set_option linter.all false
set_option maxRecDepth 100000
set_option maxHeartbeats 4000000
/-! From the facts to all defs; the law. -/
namespace Mi
open PySem PySem.Spec PyProof.Rows L2

theorem lk_mem {α : Type} : ∀ {l : List (Nat × α)} {k : Nat} {v : α}, l.lookup k = some v → (k, v) ∈ l
  | [], k, v, h => by simp at h
  | (a, b) :: l, k, v, h => by
    by_cases c : k = a
    · subst c; simp [List.lookup] at h; subst h; simp
    · have : (k == a) = false := by simpa using c
      simp [List.lookup, this] at h
      exact List.mem_cons_of_mem _ (lk_mem h)
theorem lkS_mem {α : Type} : ∀ {l : List (Str × α)} {k : Str} {v : α}, l.lookup k = some v → (k, v) ∈ l
  | [], k, v, h => by simp at h
  | (a, b) :: l, k, v, h => by
    by_cases c : k = a
    · subst c; simp [List.lookup] at h; subst h; simp
    · have : (k == a) = false := by simpa using c
      simp [List.lookup, this] at h
      exact List.mem_cons_of_mem _ (lkS_mem h)
theorem adAt_of {K : PySem.W.Frag} {as : List Ad} {k : Nat} {a : Ad} (h : as[k]? = some a) : adAt K as k = a.at K := by simp only [adAt, h]
theorem clAt_of {K : PySem.W.Frag} {as : List Str} {k : Nat} {a : Str} (h : as[k]? = some a) : clAt K as k = He.ga K a := by simp only [clAt, h]
section
variable {lw : Lw} {P : Program} {w : World} {K : PySem.W.Frag} {mg : Str → Option Value} {base h : Heap}
theorem clsB_ok {c : Nat} {q : ClsI} (e : lw.pr.cs[c]? = some q) (hb : clsB lw K c = true) : ClsF (mkG lw P w K mg base) lw.pr.fs.length c q ∧ q.eqm = none := by
  unfold clsB at hb
  cases ex : lw.cls[c]? with
  | none => rw [ex] at hb; cases hb
  | some x =>
    rw [ex, e] at hb
    simp only [Bool.and_eq_true, decide_eq_true_eq] at hb
    obtain ⟨⟨⟨⟨⟨⟨⟨h1, h2⟩, h3⟩, h4⟩, h5⟩, h6⟩, h7⟩, h8⟩ := hb
    have ec : (mkG lw P w K mg base).ca c = He.ga K x := clAt_of ex
    have ei : (mkG lw P w K mg base).fa q.ini = He.ma K (He.ga K x) "__init__" := adAt_of h4
    refine ⟨⟨?_, fun f k hk => ?_, fun f k hk => ?_, fun f m hm hn hp => ?_, h3, ?_⟩, by simpa using h2⟩
    · rw [ec]; exact He.cls_ok h1
    · have := List.all_eq_true.mp h6 (f, k) (lk_mem hk)
      simp only [Bool.and_eq_true, decide_eq_true_eq] at this
      refine ⟨this.1, ?_⟩
      cases em : lw.tb.nm[f]? with
      | none => rw [em] at this; exact absurd this.2 (by simp)
      | some m =>
        rw [em] at this
        simp only [Bool.and_eq_true, decide_eq_true_eq] at this
        refine ⟨m, em, ?_⟩
        have ek : (mkG lw P w K mg base).fa k = He.ma K (He.ga K x) m := adAt_of this.2.1
        rw [ec, ek]; exact He.meth_ok this.2.2
    · have := List.all_eq_true.mp h7 (f, k) (lk_mem hk)
      simp only [Bool.and_eq_true, decide_eq_true_eq] at this
      refine ⟨this.1, ?_⟩
      cases em : lw.tb.nm[f]? with
      | none => rw [em] at this; exact absurd this.2 (by simp)
      | some m =>
        rw [em] at this
        simp only [Bool.and_eq_true, decide_eq_true_eq] at this
        refine ⟨m, He.ma K (He.ga K x) m, em, ?_⟩
        have ek : (mkG lw P w K mg base).fa k = getterAt K (He.ma K (He.ga K x) m) := adAt_of this.2.1
        rw [ec, ek]; exact propB_ok this.2.2
    · have hf : f < lw.tb.nm.length := (List.getElem?_eq_some_iff.mp hm).1
      have := List.all_eq_true.mp h8 f (List.mem_range.mpr hf)
      have hm' : lw.tb.nm[f]? = some m := hm
      rw [hn, hp, hm'] at this
      rw [ec]; exact He.noat_ok (K := K) (by simpa using this)
    · rw [ec, ei]; exact He.mkr_ok h5
theorem isiB_ok {c : Nat} (hb : isiB lw K c = true) : IsiF (mkG lw P w K mg base) c := by
  unfold isiB at hb
  cases ex : lw.cls[c]? with
  | none => rw [ex] at hb; cases hb
  | some x =>
    rw [ex] at hb
    simp only [Bool.and_eq_true, decide_eq_true_eq] at hb
    obtain ⟨⟨⟨⟨⟨⟨h1, h2⟩, h3⟩, h4⟩, h5⟩, h6⟩, h7⟩ := hb
    have ec : (mkG lw P w K mg base).ca c = He.ga K x := clAt_of ex
    refine ⟨?_, ?_, He.eqO_ok h3, h4, ?_, ?_, ?_⟩
    · rw [ec]; exact He.cls_ok h1
    · rw [ec]; exact He.eqO_ok h2
    · rw [ec]; exact h5
    · rw [ec]; exact h6
    · rw [ec]; exact h7
theorem tbF_of (hx : exB lw K = true) (hk : ckL lw = true) (X : K.In h) (N : h.Ns mainGlobals mg) (C : Cal) (hC : C.cs = lw.pr.cs) : TbF (mkG lw P w K mg base) C lw.pr.fs.length lw.tb := by
  simp only [exB, Bool.and_eq_true] at hx
  obtain ⟨⟨⟨⟨⟨h1, h2⟩, h3⟩, h4⟩, h5⟩, h6⟩ := hx
  simp only [ckL, Bool.and_eq_true, decide_eq_true_eq] at hk
  obtain ⟨⟨k1, k2⟩, k3⟩ := hk
  have hcls : ∀ (c : Nat) (q : ClsI), lw.pr.cs[c]? = some q → ClsF (mkG lw P w K mg base) lw.pr.fs.length c q ∧ q.eqm = none := fun c q e =>
    clsB_ok e (List.all_eq_true.mp h5 c (List.mem_range.mpr (List.getElem?_eq_some_iff.mp e).1))
  refine ⟨⟨k1, fun c q e => (hcls c q (by rw [← hC]; exact e)).1⟩, fun c q e => (hcls c q (by rw [← hC]; exact e)).2, rfl, fun x k e => ?_, fun x c e => ?_, fun x v e => ?_, fun x e => ?_, fun f e => ?_, fun c e => ?_⟩
  · have := List.all_eq_true.mp h1 (x, k) (lkS_mem e)
    simp only [Bool.and_eq_true, decide_eq_true_eq] at this
    refine ⟨this.1.1, ?_⟩
    have ek : (mkG lw P w K mg base).fa k = He.ga K x := adAt_of this.1.2
    rw [ek]; exact He.glo_ok X N this.2
  · have := List.all_eq_true.mp h2 (x, c) (lkS_mem e)
    simp only [Bool.and_eq_true, decide_eq_true_eq] at this
    have ek : (mkG lw P w K mg base).ca c = He.ga K x := clAt_of this.1.2
    refine ⟨by rw [ek]; exact He.glo_ok X N this.2, ?_⟩
    rw [hC]
    exact ⟨_, List.getElem?_eq_getElem this.1.1⟩
  · have := List.all_eq_true.mp h3 (x, v) (lkS_mem e)
    dsimp only at this
    split at this
    · rename_i u eu
      obtain ⟨v', r1, r2⟩ := valB_ok (G := mkG lw P w K mg base) this
      exact ⟨u, v', PySem.W.mg_of X N eu, r1, r2⟩
    · cases this
  · have hm : x ∈ lw.tb.fr := by simpa using e
    exact He.free_ok X N (List.all_eq_true.mp h4 x hm)
  · have hm : f ∈ lw.tb.ms := by simpa using e
    have := List.all_eq_true.mp k2 f hm
    rw [List.any_eq_true] at this
    obtain ⟨q, hq, hs⟩ := this
    obtain ⟨c, hc⟩ := List.mem_iff_getElem?.mp hq
    obtain ⟨k, ek⟩ := Option.isSome_iff_exists.mp hs
    exact ⟨c, q, k, by rw [hC]; exact hc, ek⟩
  · have hm : c ∈ lw.tb.isc := by simpa using e
    exact isiB_ok (List.all_eq_true.mp h6 c hm)
end
/-! ### the Hook -/
def obsM (lw : Lw) (K : PySem.W.Frag) : Bool × List He.FnW :=
  (exB lw K && (List.range lw.ds.length).all fun k => match lw.ds[k]? with
    | some d => fnOkB K (adAt K lw.ads k) d
    | none => true, (List.range lw.ds.length).map fun k => fnAt K (adAt K lw.ads k))
def valM (lw : Lw) : Bool × List He.FnW := (true, lw.ds.map Df.val)
def hookM (n : Nat) (lw : Lw) : PySem.W.Hook where
  α := Bool × List He.FnW
  obs := fun s => obsM lw (He.frG s.heap.get? (He.asD s.heap.get? n))
  val := fun _ => valM lw
  says := fun _ h => ∃ K : PySem.W.Frag, K.In h ∧ obsM lw K = valM lw
  of := fun _ _ e => ⟨_, He.frG_in, e⟩
  keeps := fun _ _ _ ⟨K, hK, c⟩ k => ⟨K, PySem.W.Frag.In.keeps hK k, c⟩
def obT (n : Nat) (lw : Lw) (s : PySem.W.SharedT) : Bool × List He.FnW := obsM lw (He.frG (HandSHeadRun.getT s) (He.asD (HandSHeadRun.getT s) n))
theorem obT_eq (n : Nat) (lw : Lw) (s : PySem.W.SharedT) : obT n lw s = (hookM n lw).obs s.abs := by
  have e : HandSHeadRun.getT s = s.abs.heap.get? := funext (HandSHeadRun.getT_eq s)
  show obsM lw (He.frG (HandSHeadRun.getT s) (He.asD (HandSHeadRun.getT s) n)) = obsM lw (He.frG s.abs.heap.get? (He.asD s.abs.heap.get? n))
  rw [e]
section
variable {lw : Lw} {P : Program} {w : World} {K : PySem.W.Frag} {mg : Str → Option Value} {base h : Heap}
theorem funs_of (e : obsM lw K = valM lw) {k : Nat} {d : Df} (hd : lw.ds[k]? = some d) : ∃ fd, FunD K d.name d.qual d.params d.body d.scope [] [] (adAt K lw.ads k) fd := by
  have e1 := congrArg Prod.fst e
  have e2 := congrArg Prod.snd e
  simp only [obsM, valM, Bool.and_eq_true] at e1 e2
  have hk : k < lw.ds.length := (List.getElem?_eq_some_iff.mp hd).1
  have e3 := List.all_eq_true.mp e1.2 k (List.mem_range.mpr hk)
  rw [hd] at e3
  have e4 := congrArg (fun l => l[k]?) e2
  simp only [List.getElem?_map, List.getElem?_range hk, hd, Option.map_some, Option.some.injEq] at e4
  exact funD_of e4 e3
theorem ex_of (e : obsM lw K = valM lw) : exB lw K = true := by
  have e1 := congrArg Prod.fst e
  simp only [obsM, valM, Bool.and_eq_true] at e1
  exact e1.1
theorem allF_of (e : obsM lw K = valM lw) (hk : ckL lw = true) (hb : AllB lw.ds) (X : K.In h) (N : h.Ns mainGlobals mg) : AllF (mkG lw P w K mg base) lw.pr lw.tb lw.ds where
  tbF := fun C hC => tbF_of (ex_of e) hk X N C hC
  df := fun k d hd => by
    obtain ⟨fd, F⟩ := funs_of e hd
    exact ⟨fd, F, FunD.bindsN F (hb.get hd)⟩
  ck := fun k f hf => by
    simp only [ckL, Bool.and_eq_true] at hk
    have := List.all_eq_true.mp hk.2 k (List.mem_range.mpr (List.getElem?_eq_some_iff.mp hf).1)
    rw [hf] at this
    cases hd : lw.ds[k]? with
    | none => rw [hd] at this; cases this
    | some d =>
      rw [hd] at this
      simp only [Bool.and_eq_true] at this
      exact ⟨d, rfl, this.1⟩
/-- what walk_ofE asks -/
theorem law_facts {d k wf : Nat} {x : Str} {f : FunI} {df : Df} {fa : Addr} {P : Program} {w : World} (hk : ckL lw = true) (hb : AllB lw.ds) (ef : lw.pr.fs[k]? = some f) (ed : lw.ds[k]? = some df) (hps : df.ps = [x]) (had : lw.ads[k]? = some (.glo "law"))
    (plain : ∀ ns : List Int, ns.length ≤ 63 → ∃ h', callN lw.pr wf (d + 1) k [.ref 0] (h0 ns) = .ok (.bl true) h') (hfn : lw.tb.fn.lookup ("law" : Str) = some k) (X : K.In h) (N : h.Ns mainGlobals mg) (e : obsM lw K = valM lw) (hmg : mg ("law" : Str) = some (.ref fa)) :
    ∃ (K : PySem.W.Frag) (fd : FuncData) (sp : Sp), K.In h ∧ (∀ (s : Shared) (u : Value), BindsTo s fd ⟨[u], []⟩ [(x, u)]) ∧
      (∀ (H : Hp) (a : Addr) (ns : List Int), ns.length ≤ 63 → Only H → SqL K H a (ns.map V.int) → sp [.ref a] H (fun v _ => v = .bl true) fun _ _ _ => False) ∧
      ∀ base : Heap, K.In base → base.Ns mainGlobals mg → FnOk P w K mg base CX0 (2 * d + 1 + 1) fa fd [x] sp := by
  obtain ⟨fd, F⟩ := funs_of e ed
  have eg := (tbF_of (P := P) (w := w) (base := h) (ex_of e) hk X N ⟨fun _ _ _ => .no, lw.pr.cs, 0⟩ rfl).fnF "law" k hfn
  have ea : fa = adAt K lw.ads k := by
    have := eg.2.symm.trans hmg
    cases this; rfl
  subst ea
  have b := FunD.bindsA (ps := df.ps) F (hb.get ed)
  have hd : dfB lw.tb df f = true := by
    have A := allF_of (P := P) (w := w) (base := h) e hk hb X N
    obtain ⟨d', e1, e2⟩ := A.ck k f ef
    rw [ed] at e1; cases e1; exact e2
  refine ⟨K, fd, fun vs H Q EX => vs.length = 1 ∧ ∀ base, ∃ r h ws, Sim (mkG lw P w K mg base) r h H ∧ RelWs (mkG lw P w K mg base) r H ws vs ∧ Post (mkG lw P w K mg base) r H (RelW (mkG lw P w K mg base)) Q EX (callN lw.pr wf (d + 1) k ws h), X, fun s u => by have := b s [u] (by rw [hps]; rfl); rw [hps] at this; exact this, fun H a ns hl ho hs => ?_, fun base KB NB => ?_⟩
  · exact ⟨rfl, fun base => (law_sp (G := mkG lw P w K mg base) plain H a ns hl ho hs).2⟩
  · have A := allF_of (P := P) (w := w) (base := base) e hk hb KB NB
    have := law_fn (wf := wf) (d := d) A ef hd hps F
    exact this.imp fun vs H Q EX h => ⟨h.1, h.2 base⟩
end
end Mi

set_option Elab.async false
set_option linter.all false
set_option maxRecDepth 100000
set_option maxHeartbeats 4000000
/-! Reasoning about the interpreter. -/
namespace Mi
open PySem PySem.Spec

def Ok {α : Type} (x : R α) (Q : α → Hh → Prop) : Prop := match x with
  | .ok a h => Q a h
  | _ => False
structure Dn where
  nx : Sl → Hh → Prop
  rt : W → Hh → Prop
  bk : Sl → Hh → Prop := fun _ _ => False
  ct : Sl → Hh → Prop := fun _ _ => False
def OkS (x : RS) (D : Dn) : Prop := match x with
  | .nx s h => D.nx s h
  | .rt w h => D.rt w h
  | .bk s h => D.bk s h
  | .ct s h => D.ct s h
  | _ => False
section
variable {α β : Type}
theorem Ok_ok {a : α} {h : Hh} {Q : α → Hh → Prop} : Ok (.ok a h) Q ↔ Q a h := Iff.rfl
theorem Ok_no {Q : α → Hh → Prop} : Ok (.no : R α) Q ↔ False := Iff.rfl
theorem Ok_bind {x : R α} {f : α → Hh → R β} {Q : β → Hh → Prop} : Ok (x.bind f) Q ↔ Ok x fun a h => Ok (f a h) Q := by cases x <;> exact Iff.rfl
theorem Ok_bindN {x : R α} {f : α → Hh → R β} {Q : β → Hh → Prop} : Ok (x.bindN f) Q ↔ Ok x fun a h => Ok (f a h) Q := by cases x <;> exact Iff.rfl
theorem Ok_nx {x : R α} {Q : α → Hh → Prop} : Ok x.nx Q ↔ Ok x Q := by cases x <;> exact Iff.rfl
theorem Ok_of {h : Hh} {o : Option α} {Q : α → Hh → Prop} : Ok (R.of h o) Q ↔ ∃ a, o = some a ∧ Q a h := by
  cases o with
  | none => exact ⟨False.elim, fun ⟨_, e, _⟩ => by cases e⟩
  | some a => exact ⟨fun q => ⟨a, rfl, q⟩, fun ⟨_, e, q⟩ => by cases e; exact q⟩
theorem Ok_ofS {h : Hh} {a : α} {Q : α → Hh → Prop} : Ok (R.of h (some a)) Q ↔ Q a h := Iff.rfl
theorem Ok_ite {c : Prop} [Decidable c] {x y : R α} {Q : α → Hh → Prop} : Ok (if c then x else y) Q ↔ if c then Ok x Q else Ok y Q := by split <;> rfl
theorem Ok.mono {x : R α} {Q Q' : α → Hh → Prop} (h : Ok x Q) (w : ∀ a h, Q a h → Q' a h) : Ok x Q' := by
  cases x with
  | ok a h' => exact w _ _ h
  | ex c fs h' => exact h
  | no => exact h
theorem Ok.out {x : R α} {Q : α → Hh → Prop} (h : Ok x Q) : ∃ a h', x = .ok a h' ∧ Q a h' := by
  cases x with
  | ok a h' => exact ⟨a, h', rfl, h⟩
  | ex c fs h' => exact h.elim
  | no => exact h.elim
theorem OkS_toS {x : R α} {s : Sl} {f : α → Hh → RS} {D : Dn} : OkS (x.toS s f) D ↔ Ok x fun a h => OkS (f a h) D := by cases x <;> exact Iff.rfl
theorem OkS_nx {s : Sl} {h : Hh} {D : Dn} : OkS (.nx s h) D ↔ D.nx s h := Iff.rfl
theorem OkS_rt {s : W} {h : Hh} {D : Dn} : OkS (.rt s h) D ↔ D.rt s h := Iff.rfl
theorem OkS_bk {s : Sl} {h : Hh} {D : Dn} : OkS (.bk s h) D ↔ D.bk s h := Iff.rfl
theorem OkS_ct {s : Sl} {h : Hh} {D : Dn} : OkS (.ct s h) D ↔ D.ct s h := Iff.rfl
theorem OkS_ite {c : Prop} [Decidable c] {x y : RS} {D : Dn} : OkS (if c then x else y) D ↔ if c then OkS x D else OkS y D := by split <;> rfl
theorem OkS.mono {x : RS} {D D' : Dn} (h : OkS x D) (h1 : ∀ s h, D.nx s h → D'.nx s h) (h2 : ∀ s h, D.rt s h → D'.rt s h) (h3 : ∀ s h, D.bk s h → D'.bk s h) (h4 : ∀ s h, D.ct s h → D'.ct s h) : OkS x D' := by
  cases x with
  | nx s h' => exact h1 _ _ h
  | rt s h' => exact h2 _ _ h
  | bk s h' => exact h3 _ _ h
  | ct s h' => exact h4 _ _ h
  | ex c fs s h' => exact h
  | no => exact h
theorem OkS_cons {C : Cal} {a : Mi.S} {r : Ss} {s : Sl} {h : Hh} {D : Dn} : OkS (evSs C (.cons a r) s h) D ↔ OkS (evS C a s h) { D with nx := fun s1 h1 => OkS (evSs C r s1 h1) D } := by
  simp only [evSs]
  cases evS C a s h <;> rfl
theorem OkS_nil {C : Cal} {s : Sl} {h : Hh} {D : Dn} : OkS (evSs C .nil s h) D ↔ D.nx s h := by simp only [evSs]; rfl
end
/-- a def's run -/
theorem Ok_call {P : Pr} {wf d k : Nat} {ws : List W} {h : Hh} {Q : W → Hh → Prop} (f : FunI) (st : Sl) (ef : P.fs[k]? = some f) (hl : ws.length = f.np) (es : startS f.ns ws = st) :
    Ok (callN P wf (d + 1) k ws h) Q ↔ OkS (evSs (calN P wf d) f.body st h) { nx := fun _ h' => Q .non h', rt := Q } := by
  subst es
  simp only [callN, ef, if_pos hl, calN]
  cases evSs ⟨callN P wf d, P.cs, wf⟩ f.body (startS f.ns ws) h <;> exact Iff.rfl
theorem calN_call {P : Pr} {wf d : Nat} : (calN P wf d).call = callN P wf d := rfl
theorem calN_cs {P : Pr} {wf d : Nat} : (calN P wf d).cs = P.cs := rfl
theorem ownEq0 {P : Pr} {wf d : Nat} (hc : ∀ (c : Nat) (q : ClsI), P.cs[c]? = some q → q.eqm = none) (x : W) (h : Hh) : ownEq (calN P wf d) x h = none := ownEq_none (C := calN P wf d) hc x h
/-! ### the heap -/
theorem get_push_lt {h : Hh} {o : O} {j : Nat} (c : j < h.n) : (h.push o).get j = h.get j := by rw [Hh.get_push, if_neg (by omega)]
theorem get_push_eq {h : Hh} {o : O} : (h.push o).get h.n = some o := by rw [Hh.get_push, if_pos rfl]
theorem get_push_at {h : Hh} {o : O} {j : Nat} (c : j = h.n) : (h.push o).get j = some o := by rw [Hh.get_push, if_pos c]
theorem get_put_eq {h : Hh} {o : O} {j : Nat} : (h.put j o).get j = some o := by rw [Hh.get_put, if_pos rfl]
theorem get_put_ne {h : Hh} {o : O} {i j : Nat} (c : j ≠ i) : (h.put i o).get j = h.get j := by rw [Hh.get_put, if_neg c]
/-- what a run leaves: all but the cells at S -/
structure Fr (h h' : Hh) (S : List Nat) : Prop where
  le : h.n ≤ h'.n
  eq : ∀ j, j < h.n → j ∉ S → h'.get j = h.get j
theorem Fr.refl {h : Hh} {S : List Nat} : Fr h h S := ⟨Nat.le_refl _, fun _ _ _ => rfl⟩
theorem Fr.trans {h h1 h2 : Hh} {S : List Nat} (a : Fr h h1 S) (b : Fr h1 h2 S) : Fr h h2 S := ⟨Nat.le_trans a.le b.le, fun j l n => (b.eq j (Nat.lt_of_lt_of_le l a.le) n).trans (a.eq j l n)⟩
theorem Fr.mono {h h' : Hh} {S S' : List Nat} (a : Fr h h' S) (w : ∀ j ∈ S, j ∈ S') : Fr h h' S' := ⟨a.le, fun j l n => a.eq j l fun c => n (w j c)⟩
theorem Fr.push {h : Hh} {o : O} {S : List Nat} : Fr h (h.push o) S := ⟨Nat.le_succ _, fun j l _ => get_push_lt l⟩
theorem Fr.put {h : Hh} {o : O} {i : Nat} {S : List Nat} (c : i ∈ S) : Fr h (h.put i o) S := ⟨Nat.le_refl _, fun j _ n => get_put_ne fun e => n (e ▸ c)⟩
/-- a cell beyond the old ones may change -/
theorem Fr.putN {h h1 : Hh} {o : O} {i : Nat} {S : List Nat} (a : Fr h h1 S) (c : h.n ≤ i) : Fr h (h1.put i o) S := ⟨a.le, fun j l n => (get_put_ne (by omega)).trans (a.eq j l n)⟩
theorem Fr.get {h h' : Hh} {S : List Nat} {j : Nat} {o : O} (a : Fr h h' S) (e : h.get j = some o) (l : j < h.n) (n : j ∉ S) : h'.get j = some o := (a.eq j l n).trans e
theorem getS_0 {w : W} {s : Sl} : getS (some w :: s) 0 = some w := rfl
theorem getS_s {x : Option W} {s : Sl} {i : Nat} : getS (x :: s) (i + 1) = getS s i := rfl
theorem tru_bl {h : Hh} {b : Bool} : tru h (.bl b) = some b := rfl
theorem Ok_tt {x y : R α} {Q : α → Hh → Prop} : Ok (match true with | true => x | false => y) Q ↔ Ok x Q := Iff.rfl
theorem ix_lst {h : Hh} {n : Nat} {ws : List W} {i : Int} (e : h.get n = some (.lst ws)) : ixW (.ref n) (.int i) h = L2.atI ws i := by simp only [ixW, seqAt, e]
theorem ix_dic {h : Hh} {n : Nat} {kvs : List (Key × W)} {i : Int} (e : h.get n = some (.dic kvs)) : ixW (.ref n) (.int i) h = valK kvs (.inl i) := by simp only [ixW, seqAt, e, keyW]
theorem ix_tup {h : Hh} {ws : List W} {i : Int} : ixW (.tup ws) (.int i) h = L2.atI ws i := rfl
theorem at_0 {α : Type} {x : α} {l : List α} : L2.atI (x :: l) 0 = some x := by
  unfold L2.atI L2.ixN
  rw [if_pos (by decide), if_pos (by simp only [List.length_cons]; omega)]; rfl
theorem at_1 {α : Type} {x y : α} {l : List α} : L2.atI (x :: y :: l) 1 = some y := by
  unfold L2.atI L2.ixN
  rw [if_pos (by decide), if_pos (by simp only [List.length_cons]; omega)]; rfl
theorem at_2 {α : Type} {x y z : α} {l : List α} : L2.atI (x :: y :: z :: l) 2 = some z := by
  unfold L2.atI L2.ixN
  rw [if_pos (by decide), if_pos (by simp only [List.length_cons]; omega)]; rfl
theorem set_l0 {h : Hh} {n : Nat} {x : W} {ws : List W} {v : W} (e : h.get n = some (.lst (x :: ws))) : setIx (.ref n) (.int 0) v h = some (h.put n (.lst (v :: ws))) := by
  have : L2.ixN (x :: ws).length 0 = some 0 := by unfold L2.ixN; rw [if_pos (by decide), if_pos (by simp only [List.length_cons]; omega)]; rfl
  simp only [setIx, e, this, List.set_cons_zero]
theorem set_l1 {h : Hh} {n : Nat} {x y : W} {ws : List W} {v : W} (e : h.get n = some (.lst (x :: y :: ws))) : setIx (.ref n) (.int 1) v h = some (h.put n (.lst (x :: v :: ws))) := by
  have : L2.ixN (x :: y :: ws).length 1 = some 1 := by unfold L2.ixN; rw [if_pos (by decide), if_pos (by simp only [List.length_cons]; omega)]; rfl
  simp only [setIx, e, this, List.set_cons_succ, List.set_cons_zero]
section
variable {h : Hh} {i j : Int} {k : Bool} {C : Cal} {x y : W}
theorem bin_add : binW .add (.int i) (.int j) h = .ok (.int (i + j)) h := rfl
theorem bin_sub : binW .sub (.int i) (.int j) h = .ok (.int (i - j)) h := rfl
theorem bin_mul (c : L2.CMul i j) : binW .mul (.int i) (.int j) h = .ok (.int (i * j)) h := by simp only [binW, mulW, if_pos c]
theorem bin_mulc (c : -(2 ^ 64) < j ∧ j < 2 ^ 64) : binW .mul (.int i) (.int j) h = .ok (.int (i * j)) h := bin_mul (.inr c)
theorem bin_fdivc (c : 0 < j ∧ j < 1073741824) : binW .fdiv (.int i) (.int j) h = .ok (.int (i / j)) h := by
  have c' : L2.CDiv i j := c
  simp only [binW, intI, if_pos c', R.of]
theorem bin_fdiv (c : L2.CDiv i j) : binW .fdiv (.int i) (.int j) h = .ok (.int (i / j)) h := by simp only [binW, intI, if_pos c, R.of]
theorem bin_mod (c : 0 < j) : binW .mod (.int i) (.int j) h = .ok (.int (i % j)) h := by simp only [binW, intI, if_pos c, R.of]
theorem bin_pow (c : L2.CPow i j) : binW .pow (.int i) (.int j) h = .ok (.int (i ^ j.toNat)) h := by simp only [binW, intI, if_pos c, R.of]
theorem cmp_lt : cmpW C .lt (.int i) (.int j) h = .ok (.bl (decide (i < j))) h := rfl
theorem cmp_le : cmpW C .le (.int i) (.int j) h = .ok (.bl (decide (i ≤ j))) h := rfl
theorem cmp_gt : cmpW C .gt (.int i) (.int j) h = .ok (.bl (decide (j < i))) h := rfl
theorem cmp_ge : cmpW C .ge (.int i) (.int j) h = .ok (.bl (decide (j ≤ i))) h := rfl
theorem cmp_isN : cmpW C .is x .non h = .ok (.bl (isNonW x)) h := rfl
theorem cmp_isnN : cmpW C .isn x .non h = .ok (.bl (!isNonW x)) h := rfl
theorem cmp_isin : cmpW C .isin x y h = .of h ((inW x y h).map .bl) := rfl
theorem cmp_nin : cmpW C .nin x y h = .of h ((inW x y h).map fun b => .bl (!b)) := rfl
theorem cmp_eq (hc : NoEq C) : cmpW C .eq x y h = .of h ((eqData x y h).map .bl) := by simp only [cmpW, ownEq_none hc]
theorem cmp_ne (hc : NoEq C) : cmpW C .ne x y h = .of h ((eqData x y h).map fun b => .bl (!b)) := by simp only [cmpW, ownEq_none hc]
theorem bc_int : bcW .int1 [.int i] h = .ok (.int i) h := rfl
theorem bc_abs : bcW .abs1 [.int i] h = .ok (.int (if i < 0 then -i else i)) h := rfl
theorem bc_max : bcW .max2 [.int i, .int j] h = .ok (.int (if j > i then j else i)) h := rfl
theorem bc_min : bcW .min2 [.int i, .int j] h = .ok (.int (if j < i then j else i)) h := rfl
theorem bc_divmod (c : L2.CDiv i j) : bcW .divmod2 [.int i, .int j] h = .ok (.tup [.int (i / j), .int (i % j)]) h := by simp only [bcW, if_pos c]
theorem bc_len {n : Nat} {ws : List W} (e : h.get n = some (.lst ws)) : bcW .len1 [.ref n] h = .ok (.int ws.length) h := by simp [bcW, lenW, e, R.of]
theorem bc_lenF {n : Nat} {ws : List W} (e : h.get n = some (.frz ws)) : bcW .len1 [.ref n] h = .ok (.int ws.length) h := by simp [bcW, lenW, e, R.of]
theorem bc_lenD {n : Nat} {ws : List (Key × W)} (e : h.get n = some (.dic ws)) : bcW .len1 [.ref n] h = .ok (.int ws.length) h := by simp [bcW, lenW, e, R.of]
theorem bc_listL {n : Nat} {ws : List W} (e : h.get n = some (.lst ws)) : bcW .list1 [.ref n] h = .ok (.ref h.n) (h.push (.lst ws)) := by simp [bcW, seqAt, e]
theorem bc_listD {n : Nat} {ws : List (Key × W)} (e : h.get n = some (.dic ws)) : bcW .list1 [.ref n] h = .ok (.ref h.n) (h.push (.lst (ws.map fun kv => kW kv.1))) := by simp [bcW, seqAt, e]
theorem bc_sortL {n : Nat} {ns : List Int} (e : h.get n = some (.lst (ns.map .int))) (hl : ns.length < 64) : bcW .sorted1 [.ref n] h = .ok (.ref h.n) (h.push (.lst ((sortI ns).map .int))) := by
  have : intsW (ns.map .int) = some ns := by
    clear e hl
    induction ns with
    | nil => rfl
    | cons a t ih => simp [intsW, ih]
  simp only [bcW, seqAt, e, this, sorted1, if_pos hl]
theorem bc_sortD {n : Nat} {ws : List (Key × W)} {ns : List Int} (e : h.get n = some (.dic ws)) (ek : keysI ws = some ns) (hl : ns.length < 64) : bcW .sorted1 [.ref n] h = .ok (.ref h.n) (h.push (.lst ((sortI ns).map .int))) := by
  simp only [bcW, seqAt, e, ek, sorted1, if_pos hl]
theorem bc_dict {n : Nat} {ws : List (Key × W)} (e : h.get n = some (.dic ws)) : bcW .dict1 [.ref n] h = .ok (.ref h.n) (h.push (.dic ws)) := by simp only [bcW, e]
end
theorem set_lst {h : Hh} {n j : Nat} {ws : List W} {i : Int} {v : W} (e : h.get n = some (.lst ws)) (ei : L2.ixN ws.length i = some j) : setIx (.ref n) (.int i) v h = some (h.put n (.lst (ws.set j v))) := by simp only [setIx, e, ei]
theorem set_dic {h : Hh} {n : Nat} {kvs : List (Key × W)} {i : Int} {v : W} (e : h.get n = some (.dic kvs)) (hl : kvs.length < sizeLine) : setIx (.ref n) (.int i) v h = some (h.put n (.dic (putKW kvs (.inl i) v))) := by simp only [setIx, e, keyW, if_pos hl]
theorem evT_cst {C : Cal} {s : Sl} {h : Hh} {w : W} : evT C (.cst w) s h = (evE C (.cst w) s h).bind fun x h1 => .of h1 (tru h1 x) := by simp only [evT]
theorem evT_var {C : Cal} {s : Sl} {h : Hh} {i : Nat} : evT C (.var i) s h = (evE C (.var i) s h).bind fun x h1 => .of h1 (tru h1 x) := by simp only [evT]
theorem evT_glo {C : Cal} {s : Sl} {h : Hh} {w : W} : evT C (.glo w) s h = (evE C (.glo w) s h).bind fun x h1 => .of h1 (tru h1 x) := by simp only [evT]
theorem evT_bin {C : Cal} {s : Sl} {h : Hh} {op : Bop} {a b : E} : evT C (.bin op a b) s h = (evE C (.bin op a b) s h).bind fun x h1 => .of h1 (tru h1 x) := by simp only [evT]
theorem evT_neg {C : Cal} {s : Sl} {h : Hh} {a : E} : evT C (.neg a) s h = (evE C (.neg a) s h).bind fun x h1 => .of h1 (tru h1 x) := by simp only [evT]
theorem evT_fld {C : Cal} {s : Sl} {h : Hh} {o : E} {f : Nat} : evT C (.fld o f) s h = (evE C (.fld o f) s h).bind fun x h1 => .of h1 (tru h1 x) := by simp only [evT]
theorem evT_ix {C : Cal} {s : Sl} {h : Hh} {a b : E} : evT C (.ix a b) s h = (evE C (.ix a b) s h).bind fun x h1 => .of h1 (tru h1 x) := by simp only [evT]
theorem evT_rev {C : Cal} {s : Sl} {h : Hh} {a : E} : evT C (.rev a) s h = (evE C (.rev a) s h).bind fun x h1 => .of h1 (tru h1 x) := by simp only [evT]
theorem evT_slc {C : Cal} {s : Sl} {h : Hh} {a : E} {l u : Eo} : evT C (.slc a l u) s h = (evE C (.slc a l u) s h).bind fun x h1 => .of h1 (tru h1 x) := by simp only [evT]
theorem evT_lst {C : Cal} {s : Sl} {h : Hh} {es : Es} : evT C (.lst es) s h = (evE C (.lst es) s h).bind fun x h1 => .of h1 (tru h1 x) := by simp only [evT]
theorem evT_tup {C : Cal} {s : Sl} {h : Hh} {es : Es} : evT C (.tup es) s h = (evE C (.tup es) s h).bind fun x h1 => .of h1 (tru h1 x) := by simp only [evT]
theorem evT_call {C : Cal} {s : Sl} {h : Hh} {k : Nat} {es : Es} {pm : List Nat} : evT C (.call k es pm) s h = (evE C (.call k es pm) s h).bind fun x h1 => .of h1 (tru h1 x) := by simp only [evT]
theorem evT_make {C : Cal} {s : Sl} {h : Hh} {k : Nat} {es : Es} {pm : List Nat} : evT C (.make k es pm) s h = (evE C (.make k es pm) s h).bind fun x h1 => .of h1 (tru h1 x) := by simp only [evT]
theorem evT_meth {C : Cal} {s : Sl} {h : Hh} {o : E} {k : Nat} {es : Es} {pm : List Nat} : evT C (.meth o k es pm) s h = (evE C (.meth o k es pm) s h).bind fun x h1 => .of h1 (tru h1 x) := by simp only [evT]
theorem evT_callv {C : Cal} {s : Sl} {h : Hh} {i : Nat} {es : Es} : evT C (.callv i es) s h = (evE C (.callv i es) s h).bind fun x h1 => .of h1 (tru h1 x) := by simp only [evT]
theorem evT_bc {C : Cal} {s : Sl} {h : Hh} {b : Bc} {es : Es} : evT C (.bc b es) s h = (evE C (.bc b es) s h).bind fun x h1 => .of h1 (tru h1 x) := by simp only [evT]
theorem evT_bm {C : Cal} {s : Sl} {h : Hh} {b : Bm} {o : E} {es : Es} : evT C (.bm b o es) s h = (evE C (.bm b o es) s h).bind fun x h1 => .of h1 (tru h1 x) := by simp only [evT]
theorem evT_isi {C : Cal} {s : Sl} {h : Hh} {a : E} {tp : Bool} {ts : List Ty} : evT C (.isi a tp ts) s h = (evE C (.isi a tp ts) s h).bind fun x h1 => .of h1 (tru h1 x) := by simp only [evT]
theorem evT_comp {C : Cal} {s : Sl} {h : Hh} {el : E} {tg : Tg} {it : It} {cd : Eo} {own : List Nat} : evT C (.comp el tg it cd own) s h = (evE C (.comp el tg it cd own) s h).bind fun x h1 => .of h1 (tru h1 x) := by simp only [evT]
theorem evT_not {C : Cal} {s : Sl} {h : Hh} {a : E} : evT C (.notE a) s h = (evT C a s h).bind fun k h1 => .ok (!k) h1 := by simp only [evT]
theorem evT_and {C : Cal} {s : Sl} {h : Hh} {a b : E} : evT C (.andE a b) s h = (evT C a s h).bind fun k h1 => match k with
    | true => evT C b s h1
    | false => .ok false h1 := by simp only [evT] <;> rfl
theorem evT_or {C : Cal} {s : Sl} {h : Hh} {a b : E} : evT C (.orE a b) s h = (evT C a s h).bind fun k h1 => match k with
    | true => .ok true h1
    | false => evT C b s h1 := by simp only [evT] <;> rfl
theorem evT_cmp {C : Cal} {s : Sl} {h : Hh} {op : Cop} {a b : E} : evT C (.cmp op a b) s h = (evE C a s h).bind fun x h1 => (evE C b s h1).bind fun y h2 => (cmpW C op x y h2).bindN fun r h3 => match r with
    | .bl k => .ok k h3
    | _ => .no := by simp only [evT] <;> rfl
theorem evT_cmp2 {C : Cal} {s : Sl} {h : Hh} {op op2 : Cop} {a b c : E} : evT C (.cmp2 op op2 a b c) s h = (evE C a s h).bind fun x h1 => (evE C b s h1).bind fun y h2 => (cmpW C op x y h2).bindN fun r h3 => match r with
    | .bl true => (evE C c s h3).bind fun z h4 => (cmpW C op2 y z h4).bindN fun r h5 => match r with
      | .bl k => .ok k h5
      | _ => .no
    | .bl false => .ok false h3
    | _ => .no := by simp only [evT] <;> rfl
theorem newL_c {h : Hh} {ws : List W} (c : ws.length ≤ 1000) : newL h ws = .ok (.ref h.n) (h.push (.lst ws)) := by
  unfold newL
  rw [if_pos (by rw [sizeLine_eq]; omega)]
theorem newT_c {h : Hh} {ws : List W} (c : ws.length ≤ 1000) : newT h ws = .ok (.tup ws) h := by
  unfold newT
  rw [if_pos (by rw [sizeLine_eq]; omega)]
end Mi

set_option Elab.async false
set_option linter.all false
set_option maxRecDepth 100000
set_option maxHeartbeats 4000000
/-! Loops. -/
namespace Mi
open PySem PySem.Spec
theorem forL_ok {asg : W → Sl → Hh → R Sl} {body : Sl → Hh → RS} {j : J} (n : Nat) (it : Nat → W) (Iv : Nat → Sl → Hh → Prop) {D : Dn}
    (hn : ∀ i s h, i ≤ n → Iv i s h → j.next i h = some (if i < n then some (it i) else none))
    (step : ∀ i s h, i < n → Iv i s h → Ok (asg (it i) s h) fun s1 h1 => OkS (body s1 h1) { nx := Iv (i + 1), rt := D.rt, bk := D.nx, ct := Iv (i + 1) })
    (fin : ∀ s h, Iv n s h → D.nx s h) : ∀ (k i : Nat) (s : Sl) (h : Hh), i ≤ n → n < i + k → Iv i s h → OkS (forL asg body j k i s h) D
  | 0, i, s, h, h1, h2, iv => absurd h2 (by omega)
  | k + 1, i, s, h, h1, h2, iv => by
    simp only [forL, hn i s h h1 iv]
    by_cases c : i < n
    · rw [if_pos c]
      dsimp only
      rw [OkS_toS]
      refine (step i s h c iv).mono fun s1 h1' q => ?_
      cases e : body s1 h1' with
      | nx s2 h2' => rw [e] at q; exact forL_ok n it Iv hn step fin k (i + 1) s2 h2' (by omega) (by omega) q
      | ct s2 h2' => rw [e] at q; exact forL_ok n it Iv hn step fin k (i + 1) s2 h2' (by omega) (by omega) q
      | bk s2 h2' => rw [e] at q; exact q
      | rt w h2' => rw [e] at q; exact q
      | ex c fs s2 h2' => rw [e] at q; exact q
      | no => rw [e] at q; exact q
    · rw [if_neg c]
      have : i = n := by omega
      subst this
      exact fin s h iv
theorem compL_ok {asg : W → Sl → Hh → R Sl} {tst : Sl → Hh → R Bool} {elt : Sl → Hh → R W} {j : J} {dn : Nat} {s : Sl} (n : Nat) (it : Nat → W) (Iv : Nat → List W → Hh → Prop) {Q : Unit → Hh → Prop}
    (hn : ∀ i acc h, i ≤ n → Iv i acc h → j.next i h = some (if i < n then some (it i) else none))
    (step : ∀ i acc h, i < n → Iv i acc h → Ok (asg (it i) s h) fun s1 h1 => Ok (tst s1 h1) fun b h2 => if b = true then Ok (elt s1 h2) fun y h3 => h3.get dn = some (.lst acc) ∧ acc.length < sizeLine ∧ Iv (i + 1) (acc ++ [y]) (h3.put dn (.lst (acc ++ [y]))) else Iv (i + 1) acc h2)
    (fin : ∀ acc h, Iv n acc h → Q () h) : ∀ (k i : Nat) (acc : List W) (h : Hh), i ≤ n → n < i + k → Iv i acc h → Ok (compL asg tst elt j dn s k i h) Q
  | 0, i, acc, h, h1, h2, iv => absurd h2 (by omega)
  | k + 1, i, acc, h, h1, h2, iv => by
    simp only [compL, hn i acc h h1 iv]
    by_cases c : i < n
    · rw [if_pos c]
      dsimp only
      rw [Ok_bindN]
      refine (step i acc h c iv).mono fun s1 h1' q => ?_
      rw [Ok_bindN]
      refine q.mono fun b h2' q => ?_
      cases b with
      | false => exact compL_ok n it Iv hn step fin k (i + 1) acc h2' (by omega) (by omega) (by simpa using q)
      | true =>
        dsimp only
        rw [if_pos rfl] at q
        rw [Ok_bindN]
        refine q.mono fun y h3 q => ?_
        obtain ⟨q1, q2, q3⟩ := q
        rw [q1]
        dsimp only
        rw [if_pos q2]
        exact compL_ok n it Iv hn step fin k (i + 1) _ _ (by omega) (by omega) q3
    · rw [if_neg c]
      have : i = n := by omega
      subst this
      exact fin acc h iv
theorem next_seq {h : Hh} {n : Nat} {ws : List W} {i : Nat} (e : h.get n = some (.lst ws)) : (J.seq (.ref n)).next i h = some ws[i]? := by simp only [J.next, seqAt, e, Option.map]
theorem fuel_seq {h : Hh} {n : Nat} {ws : List W} (e : h.get n = some (.lst ws)) : (J.seq (.ref n)).fuel h = ws.length + 1 := by simp only [J.fuel, seqAt, e]
theorem at_if (ws : List W) (i : Nat) : ws[i]? = if i < ws.length then some (ws.getD i .non) else none := by
  by_cases c : i < ws.length
  · rw [if_pos c, List.getElem?_eq_getElem c, List.getD_eq_getElem?_getD, List.getElem?_eq_getElem c]; rfl
  · rw [if_neg c, List.getElem?_eq_none_iff.mpr (by omega)]
/-- over a list that the loop leaves -/
theorem for_lst {C : Cal} {t : Tg} {b : Ss} {h : Hh} {s : Sl} {r : Nat} (ws : List W) (Iv : Nat → Sl → Hh → Prop) {D : Dn} (h0 : Iv 0 s h) (hl : ∀ i s h, Iv i s h → h.get r = some (.lst ws))
    (step : ∀ i s h w, ws[i]? = some w → Iv i s h → Ok (evG C t w s h) fun s1 h1 => OkS (evSs C b s1 h1) { nx := Iv (i + 1), rt := D.rt, bk := D.nx, ct := Iv (i + 1) })
    (fin : ∀ s h, Iv ws.length s h → D.nx s h) : OkS (forL (evG C t) (evSs C b) (.seq (.ref r)) ((J.seq (.ref r)).fuel h) 0 s h) D := by
  rw [fuel_seq (hl 0 s h h0)]
  refine forL_ok ws.length (fun i => ws.getD i .non) Iv (fun i s h _ iv => by rw [next_seq (hl i s h iv), at_if]) (fun i s h c iv => ?_) fin _ 0 s h (Nat.zero_le _) (by omega) h0
  refine step i s h _ ?_ iv
  rw [at_if, if_pos c]
theorem comp_lst {C : Cal} {tg : Tg} {cd : Eo} {el : E} {h : Hh} {s : Sl} {r dn : Nat} (ws : List W) (Iv : Nat → List W → Hh → Prop) {Q : Unit → Hh → Prop} (h0 : Iv 0 [] h) (hl : ∀ i acc h, Iv i acc h → h.get r = some (.lst ws))
    (step : ∀ i acc h w, ws[i]? = some w → Iv i acc h → Ok (evG C tg w s h) fun s1 h1 => Ok (evC C cd s1 h1) fun b h2 => if b = true then Ok (evE C el s1 h2) fun y h3 => h3.get dn = some (.lst acc) ∧ acc.length < sizeLine ∧ Iv (i + 1) (acc ++ [y]) (h3.put dn (.lst (acc ++ [y]))) else Iv (i + 1) acc h2)
    (fin : ∀ acc h, Iv ws.length acc h → Q () h) {k : Nat} (hk : k = ws.length + 1) : Ok (compL (evG C tg) (evC C cd) (evE C el) (.seq (.ref r)) dn s k 0 h) Q := by
  subst hk
  refine compL_ok ws.length (fun i => ws.getD i .non) Iv (fun i acc h _ iv => by rw [next_seq (hl i acc h iv), at_if]) (fun i acc h c iv => ?_) fin _ 0 [] h (Nat.zero_le _) (by omega) h0
  refine step i acc h _ ?_ iv
  rw [at_if, if_pos c]
/-- [elt for x in a list if test]: nothing else is laid -/
theorem comp_pure {C : Cal} {tg : Tg} {cd : Eo} {el : E} {h : Hh} {s : Sl} {r : Nat} {ws : List W} (f : W → Option W) {Q : Unit → Hh → Prop} (hr : h.get r = some (.lst ws)) (hlt : r < h.n) (hz : ws.length ≤ sizeLine)
    (step : ∀ w ∈ ws, ∀ h', Fr h h' [] → Ok (evG C tg w s h') fun s1 h1 => h1 = h' ∧ Ok (evC C cd s1 h') fun b h2 => h2 = h' ∧ if b = true then Ok (evE C el s1 h') fun y h3 => h3 = h' ∧ f w = some y else f w = none)
    (fin : ∀ h', Fr h h' [] → h'.n = h.n + 1 → h'.get h.n = some (.lst (ws.filterMap f)) → Q () h') : Ok (compL (evG C tg) (evC C cd) (evE C el) (.seq (.ref r)) h.n s ((J.seq (.ref r)).fuel h) 0 (h.push (.lst []))) Q := by
  rw [fuel_seq hr]
  have key : ∀ (i : Nat) (w : W), ws[i]? = some w → (ws.take (i + 1)).filterMap f = (ws.take i).filterMap f ++ (match f w with | some y => [y] | none => []) := by
    intro i w e
    rw [List.take_add_one, e]
    simp only [Option.toList, List.filterMap_append, List.filterMap_cons, List.filterMap_nil]
    cases f w <;> rfl
  have lens : ∀ i, i < ws.length → ((ws.take i).filterMap f).length < sizeLine := by
    intro i c
    have := List.length_filterMap_le f (ws.take i)
    have : (ws.take i).length ≤ i := by simp; omega
    omega
  refine comp_lst ws (fun i acc h' => Fr h h' [] ∧ h'.n = h.n + 1 ∧ h'.get h.n = some (.lst acc) ∧ acc = (ws.take i).filterMap f) ⟨Fr.push, rfl, get_push_eq, rfl⟩ (fun i acc h' iv => iv.1.get hr hlt (by simp)) (fun i acc h' w e iv => ?_) (fun acc h' iv => ?_) rfl
  · obtain ⟨F, hn, hd, ha⟩ := iv
    have lt : i < ws.length := (List.getElem?_eq_some_iff.mp e).1
    refine (step w (List.mem_of_getElem? e) h' F).mono fun s1 h1 q => ?_
    obtain ⟨rfl, q⟩ := q
    refine q.mono fun b h2 q => ?_
    obtain ⟨rfl, q⟩ := q
    cases b with
    | true =>
      rw [if_pos rfl] at q ⊢
      refine q.mono fun y h3 q3 => ?_
      obtain ⟨rfl, q3⟩ := q3
      refine ⟨hd, by rw [ha]; exact lens i lt, F.putN (Nat.le_refl _), hn, get_put_eq, ?_⟩
      rw [ha, key i w e, q3]
    | false =>
      simp only [Bool.false_eq_true, if_false] at q ⊢
      refine ⟨F, hn, hd, ?_⟩
      rw [ha, key i w e, q, List.append_nil]
  · obtain ⟨F, hn, hd, ha⟩ := iv
    rw [List.take_length] at ha
    subst ha
    exact fin h' F hn hd
end Mi

set_option Elab.async false
set_option linter.all false
set_option maxRecDepth 100000
set_option maxHeartbeats 4000000
/-! Data, dicts. -/
namespace Mi
open PySem PySem.Spec
mutual
theorem dat_lay {h : Hh} : ∀ (n : Nat) {w : W} {d : PyData}, dat n h w = some d → d.canLay0 = true
  | 0, _, _, e => by simp [dat] at e
  | n + 1, w, d, e => by
    cases w with
    | non => simp [dat] at e; subst e; rfl
    | bl b => simp [dat] at e; subst e; rfl
    | int i => simp [dat] at e; subst e; rfl
    | str x => simp [dat] at e; obtain ⟨c, rfl⟩ := e; exact c
    | tup ws =>
      simp only [dat, Option.map_eq_some_iff] at e
      obtain ⟨ds, e, rfl⟩ := e
      exact dat_layAll n e
    | ref q =>
      simp only [dat] at e
      split at e
      · simp only [Option.map_eq_some_iff] at e
        obtain ⟨ds, e, rfl⟩ := e
        exact dat_layAll n e
      · simp only [Option.map_eq_some_iff] at e
        obtain ⟨ds, e, rfl⟩ := e
        exact dat_layAll n e
      · cases e
    | fn k => simp [dat] at e
    | cl k => simp [dat] at e
theorem dat_layAll {h : Hh} : ∀ (n : Nat) {ws : List W} {ds : List PyData}, (ws.mapM fun w => dat n h w) = some ds → PyData.canLayAll0 ds = true
  | n, [], ds, e => by simp at e; subst e; rfl
  | n, w :: ws, ds, e => by
    simp only [List.mapM_cons, Option.bind_eq_bind, Option.bind_eq_some_iff] at e
    obtain ⟨d, e1, ds', e2, e3⟩ := e
    cases e3
    simp [PyData.canLayAll0, dat_lay n e1, dat_layAll n e2]
end
theorem eqD_same {h : Hh} {x y : W} {d : PyData} (a : dat dataD h x = some d) (b : dat dataD h y = some d) : eqData x y h = some true := by
  simp only [eqData, a, b, PySem.SeqAt.eqv_refl d (dat_lay _ a)]
theorem dat_int {h : Hh} {n : Nat} {i : Int} : dat (n + 1) h (.int i) = some (.int i) := rfl
theorem dat_ints {h : Hh} {n : Nat} : ∀ {ns : List Int}, ((ns.map W.int).mapM fun w => dat (n + 1) h w) = some (ns.map PyData.int)
  | [] => rfl
  | i :: ns => by
    simp only [List.map_cons, List.mapM_cons, dat_int, dat_ints (ns := ns)]
    rfl
theorem dat_lst {h : Hh} {n q : Nat} {ns : List Int} (e : h.get q = some (.lst (ns.map .int))) : dat (n + 2) h (.ref q) = some (.list (ns.map .int)) := by
  show (match h.get q with
    | some (.lst ws) => (ws.mapM fun w => dat (n + 1) h w).map PyData.list
    | some (.frz ws) => (ws.mapM fun w => dat (n + 1) h w).map PyData.list
    | _ => none) = _
  rw [e]
  dsimp only
  rw [dat_ints]
  rfl
theorem eqD_ints {h : Hh} {a b : Nat} {ns : List Int} (e : h.get a = some (.lst (ns.map .int))) (e2 : h.get b = some (.lst (ns.map .int))) : eqData (.ref a) (.ref b) h = some true :=
  eqD_same (d := .list (ns.map .int)) (dat_lst e) (dat_lst e2)
theorem eqD_int {h : Hh} {i j : Int} : eqData (.int i) (.int j) h = some (i == j) := by simp [eqData, dataD, dat, PyData.eqv]
/-- is it the empty list? -/
theorem eqD_nil {h : Hh} {a b : Nat} {ns : List Int} (e : h.get a = some (.lst (ns.map .int))) (e2 : h.get b = some (.lst [])) : eqData (.ref a) (.ref b) h = some ns.isEmpty := by
  have h2 : dat dataD h (.ref b) = some (.list []) := dat_lst (ns := []) e2
  have h1 : dat dataD h (.ref a) = some (.list (ns.map .int)) := dat_lst e
  simp only [eqData, h1, h2]
  cases ns <;> simp [PyData.eqv, PyData.eqvAll]
/-! ### dicts whose keys are ints -/
structure DI (kvs : List (Key × W)) (ks : List Int) (m : Int → Option W) : Prop where
  keys : kvs.map (·.1) = ks.map Sum.inl
  nd : ks.Nodup
  val : ∀ k, valK kvs (.inl k) = m k
theorem valK_mem : ∀ {kvs : List (Key × W)} {k : Key}, (valK kvs k).isSome ↔ k ∈ kvs.map (·.1)
  | [], k => by simp [valK]
  | (a, v) :: kvs, k => by
    have ih := valK_mem (kvs := kvs) (k := k)
    by_cases c : a = k
    · subst c; simp [valK]
    · have : valK ((a, v) :: kvs) k = valK kvs k := by simp [valK, c]
      rw [this, ih]
      simp [Ne.symm c]
theorem DI.mem {kvs : List (Key × W)} {ks : List Int} {m : Int → Option W} (d : DI kvs ks m) (k : Int) : (m k).isSome ↔ k ∈ ks := by
  rw [← d.val, valK_mem, d.keys]; simp
theorem DI.nil : DI [] [] (fun _ => none) := ⟨rfl, by simp, fun k => rfl⟩
theorem DI.len {kvs : List (Key × W)} {ks : List Int} {m : Int → Option W} (d : DI kvs ks m) : kvs.length = ks.length := by
  have := congrArg List.length d.keys
  simpa using this
theorem DI.keysI {kvs : List (Key × W)} {ks : List Int} {m : Int → Option W} (d : DI kvs ks m) : Mi.keysI kvs = some ks := by
  have := d.keys
  clear d
  induction kvs generalizing ks with
  | nil => cases ks with
    | nil => rfl
    | cons => cases this
  | cons a t ih =>
    cases ks with
    | nil => cases this
    | cons k ks =>
      obtain ⟨a1, a2⟩ := a
      simp only [List.map_cons, List.cons.injEq] at this
      obtain ⟨rfl, e⟩ := this
      simp [Mi.keysI, ih e]
theorem DI.kws {kvs : List (Key × W)} {ks : List Int} {m : Int → Option W} (d : DI kvs ks m) : (kvs.map fun kv => kW kv.1) = ks.map .int := by
  have := congrArg (List.map kW) d.keys
  simpa [List.map_map, kW, Function.comp_def] using this
theorem valK_put : ∀ {kvs : List (Key × W)} {k : Key} {v : W} (j : Key), valK (putKW kvs k v) j = if j = k then some v else valK kvs j := by
  intro kvs k v j
  unfold putKW
  split
  · rename_i h
    induction kvs with
    | nil => simp at h
    | cons a t ih =>
      obtain ⟨a1, a2⟩ := a
      by_cases c : a1 = k
      · subst c
        by_cases cj : j = a1
        · subst cj; simp [valK]
        · rw [if_neg cj]
          by_cases ht : (t.any fun kv => decide (kv.1 = a1)) = true
          · have := ih ht
            rw [if_neg cj] at this
            simpa [valK, Ne.symm cj] using this
          · have e : (t.map fun kv => if kv.1 = a1 then (kv.1, v) else kv) = t := by
              have : ∀ kv ∈ t, ¬ kv.1 = a1 := fun kv hk e => ht (List.any_eq_true.mpr ⟨kv, hk, by simpa using e⟩)
              conv => rhs; rw [← List.map_id t]
              exact List.map_congr_left fun kv hk => by rw [if_neg (this kv hk)]; rfl
            simp [valK, Ne.symm cj, e]
      · have h' : (t.any fun kv => decide (kv.1 = k)) = true := by simpa [c] using h
        have := ih h'
        by_cases cj : a1 = j
        · subst cj; simp [valK, c]
        · simpa [valK, c, cj] using this
  · rename_i h
    by_cases cj : j = k
    · subst cj
      rw [if_pos rfl]
      have : ∀ kv ∈ kvs, ¬ kv.1 = j := fun kv hk e => h (List.any_eq_true.mpr ⟨kv, hk, by simpa using e⟩)
      have e : kvs.find? (fun kv => decide (kv.1 = j)) = none := by
        rw [List.find?_eq_none]; intro kv hk; simpa using this kv hk
      simp [valK, List.find?_append, e]
    · rw [if_neg cj]
      simp only [valK, List.find?_append]
      cases kvs.find? (fun kv => decide (kv.1 = j)) with
      | none => simp [Ne.symm cj]
      | some x => simp
theorem any_key {kvs : List (Key × W)} {k : Key} : (kvs.any fun kv => decide (kv.1 = k)) = true ↔ k ∈ kvs.map (·.1) := by
  simp only [List.any_eq_true, decide_eq_true_eq, List.mem_map]
theorem keys_put_in {kvs : List (Key × W)} {k : Key} {v : W} (c : k ∈ kvs.map (·.1)) : (putKW kvs k v).map (·.1) = kvs.map (·.1) := by
  unfold putKW
  rw [if_pos (any_key.mpr c), List.map_map]
  refine List.map_congr_left fun kv _ => ?_
  simp only [Function.comp]
  split <;> rfl
theorem keys_put_out {kvs : List (Key × W)} {k : Key} {v : W} (c : k ∉ kvs.map (·.1)) : (putKW kvs k v).map (·.1) = kvs.map (·.1) ++ [k] := by
  unfold putKW
  rw [if_neg (fun h => c (any_key.mp h))]; simp
theorem DI.put {kvs : List (Key × W)} {ks : List Int} {m : Int → Option W} (d : DI kvs ks m) (k : Int) (v : W) : DI (putKW kvs (.inl k) v) (if k ∈ ks then ks else ks ++ [k]) (fun j => if j = k then some v else m j) := by
  have hk : ((Sum.inl k : Key) ∈ kvs.map (·.1)) ↔ k ∈ ks := by rw [d.keys]; simp
  refine ⟨?_, ?_, fun j => ?_⟩
  · by_cases c : k ∈ ks
    · rw [keys_put_in (hk.mpr c), if_pos c, d.keys]
    · rw [keys_put_out (fun h => c (hk.mp h)), if_neg c, d.keys]; simp
  · by_cases c : k ∈ ks
    · rw [if_pos c]; exact d.nd
    · rw [if_neg c]
      rw [List.nodup_append]
      exact ⟨d.nd, by simp, fun a ha b hb => by
        simp at hb; subst hb; intro e; subst e; exact c ha⟩
  · rw [valK_put, d.val]
    by_cases c : j = k
    · subst c; simp
    · rw [if_neg c, if_neg (fun h => c (by cases h; rfl))]
theorem DI.drop {kvs : List (Key × W)} {ks : List Int} {m : Int → Option W} (d : DI kvs ks m) (k : Int) : DI (dropKW kvs (.inl k)) (ks.filter fun j => decide (j ≠ k)) (fun j => if j = k then none else m j) := by
  refine ⟨?_, d.nd.filter _, fun j => ?_⟩
  · have := d.keys
    unfold dropKW
    clear d
    induction kvs generalizing ks with
    | nil => cases ks with
      | nil => rfl
      | cons => cases this
    | cons a t ih =>
      cases ks with
      | nil => cases this
      | cons k' ks =>
        obtain ⟨a1, a2⟩ := a
        simp only [List.map_cons, List.cons.injEq] at this
        obtain ⟨rfl, e⟩ := this
        by_cases c : k' = k
        · subst c; simpa using ih e
        · have c' : (Sum.inl k' : Key) ≠ Sum.inl k := fun h => c (by cases h; rfl)
          simpa [c] using ih e
  · unfold dropKW valK
    by_cases c : j = k
    · subst c
      rw [if_pos rfl]
      have : (kvs.filter fun kv => decide (kv.1 ≠ Sum.inl j)).find? (fun kv => decide (kv.1 = Sum.inl j)) = none := by
        rw [List.find?_eq_none]
        intro x hx
        simpa using (List.mem_filter.mp hx).2
      rw [this]; rfl
    · rw [if_neg c, ← d.val]
      unfold valK
      congr 1
      rw [List.find?_filter]
      congr 1
      funext kv
      by_cases e : kv.1 = Sum.inl j
      · simp [e, c]
      · simp [e]
theorem mem_sortI {l : List Int} {x : Int} : x ∈ sortI l ↔ x ∈ l := (sortI_perm l).mem_iff
theorem nd_sortI {l : List Int} (h : l.Nodup) : (sortI l).Nodup := (sortI_perm l).symm.nodup h
theorem len_sortI {l : List Int} : (sortI l).length = l.length := (sortI_perm l).length_eq
/-- one sorted list for one set -/
theorem sort_ext {a b : List Int} (ha : a.Nodup) (hb : b.Nodup) (e : ∀ x, x ∈ a ↔ x ∈ b) : sortI a = sortI b :=
  sort_is ((sortI_perm a).trans ((List.perm_ext_iff_of_nodup ha hb).mpr e)) (sortI_pw a)
theorem sorted_is {a b : List Int} (ha : a.Nodup) (pa : a.Pairwise (· ≤ ·)) (hb : b.Nodup) (e : ∀ x, x ∈ a ↔ x ∈ b) : sortI b = a :=
  (sort_is ((List.perm_ext_iff_of_nodup ha hb).mpr e) pa).symm
theorem seq_lst {h : Hh} {n : Nat} {ws : List W} (e : h.get n = some (.lst ws)) : seqAt h (.ref n) = some ws := by simp only [seqAt, e]
def fmI (p : Int → Bool) : W → Option W
  | .int k => if p k = true then some (.int k) else none
  | _ => none
def fmM (g : Int → W) : W → Option W
  | .int k => some (g k)
  | _ => none
theorem fm_int {p : Int → Bool} : ∀ {ks : List Int}, (ks.map W.int).filterMap (fmI p) = (ks.filter p).map W.int
  | [] => rfl
  | k :: ks => by
    simp only [List.map_cons, List.filterMap_cons, List.filter_cons, fmI]
    by_cases c : p k = true
    · rw [if_pos c, if_pos c, fm_int (ks := ks)]; rfl
    · rw [if_neg c, if_neg c, fm_int (ks := ks)]
theorem fm_map {g : Int → W} : ∀ {ks : List Int}, (ks.map W.int).filterMap (fmM g) = ks.map g
  | [] => rfl
  | k :: ks => by
    simp only [List.map_cons, List.filterMap_cons, fmM, fm_map (ks := ks)]
theorem rev_lst {h : Hh} {n : Nat} {ws : List W} (e : h.get n = some (.lst ws)) : revW (.ref n) h = .ok (.ref h.n) (h.push (.lst ws.reverse)) := by simp only [revW, seqAt, e]
theorem dat_pair {h : Hh} {q : Nat} {k : Int} {ns : List Int} (e : h.get q = some (.lst (ns.map .int))) : dat dataD h (.tup [.int k, .ref q]) = some (.tuple [.int k, .list (ns.map .int)]) := by
  show ([W.int k, W.ref q].mapM fun w => dat 11 h w).map PyData.tuple = _
  have e1 : dat 11 h (.ref q) = some (.list (ns.map .int)) := dat_lst (n := 9) e
  have e2 : dat 11 h (.int k) = some (.int k) := rfl
  simp [List.mapM_cons, e1, e2]
theorem eqD_pair {h : Hh} {q q2 : Nat} {k : Int} {ns : List Int} (e : h.get q = some (.lst (ns.map .int))) (e2 : h.get q2 = some (.lst (ns.map .int))) : eqData (.tup [.int k, .ref q]) (.tup [.int k, .ref q2]) h = some true :=
  eqD_same (dat_pair e) (dat_pair e2)
theorem kind_d {h : Hh} {n : Nat} {kvs : List (Key × W)} (e : h.get n = some (.dic kvs)) : kindW h (.ref n) = some false := by simp [kindW, isL, isD, e]
theorem kind_l {h : Hh} {n : Nat} {ws : List W} (e : h.get n = some (.lst ws)) : kindW h (.ref n) = some true := by simp [kindW, isL, e]
theorem bm_popD {h : Hh} {n : Nat} {kvs : List (Key × W)} {k : Int} {v : W} (e : h.get n = some (.dic kvs)) (ev : valK kvs (.inl k) = some v) : bmW .pop1 (.ref n) [.int k] h = .ok v (h.put n (.dic (dropKW kvs (.inl k)))) := by simp only [bmW, e, keyW, ev]
theorem for_rng {C : Cal} {t : Tg} {b : Ss} {h : Hh} {s : Sl} {lo : Int} {n : Nat} (Iv : Nat → Sl → Hh → Prop) {D : Dn} (h0 : Iv 0 s h)
    (step : ∀ i s h, i < n → Iv i s h → Ok (evG C t (.int (lo + (i : Nat))) s h) fun s1 h1 => OkS (evSs C b s1 h1) { nx := Iv (i + 1), rt := D.rt, bk := D.nx, ct := Iv (i + 1) })
    (fin : ∀ s h, Iv n s h → D.nx s h) : OkS (forL (evG C t) (evSs C b) (.rng lo n) ((J.rng lo n).fuel h) 0 s h) D :=
  forL_ok n (fun i => .int (lo + (i : Nat))) Iv (fun i s h _ iv => rfl) step fin _ 0 s h (Nat.zero_le _) (by show n < 0 + (n + 1); omega) h0
theorem rngJ_c {h : Hh} {a b : Int} (c : -(2 ^ 62) ≤ a ∧ a < 2 ^ 62 ∧ -(2 ^ 62) ≤ b ∧ b < 2 ^ 62) : rngJ a b h = .ok (.rng a (b - a).toNat) h := by unfold rngJ; rw [if_pos c]
theorem dat_pairsL {h : Hh} {n : Nat} {f : Int → W} {ct : Int → Int} : ∀ {ks : List Int}, (∀ k ∈ ks, ∃ q, f k = .tup [.int k, .ref q] ∧ h.get q = some (.lst [.int (ct k), .int k])) →
    ((ks.map f).mapM fun w => dat (n + 3) h w) = some (ks.map fun k => PyData.tuple [.int k, .list [.int (ct k), .int k]])
  | [], _ => rfl
  | k :: ks, hk => by
    obtain ⟨q, e1, e2⟩ := hk k (by simp)
    have e3 : dat (n + 2) h (.ref q) = some (.list [.int (ct k), .int k]) := dat_lst (ns := [ct k, k]) e2
    have e4 : dat (n + 3) h (f k) = some (.tuple [.int k, .list [.int (ct k), .int k]]) := by
      rw [e1]
      show ([W.int k, W.ref q].mapM fun w => dat (n + 2) h w).map PyData.tuple = _
      have e5 : dat (n + 2) h (.int k) = some (.int k) := rfl
      simp [List.mapM_cons, e3, e5]
    simp [List.mapM_cons, e4, dat_pairsL (n := n) fun k hk' => hk k (List.mem_cons_of_mem _ hk')]
theorem eqD_pairs {h : Hh} {a b : Nat} {f g : Int → W} {ct : Int → Int} {ks : List Int} (ea : h.get a = some (.lst (ks.map f))) (eb : h.get b = some (.lst (ks.map g))) (hf : ∀ k ∈ ks, ∃ q, f k = .tup [.int k, .ref q] ∧ h.get q = some (.lst [.int (ct k), .int k]))
    (hg : ∀ k ∈ ks, ∃ q, g k = .tup [.int k, .ref q] ∧ h.get q = some (.lst [.int (ct k), .int k])) : eqData (.ref a) (.ref b) h = some true := by
  have d1 : ∀ (c : Nat) (f : Int → W), h.get c = some (.lst (ks.map f)) → (∀ k ∈ ks, ∃ q, f k = .tup [.int k, .ref q] ∧ h.get q = some (.lst [.int (ct k), .int k])) → dat dataD h (.ref c) = some (.list (ks.map fun k => PyData.tuple [.int k, .list [.int (ct k), .int k]])) := fun c f e hf => by
    show (match h.get c with
      | some (.lst ws) => (ws.mapM fun w => dat 11 h w).map PyData.list
      | some (.frz ws) => (ws.mapM fun w => dat 11 h w).map PyData.list
      | _ => none) = _
    rw [e]
    dsimp only
    rw [dat_pairsL (n := 8) hf]
    rfl
  exact eqD_same (d1 a f ea hf) (d1 b g eb hg)
end Mi

set_option Elab.async false
set_option linter.all false
set_option maxRecDepth 100000
set_option maxHeartbeats 0
namespace Lawk73
open PySem PySem.W PySem.Calls PyProof.Rows Mi

abbrev R : OpenRow := OpenLaw.row PySem.Challenge.rw_orderlycore_k73_whole_units_by_the_clock
abbrev qv : Program := view R.prog [25]
def top (i : Nat) : Stmt := PySem.Challenge.pw_orderlycore_k73_whole_units_by_the_clock.main.body.getD i (.Pass ⟨0, 0, 0, 0⟩)
def inC (i j : Nat) : Stmt := match top i with
  | .ClassDef _ _ _ b _ _ _ _ _ _ _ => b.getD j (.Pass ⟨0, 0, 0, 0⟩)
  | _ => .Pass ⟨0, 0, 0, 0⟩
abbrev d0 : Df := ⟨"is_integer", "is_integer", L2.defArgs (top 9), L2.defBody (top 9), L2.defScope (top 9), ((["value"] : List PySem.Str)), ((["value"] : List PySem.Str))⟩
abbrev d1 : Df := ⟨"is_count", "is_count", L2.defArgs (top 10), L2.defBody (top 10), L2.defScope (top 10), ((["value"] : List PySem.Str)), ((["value"] : List PySem.Str))⟩
abbrev d2 : Df := ⟨"want_number", "want_number", L2.defArgs (top 12), L2.defBody (top 12), L2.defScope (top 12), ((["value"] : List PySem.Str)), ((["value"] : List PySem.Str))⟩
abbrev d3 : Df := ⟨"without_number", "without_number", L2.defArgs (top 14), L2.defBody (top 14), L2.defScope (top 14), ((["rows", "number", "found", "one"] : List PySem.Str)), ((["rows", "number"] : List PySem.Str))⟩
abbrev d4 : Df := ⟨"__init__", "Units.__init__", L2.defArgs (inC 17 0), L2.defBody (inC 17 0), L2.defScope (inC 17 0), ((["self"] : List PySem.Str)), ((["self"] : List PySem.Str))⟩
abbrev d5 : Df := ⟨"held", "Units.held", L2.defArgs (inC 17 1), L2.defBody (inC 17 1), L2.defScope (inC 17 1), ((["self"] : List PySem.Str)), ((["self"] : List PySem.Str))⟩
abbrev d6 : Df := ⟨"numbers", "Units.numbers", L2.defArgs (inC 17 2), L2.defBody (inC 17 2), L2.defScope (inC 17 2), ((["self"] : List PySem.Str)), ((["self"] : List PySem.Str))⟩
abbrev d7 : Df := ⟨"begun", "Units.begun", L2.defArgs (inC 17 3), L2.defBody (inC 17 3), L2.defScope (inC 17 3), ((["self", "number", "cycles", "told"] : List PySem.Str)), ((["self", "number", "cycles", "told"] : List PySem.Str))⟩
abbrev d8 : Df := ⟨"cycles_left", "Units.cycles_left", L2.defArgs (inC 17 4), L2.defBody (inC 17 4), L2.defScope (inC 17 4), ((["self", "number"] : List PySem.Str)), ((["self", "number"] : List PySem.Str))⟩
abbrev d9 : Df := ⟨"aged", "Units.aged", L2.defArgs (inC 17 5), L2.defBody (inC 17 5), L2.defScope (inC 17 5), ((["self", "number"] : List PySem.Str)), ((["self"] : List PySem.Str))⟩
abbrev d10 : Df := ⟨"gone", "Units.gone", L2.defArgs (inC 17 6), L2.defBody (inC 17 6), L2.defScope (inC 17 6), ((["self", "number"] : List PySem.Str)), ((["self", "number"] : List PySem.Str))⟩
abbrev d11 : Df := ⟨"finished", "Units.finished", L2.defArgs (inC 17 7), L2.defBody (inC 17 7), L2.defScope (inC 17 7), ((["self", "some", "found", "number"] : List PySem.Str)), ((["self"] : List PySem.Str))⟩
abbrev d12 : Df := ⟨"dropped", "Units.dropped", L2.defArgs (inC 17 8), L2.defBody (inC 17 8), L2.defScope (inC 17 8), ((["self", "number", "gone", "one"] : List PySem.Str)), ((["self", "number"] : List PySem.Str))⟩
abbrev d13 : Df := ⟨"copy", "Units.copy", L2.defArgs (inC 17 9), L2.defBody (inC 17 9), L2.defScope (inC 17 9), ((["self", "found", "number"] : List PySem.Str)), ((["self"] : List PySem.Str))⟩
abbrev d14 : Df := ⟨"__eq__", "Units.__eq__", L2.defArgs (inC 17 10), L2.defBody (inC 17 10), L2.defScope (inC 17 10), ((["self", "other"] : List PySem.Str)), ((["self", "other"] : List PySem.Str))⟩
abbrev d15 : Df := ⟨"_law_pot", "_law_pot", L2.defArgs (top 19), L2.defBody (top 19), L2.defScope (top 19), ((["_law_script", "_law_k", "_law_cell", "_law_mixed"] : List PySem.Str)), ((["_law_script", "_law_k"] : List PySem.Str))⟩
abbrev d16 : Df := ⟨"_law_draw", "_law_draw", L2.defArgs (top 20), L2.defBody (top 20), L2.defScope (top 20), ((["_law_pot_here", "_law_sides", "_law_digit"] : List PySem.Str)), ((["_law_pot_here", "_law_sides"] : List PySem.Str))⟩
abbrev d17 : Df := ⟨"_law_pick", "_law_pick", L2.defArgs (top 21), L2.defBody (top 21), L2.defScope (top 21), ((["_law_pot_here", "_law_some"] : List PySem.Str)), ((["_law_pot_here", "_law_some"] : List PySem.Str))⟩
abbrev d18 : Df := ⟨"_law_seen", "_law_seen", L2.defArgs (top 22), L2.defBody (top 22), L2.defScope (top 22), ((["_law_units", "_law_own", "_law_clock", "_law_numbers", "_law_due", "_law_number"] : List PySem.Str)), ((["_law_units", "_law_own", "_law_clock"] : List PySem.Str))⟩
abbrev d19 : Df := ⟨"_law_finished_right", "_law_finished_right", L2.defArgs (top 23), L2.defBody (top 23), L2.defScope (top 23), ((["_law_units", "_law_own", "_law_clock", "_law_ended", "_law_number"] : List PySem.Str)), ((["_law_units", "_law_own", "_law_clock"] : List PySem.Str))⟩
abbrev d20 : Df := ⟨"_law_right", "_law_right", L2.defArgs (top 24), L2.defBody (top 24), L2.defScope (top 24), ((["_law_pot_here", "_law_units", "_law_own", "_law_clock", "_law_aside", "_law_turn", "_law_way", "_law_number", "_law_cycles", "_law_gone", "_law_one", "_law_told"] : List PySem.Str)), ((["_law_pot_here"] : List PySem.Str))⟩
abbrev d21 : Df := ⟨"law", "law", L2.defArgs (top 25), L2.defBody (top 25), L2.defScope (top 25), ((["_law_script"] : List PySem.Str)), ((["_law_script"] : List PySem.Str))⟩
/-- is_integer -/
def b0 : Ss := (.cons (.ret (.andE (.isi (.var 0) false [.bi .int]) (.notE (.isi (.var 0) false [.bi .bool]))))
  .nil)
/-- is_count -/
def b1 : Ss := (.cons (.ret (.andE (.call 0 (.cons (.var 0) .nil) []) (.cmp .ge (.var 0) (.cst (.int 0)))))
  .nil)
/-- want_number -/
def b2 : Ss := (.cons (.ifS (.notE (.call 1 (.cons (.var 0) .nil) [])) (.cons .never
  .nil) .nil)
  .nil)
/-- without_number -/
def b3 : Ss := (.cons (.asg (.name 2) .dic0)
  (.cons (.forS (.name 3) (.seq (.bc .sorted1 (.cons (.bc .list1 (.cons (.var 0) .nil)) .nil))) (.cons (.ifS (.cmp .ne (.var 3) (.var 1)) (.cons (.asg (.sub (.var 2) (.var 3)) (.ix (.var 0) (.var 3)))
  .nil) .nil)
  .nil))
  (.cons (.ret (.var 2))
  .nil)))
/-- Units.__init__ -/
def b4 : Ss := (.cons (.asg (.fld (.var 0) 0) .dic0)
  (.cons (.asg (.fld (.var 0) 1) .dic0)
  .nil))
/-- Units.held -/
def b5 : Ss := (.cons (.ret (.bc .len1 (.cons (.fld (.var 0) 0) .nil)))
  .nil)
/-- Units.numbers -/
def b6 : Ss := (.cons (.ret (.bc .sorted1 (.cons (.bc .list1 (.cons (.fld (.var 0) 0) .nil)) .nil)))
  .nil)
/-- Units.begun -/
def b7 : Ss := (.cons (.expr (.call 2 (.cons (.var 1) .nil) []))
  (.cons (.ifS (.orE (.notE (.call 1 (.cons (.var 2) .nil) [])) (.notE (.cmp2 .le .le (.cst (.int 1)) (.var 2) (.glo (.int 1000000))))) (.cons .never
  .nil) .nil)
  (.cons (.ifS (.cmp .isin (.var 1) (.fld (.var 0) 0)) (.cons .never
  .nil) .nil)
  (.cons (.asg (.sub (.fld (.var 0) 0) (.var 1)) (.var 2))
  (.cons (.asg (.sub (.fld (.var 0) 1) (.var 1)) (.var 3))
  .nil)))))
/-- Units.cycles_left -/
def b8 : Ss := (.cons (.expr (.call 2 (.cons (.var 1) .nil) []))
  (.cons (.ifS (.cmp .nin (.var 1) (.fld (.var 0) 0)) (.cons .never
  .nil) .nil)
  (.cons (.ret (.ix (.fld (.var 0) 0) (.var 1)))
  .nil)))
/-- Units.aged -/
def b9 : Ss := (.cons (.forS (.name 1) (.seq (.meth (.var 0) 2 .nil [])) (.cons (.asg (.sub (.fld (.var 0) 0) (.var 1)) (.bc .max2 (.cons (.cst (.int 0)) (.cons (.bin .sub (.ix (.fld (.var 0) 0) (.var 1)) (.cst (.int 1))) .nil))))
  .nil))
  .nil)
/-- Units.gone -/
def b10 : Ss := (.cons (.asg (.fld (.var 0) 0) (.call 3 (.cons (.fld (.var 0) 0) (.cons (.var 1) .nil)) []))
  (.cons (.asg (.fld (.var 0) 1) (.call 3 (.cons (.fld (.var 0) 1) (.cons (.var 1) .nil)) []))
  .nil))
/-- Units.finished -/
def b11 : Ss := (.cons (.asg (.name 1) (.comp (.var 3) (.name 3) (.seq (.meth (.var 0) 2 .nil [])) (.some (.cmp .eq (.ix (.fld (.var 0) 0) (.var 3)) (.cst (.int 0)))) [3]))
  (.cons (.ifS (.cmp .eq (.var 1) (.lst .nil)) (.cons (.ret (.cst .non))
  .nil) .nil)
  (.cons (.asg (.name 2) (.tup (.cons (.ix (.var 1) (.cst (.int 0))) (.cons (.ix (.fld (.var 0) 1) (.ix (.var 1) (.cst (.int 0)))) .nil))))
  (.cons (.expr (.meth (.var 0) 3 (.cons (.ix (.var 1) (.cst (.int 0))) .nil) []))
  (.cons (.ret (.var 2))
  .nil)))))
/-- Units.dropped -/
def b12 : Ss := (.cons (.expr (.call 2 (.cons (.var 1) .nil) []))
  (.cons (.asg (.name 2) (.comp (.var 3) (.name 3) (.seq (.meth (.var 0) 2 .nil [])) (.some (.cmp .ge (.var 3) (.var 1))) [3]))
  (.cons (.forS (.name 3) (.seq (.var 2)) (.cons (.expr (.meth (.var 0) 3 (.cons (.var 3) .nil) []))
  .nil))
  (.cons (.ret (.rev (.var 2)))
  .nil))))
/-- Units.copy -/
def b13 : Ss := (.cons (.asg (.name 1) (.make 0 .nil []))
  (.cons (.forS (.name 2) (.seq (.meth (.var 0) 2 .nil [])) (.cons (.asg (.sub (.fld (.var 1) 0) (.var 2)) (.ix (.fld (.var 0) 0) (.var 2)))
  (.cons (.asg (.sub (.fld (.var 1) 1) (.var 2)) (.ix (.fld (.var 0) 1) (.var 2)))
  .nil)))
  (.cons (.ret (.var 1))
  .nil)))
/-- Units.__eq__ -/
def b14 : Ss := (.cons (.ret (.andE (.isi (.var 1) false [.own 0]) (.andE (.cmp .eq (.fld (.var 0) 0) (.fld (.var 1) 0)) (.cmp .eq (.fld (.var 0) 1) (.fld (.var 1) 1)))))
  .nil)
/-- _law_pot -/
def b15 : Ss := (.cons (.asg (.name 2) (.ife (.cmp .lt (.var 1) (.bc .len1 (.cons (.var 0) .nil))) (.bc .abs1 (.cons (.ix (.var 0) (.var 1)) .nil)) (.bin .add (.bin .mul (.cst (.int 983)) (.var 1)) (.cst (.int 673)))))
  (.cons (.asg (.name 3) (.bin .add (.bin .mod (.bc .int1 (.cons (.bin .add (.bin .add (.bin .mul (.bin .mod (.bc .int1 (.cons (.var 2) .nil)) (.cst (.int 2147483549))) (.cst (.int 41203))) (.bin .mul (.cst (.int 7103)) (.var 1))) (.cst (.int 617))) .nil)) (.cst (.int 2147483563))) (.cst (.int 1))))
  (.cons (.ret (.lst (.cons (.bc .max2 (.cons (.cst (.int 0)) (.cons (.bin .sub (.var 2) (.bin .pow (.cst (.int 10)) (.cst (.int 18)))) .nil))) (.cons (.var 3) .nil))))
  .nil)))
/-- _law_draw -/
def b16 : Ss := (.cons (.ifS (.cmp .gt (.ix (.var 0) (.cst (.int 0))) (.cst (.int 0))) (.cons (.asg (.tup (.cons (.sub (.var 0) (.cst (.int 0))) (.cons (.name 2) .nil))) (.bc .divmod2 (.cons (.ix (.var 0) (.cst (.int 0))) (.cons (.var 1) .nil))))
  (.cons (.ret (.var 2))
  .nil)) .nil)
  (.cons (.asg (.sub (.var 0) (.cst (.int 1))) (.bin .mod (.bc .int1 (.cons (.bin .add (.bin .mul (.ix (.var 0) (.cst (.int 1))) (.cst (.int 40577))) (.cst (.int 30047))) .nil)) (.cst (.int 2147483563))))
  (.cons (.ret (.bin .mod (.bc .int1 (.cons (.bin .fdiv (.bin .mod (.bc .int1 (.cons (.bin .mul (.ix (.var 0) (.cst (.int 1))) (.ix (.var 0) (.cst (.int 1)))) .nil)) (.cst (.int 2147483549))) (.cst (.int 23))) .nil)) (.var 1)))
  .nil)))
/-- _law_pick -/
def b17 : Ss := (.cons (.ret (.ix (.var 1) (.call 16 (.cons (.var 0) (.cons (.bc .len1 (.cons (.var 1) .nil)) .nil)) [])))
  .nil)
/-- _law_seen -/
def b18 : Ss := (.cons (.asg (.name 3) (.bc .sorted1 (.cons (.var 1) .nil)))
  (.cons (.ifS (.orE (.cmp .ne (.meth (.var 0) 2 .nil []) (.var 3)) (.cmp .ne (.fld (.var 0) 4) (.bc .len1 (.cons (.var 3) .nil)))) (.cons (.ret (.cst (.bl false)))
  .nil) .nil)
  (.cons (.asg (.name 4) (.comp (.bc .max2 (.cons (.cst (.int 0)) (.cons (.bin .sub (.ix (.ix (.var 1) (.var 5)) (.cst (.int 0))) (.var 2)) .nil))) (.name 5) (.seq (.var 3)) .none [5]))
  (.cons (.ret (.cmp .eq (.comp (.meth (.var 0) 5 (.cons (.var 5) .nil) []) (.name 5) (.seq (.var 3)) .none [5]) (.var 4)))
  .nil))))
/-- _law_finished_right -/
def b19 : Ss := (.cons (.asg (.name 3) (.comp (.var 4) (.name 4) (.seq (.bc .sorted1 (.cons (.var 1) .nil))) (.some (.cmp .le (.ix (.ix (.var 1) (.var 4)) (.cst (.int 0))) (.var 2))) [4]))
  (.cons (.ifS (.cmp .eq (.var 3) (.lst .nil)) (.cons (.ret (.cmp .is (.meth (.var 0) 6 .nil []) (.cst .non)))
  .nil) .nil)
  (.cons (.ret (.cmp .eq (.meth (.var 0) 6 .nil []) (.tup (.cons (.ix (.var 3) (.cst (.int 0))) (.cons (.ix (.bm .pop1 (.var 1) (.cons (.ix (.var 3) (.cst (.int 0))) .nil)) (.cst (.int 1))) .nil)))))
  .nil)))
/-- _law_right -/
def b20 : Ss := (.cons (.asg (.tup (.cons (.name 1) (.cons (.name 2) (.cons (.name 3) (.cons (.name 4) .nil))))) (.tup (.cons (.make 0 .nil []) (.cons .dic0 (.cons (.cst (.int 0)) (.cons (.cst .non) .nil))))))
  (.cons (.forS (.name 5) (.rng1 (.bin .add (.cst (.int 14)) (.call 16 (.cons (.var 0) (.cons (.cst (.int 21)) .nil)) []))) (.cons (.asg (.name 6) (.call 17 (.cons (.var 0) (.cons (.lst (.cons (.cst (.int 0)) (.cons (.cst (.int 0)) (.cons (.cst (.int 0)) (.cons (.cst (.int 1)) (.cons (.cst (.int 1)) (.cons (.cst (.int 1)) (.cons (.cst (.int 2)) (.cons (.cst (.int 2)) (.cons (.cst (.int 2)) (.cons (.cst (.int 3)) (.cons (.cst (.int 4)) .nil)))))))))))) .nil)) []))
  (.cons (.ifS (.cmp .eq (.var 6) (.cst (.int 0))) (.cons (.asg (.tup (.cons (.name 7) (.cons (.name 8) .nil))) (.tup (.cons (.call 16 (.cons (.var 0) (.cons (.cst (.int 12)) .nil)) []) (.cons (.bin .add (.cst (.int 1)) (.call 16 (.cons (.var 0) (.cons (.cst (.int 6)) .nil)) [])) .nil))))
  (.cons (.ifS (.cmp .nin (.var 7) (.var 2)) (.cons (.asg (.sub (.var 2) (.var 7)) (.tup (.cons (.bin .add (.var 3) (.var 8)) (.cons (.lst (.cons (.var 5) (.cons (.var 7) .nil))) .nil))))
  (.cons (.ifS (.cmp .isn (.meth (.var 1) 7 (.cons (.var 7) (.cons (.var 8) (.cons (.lst (.cons (.var 5) (.cons (.var 7) .nil))) .nil))) []) (.cst .non)) (.cons (.ret (.cst (.bl false)))
  .nil) .nil)
  .nil)) .nil)
  .nil)) .nil)
  (.cons (.ifS (.cmp .eq (.var 6) (.cst (.int 1))) (.cons (.asg (.name 3) (.bin .add (.var 3) (.cst (.int 1))))
  (.cons (.ifS (.cmp .isn (.meth (.var 1) 8 .nil []) (.cst .non)) (.cons (.ret (.cst (.bl false)))
  .nil) .nil)
  .nil)) .nil)
  (.cons (.ifS (.andE (.cmp .eq (.var 6) (.cst (.int 2))) (.notE (.call 19 (.cons (.var 1) (.cons (.var 2) (.cons (.var 3) .nil))) []))) (.cons (.ret (.cst (.bl false)))
  .nil) .nil)
  (.cons (.ifS (.cmp .eq (.var 6) (.cst (.int 3))) (.cons (.asg (.name 7) (.call 16 (.cons (.var 0) (.cons (.cst (.int 13)) .nil)) []))
  (.cons (.asg (.name 9) (.comp (.var 10) (.name 10) (.seq (.bc .sorted1 (.cons (.var 2) .nil))) (.some (.cmp .ge (.var 10) (.var 7))) [10]))
  (.cons (.forS (.name 10) (.seq (.var 9)) (.cons (.expr (.bm .pop1 (.var 2) (.cons (.var 10) .nil)))
  .nil))
  (.cons (.ifS (.cmp .ne (.meth (.var 1) 9 (.cons (.var 7) .nil) []) (.rev (.var 9))) (.cons (.ret (.cst (.bl false)))
  .nil) .nil)
  .nil)))) .nil)
  (.cons (.ifS (.cmp .eq (.var 6) (.cst (.int 4))) (.cons (.asg (.name 4) (.tup (.cons (.meth (.var 1) 10 .nil []) (.cons (.bc .dict1 (.cons (.var 2) .nil)) (.cons (.var 3) .nil)))))
  .nil) .nil)
  (.cons (.ifS (.notE (.call 18 (.cons (.var 1) (.cons (.var 2) (.cons (.var 3) .nil))) [])) (.cons (.ret (.cst (.bl false)))
  .nil) .nil)
  .nil))))))))
  (.cons (.ifS (.andE (.cmp .isn (.var 4) (.cst .non)) (.notE (.call 18 (.cons (.ix (.var 4) (.cst (.int 0))) (.cons (.ix (.var 4) (.cst (.int 1))) (.cons (.ix (.var 4) (.cst (.int 2))) .nil))) []))) (.cons (.ret (.cst (.bl false)))
  .nil) .nil)
  (.cons (.forS (.name 5) (.rng1 (.cst (.int 7))) (.cons (.expr (.meth (.var 1) 8 .nil []))
  .nil))
  (.cons (.asg (.name 11) (.comp (.meth (.var 1) 6 .nil []) (.name 7) (.seq (.bc .sorted1 (.cons (.var 2) .nil))) .none [7]))
  (.cons (.ret (.andE (.cmp .eq (.var 11) (.comp (.tup (.cons (.var 7) (.cons (.ix (.ix (.var 2) (.var 7)) (.cst (.int 1))) .nil))) (.name 7) (.seq (.bc .sorted1 (.cons (.var 2) .nil))) .none [7])) (.cmp .is (.meth (.var 1) 6 .nil []) (.cst .non))))
  .nil))))))
/-- law -/
def b21 : Ss := (.cons (.ret (.call 20 (.cons (.call 15 (.cons (.var 0) (.cons (.cst (.int 0)) .nil)) []) .nil) []))
  .nil)
def fs : List FunI := [⟨1, 1, b0⟩, ⟨1, 1, b1⟩, ⟨1, 1, b2⟩, ⟨2, 4, b3⟩, ⟨1, 1, b4⟩, ⟨1, 1, b5⟩, ⟨1, 1, b6⟩, ⟨4, 4, b7⟩, ⟨2, 2, b8⟩, ⟨1, 2, b9⟩, ⟨2, 2, b10⟩, ⟨1, 4, b11⟩, ⟨2, 4, b12⟩, ⟨1, 3, b13⟩, ⟨2, 2, b14⟩, ⟨2, 4, b15⟩, ⟨2, 3, b16⟩, ⟨2, 2, b17⟩, ⟨3, 6, b18⟩, ⟨3, 5, b19⟩, ⟨1, 12, b20⟩, ⟨1, 1, b21⟩]
def cs : List ClsI := [⟨[(2, 6), (7, 7), (5, 8), (8, 9), (3, 10), (6, 11), (9, 12), (10, 13)], [(4, 5)], 4, none⟩]
def ads : List Ad := [.glo "is_integer", .glo "is_count", .glo "want_number", .glo "without_number", .meth "Units" "__init__", .prop "Units" "held", .meth "Units" "numbers", .meth "Units" "begun", .meth "Units" "cycles_left", .meth "Units" "aged", .meth "Units" "gone", .meth "Units" "finished", .meth "Units" "dropped", .meth "Units" "copy", .meth "Units" "__eq__", .glo "_law_pot", .glo "_law_draw", .glo "_law_pick", .glo "_law_seen", .glo "_law_finished_right", .glo "_law_right", .glo "law"]
def tb : Tb := ⟨((["own_left", "own_told", "numbers", "gone", "held", "cycles_left", "finished", "begun", "aged", "dropped", "copy"] : List PySem.Str)), [("is_integer", 0), ("is_count", 1), ("want_number", 2), ("without_number", 3), ("_law_pot", 15), ("_law_draw", 16), ("_law_pick", 17), ("_law_seen", 18), ("_law_finished_right", 19), ("_law_right", 20), ("law", 21)], [("Units", 0)], [("MOST_CYCLES", (.int 1000000))], ((["isinstance", "bool", "int", "sorted", "list", "len", "max", "abs", "divmod", "range", "dict"] : List PySem.Str)), [2, 3, 5, 6, 7, 8, 9, 10], [0]⟩
def ds : List Df := [d0, d1, d2, d3, d4, d5, d6, d7, d8, d9, d10, d11, d12, d13, d14, d15, d16, d17, d18, d19, d20, d21]
def lw : Lw := ⟨ads, ((["Units"] : List PySem.Str)), ⟨fs, cs⟩, tb, ds⟩
theorem bd0 : BindOk d0 := fun _ _ _ _ _ _ us hl => match us, hl with | [_], _ => rfl
theorem bd1 : BindOk d1 := fun _ _ _ _ _ _ us hl => match us, hl with | [_], _ => rfl
theorem bd2 : BindOk d2 := fun _ _ _ _ _ _ us hl => match us, hl with | [_], _ => rfl
theorem bd3 : BindOk d3 := fun _ _ _ _ _ _ us hl => match us, hl with | [_, _], _ => rfl
theorem bd4 : BindOk d4 := fun _ _ _ _ _ _ us hl => match us, hl with | [_], _ => rfl
theorem bd5 : BindOk d5 := fun _ _ _ _ _ _ us hl => match us, hl with | [_], _ => rfl
theorem bd6 : BindOk d6 := fun _ _ _ _ _ _ us hl => match us, hl with | [_], _ => rfl
theorem bd7 : BindOk d7 := fun _ _ _ _ _ _ us hl => match us, hl with | [_, _, _, _], _ => rfl
theorem bd8 : BindOk d8 := fun _ _ _ _ _ _ us hl => match us, hl with | [_, _], _ => rfl
theorem bd9 : BindOk d9 := fun _ _ _ _ _ _ us hl => match us, hl with | [_], _ => rfl
theorem bd10 : BindOk d10 := fun _ _ _ _ _ _ us hl => match us, hl with | [_, _], _ => rfl
theorem bd11 : BindOk d11 := fun _ _ _ _ _ _ us hl => match us, hl with | [_], _ => rfl
theorem bd12 : BindOk d12 := fun _ _ _ _ _ _ us hl => match us, hl with | [_, _], _ => rfl
theorem bd13 : BindOk d13 := fun _ _ _ _ _ _ us hl => match us, hl with | [_], _ => rfl
theorem bd14 : BindOk d14 := fun _ _ _ _ _ _ us hl => match us, hl with | [_, _], _ => rfl
theorem bd15 : BindOk d15 := fun _ _ _ _ _ _ us hl => match us, hl with | [_, _], _ => rfl
theorem bd16 : BindOk d16 := fun _ _ _ _ _ _ us hl => match us, hl with | [_, _], _ => rfl
theorem bd17 : BindOk d17 := fun _ _ _ _ _ _ us hl => match us, hl with | [_, _], _ => rfl
theorem bd18 : BindOk d18 := fun _ _ _ _ _ _ us hl => match us, hl with | [_, _, _], _ => rfl
theorem bd19 : BindOk d19 := fun _ _ _ _ _ _ us hl => match us, hl with | [_, _, _], _ => rfl
theorem bd20 : BindOk d20 := fun _ _ _ _ _ _ us hl => match us, hl with | [_], _ => rfl
theorem bd21 : BindOk d21 := fun _ _ _ _ _ _ us hl => match us, hl with | [_], _ => rfl
theorem bds : AllB lw.ds := .cons bd0 (.cons bd1 (.cons bd2 (.cons bd3 (.cons bd4 (.cons bd5 (.cons bd6 (.cons bd7 (.cons bd8 (.cons bd9 (.cons bd10 (.cons bd11 (.cons bd12 (.cons bd13 (.cons bd14 (.cons bd15 (.cons bd16 (.cons bd17 (.cons bd18 (.cons bd19 (.cons bd20 (.cons bd21 (.nil))))))))))))))))))))))
theorem ck : ckL lw = true := by decide +kernel
def names0 : List PySem.Str := ["CoreError", "MissingError", "StateError", "InvalidCycles", "InvalidNumber", "NoNumber", "AlreadyThere", "is_integer", "is_count", "want_number", "without_number", "MOST_CYCLES", "Units", "_law_pot", "_law_draw", "_law_pick", "_law_seen", "_law_finished_right", "_law_right"]
def names : List PySem.Str := names0
theorem run (w : World) : HandSHeadRun.RunEq R qv (hookM 6 lw) (obT 6 lw) 20000 names w := by
  intro os
  kernel_rfl
end Lawk73

set_option Elab.async false
set_option linter.all false
set_option maxRecDepth 100000
set_option maxHeartbeats 4000000
namespace Lawk73
open PySem PySem.Spec Mi
abbrev pr : Pr := lw.pr
theorem noq : ∀ (c : Nat) (q : ClsI), pr.cs[c]? = some q → q.eqm = none := by
  intro c q e
  rcases c with _ | c
  · cases e; rfl
  · cases e
theorem is_integer {d : Nat} {i : Int} {h : Hh} {Q : W → Hh → Prop} (q : Q (.bl true) h) : Ok (callN pr 0 (d + 1) 0 [.int i] h) Q := by
  rw [Ok_call ⟨1, 1, b0⟩ [some (.int i)] rfl rfl rfl]
  unfold b0
  simp (disch := first | assumption | decide | omega | (simp only [List.length_cons, List.length_nil]; omega)) only [newL_c, newT_c, wipeS, if_true, bin_mulc, bin_fdivc, bin_mod, OkS_cons, OkS_nil, OkS_nx, OkS_rt, OkS_bk, OkS_ct, OkS_toS, Ok_bind, Ok_bindN, Ok_nx, Ok_ok, evS, evE, evEs, evT_cst, evT_var, evT_glo, evT_bin, evT_neg, evT_fld, evT_ix, evT_rev, evT_slc, evT_lst, evT_tup, evT_call, evT_make, evT_meth, evT_callv, evT_bc, evT_bm, evT_isi, evT_comp, evT_not, evT_and, evT_or, evT_cmp, evT_cmp2, evO, evC, evI, evG, evGs, permW, calN_call, calN_cs, getS_0, getS_s, Ok_ofS, tru_bl, Option.map, Bool.not_true, Bool.not_false, isiW, isOne, tyName, List.contains_cons, List.contains_nil, bin_add, bin_sub, cmp_lt, cmp_le, cmp_gt, cmp_ge, cmp_isN, cmp_isnN, bc_int, bc_abs, bc_max, bc_min, tgsL, List.length_cons, List.length_nil, List.set_cons_zero, List.set_cons_succ, at_0, at_1, at_2, ix_tup]
  exact q
theorem is_count {d : Nat} {i : Int} {h : Hh} {Q : W → Hh → Prop} (hi : 0 ≤ i) (q : Q (.bl true) h) : Ok (callN pr 0 (d + 2) 1 [.int i] h) Q := by
  rw [Ok_call ⟨1, 1, b1⟩ [some (.int i)] rfl rfl rfl]
  unfold b1
  simp (disch := first | assumption | decide | omega | (simp only [List.length_cons, List.length_nil]; omega)) only [newL_c, newT_c, wipeS, if_true, bin_mulc, bin_fdivc, bin_mod, OkS_cons, OkS_nil, OkS_nx, OkS_rt, OkS_bk, OkS_ct, OkS_toS, Ok_bind, Ok_bindN, Ok_nx, Ok_ok, evS, evE, evEs, evT_cst, evT_var, evT_glo, evT_bin, evT_neg, evT_fld, evT_ix, evT_rev, evT_slc, evT_lst, evT_tup, evT_call, evT_make, evT_meth, evT_callv, evT_bc, evT_bm, evT_isi, evT_comp, evT_not, evT_and, evT_or, evT_cmp, evT_cmp2, evO, evC, evI, evG, evGs, permW, calN_call, calN_cs, getS_0, getS_s, Ok_ofS, tru_bl, Option.map, Bool.not_true, Bool.not_false, isiW, isOne, tyName, List.contains_cons, List.contains_nil, bin_add, bin_sub, cmp_lt, cmp_le, cmp_gt, cmp_ge, cmp_isN, cmp_isnN, bc_int, bc_abs, bc_max, bc_min, tgsL, List.length_cons, List.length_nil, List.set_cons_zero, List.set_cons_succ, at_0, at_1, at_2, ix_tup]
  refine is_integer ?_
  simp (disch := first | assumption | decide | omega | (simp only [List.length_cons, List.length_nil]; omega)) only [newL_c, newT_c, wipeS, if_true, bin_mulc, bin_fdivc, bin_mod, OkS_cons, OkS_nil, OkS_nx, OkS_rt, OkS_bk, OkS_ct, OkS_toS, Ok_bind, Ok_bindN, Ok_nx, Ok_ok, evS, evE, evEs, evT_cst, evT_var, evT_glo, evT_bin, evT_neg, evT_fld, evT_ix, evT_rev, evT_slc, evT_lst, evT_tup, evT_call, evT_make, evT_meth, evT_callv, evT_bc, evT_bm, evT_isi, evT_comp, evT_not, evT_and, evT_or, evT_cmp, evT_cmp2, evO, evC, evI, evG, evGs, permW, calN_call, calN_cs, getS_0, getS_s, Ok_ofS, tru_bl, Option.map, Bool.not_true, Bool.not_false, isiW, isOne, tyName, List.contains_cons, List.contains_nil, bin_add, bin_sub, cmp_lt, cmp_le, cmp_gt, cmp_ge, cmp_isN, cmp_isnN, bc_int, bc_abs, bc_max, bc_min, tgsL, List.length_cons, List.length_nil, List.set_cons_zero, List.set_cons_succ, at_0, at_1, at_2, ix_tup]
  rw [decide_eq_true hi]
  exact q
theorem want_number {d : Nat} {i : Int} {h : Hh} {Q : W → Hh → Prop} (hi : 0 ≤ i) (q : Q .non h) : Ok (callN pr 0 (d + 3) 2 [.int i] h) Q := by
  rw [Ok_call ⟨1, 1, b2⟩ [some (.int i)] rfl rfl rfl]
  unfold b2
  simp (disch := first | assumption | decide | omega | (simp only [List.length_cons, List.length_nil]; omega)) only [newL_c, newT_c, wipeS, if_true, bin_mulc, bin_fdivc, bin_mod, OkS_cons, OkS_nil, OkS_nx, OkS_rt, OkS_bk, OkS_ct, OkS_toS, Ok_bind, Ok_bindN, Ok_nx, Ok_ok, evS, evE, evEs, evT_cst, evT_var, evT_glo, evT_bin, evT_neg, evT_fld, evT_ix, evT_rev, evT_slc, evT_lst, evT_tup, evT_call, evT_make, evT_meth, evT_callv, evT_bc, evT_bm, evT_isi, evT_comp, evT_not, evT_and, evT_or, evT_cmp, evT_cmp2, evO, evC, evI, evG, evGs, permW, calN_call, calN_cs, getS_0, getS_s, Ok_ofS, tru_bl, Option.map, Bool.not_true, Bool.not_false, isiW, isOne, tyName, List.contains_cons, List.contains_nil, bin_add, bin_sub, cmp_lt, cmp_le, cmp_gt, cmp_ge, cmp_isN, cmp_isnN, bc_int, bc_abs, bc_max, bc_min, tgsL, List.length_cons, List.length_nil, List.set_cons_zero, List.set_cons_succ, at_0, at_1, at_2, ix_tup]
  refine is_count hi ?_
  simp (disch := first | assumption | decide | omega | (simp only [List.length_cons, List.length_nil]; omega)) only [newL_c, newT_c, wipeS, if_true, bin_mulc, bin_fdivc, bin_mod, OkS_cons, OkS_nil, OkS_nx, OkS_rt, OkS_bk, OkS_ct, OkS_toS, Ok_bind, Ok_bindN, Ok_nx, Ok_ok, evS, evE, evEs, evT_cst, evT_var, evT_glo, evT_bin, evT_neg, evT_fld, evT_ix, evT_rev, evT_slc, evT_lst, evT_tup, evT_call, evT_make, evT_meth, evT_callv, evT_bc, evT_bm, evT_isi, evT_comp, evT_not, evT_and, evT_or, evT_cmp, evT_cmp2, evO, evC, evI, evG, evGs, permW, calN_call, calN_cs, getS_0, getS_s, Ok_ofS, tru_bl, Option.map, Bool.not_true, Bool.not_false, isiW, isOne, tyName, List.contains_cons, List.contains_nil, bin_add, bin_sub, cmp_lt, cmp_le, cmp_gt, cmp_ge, cmp_isN, cmp_isnN, bc_int, bc_abs, bc_max, bc_min, tgsL, List.length_cons, List.length_nil, List.set_cons_zero, List.set_cons_succ, at_0, at_1, at_2, ix_tup]
  exact q
def PotB (b : Int) : Prop := 0 ≤ b ∧ b ≤ 2147483563
theorem draw {d : Nat} {p : Nat} {a b m : Int} {h : Hh} {Q : W → Hh → Prop} (hp : h.get p = some (.lst [.int a, .int b])) (hb : PotB b) (h0 : 0 < m) (h1 : m < 1073741824)
    (q : ∀ r a' b', 0 ≤ r → r < m → PotB b' → Q (.int r) (h.put p (.lst [.int a', .int b']))) : Ok (callN pr 0 (d + 1) 16 [.ref p, .int m] h) Q := by
  rw [Ok_call ⟨2, 3, b16⟩ [some (.ref p), some (.int m), none] rfl rfl rfl]
  unfold b16
  have hd : L2.CDiv a m := ⟨h0, h1⟩
  by_cases c : 0 < a
  · simp (disch := first | assumption | decide | omega | (simp only [List.length_cons, List.length_nil]; omega)) only [newL_c, newT_c, wipeS, if_true, bin_mulc, bin_fdivc, bin_mod, OkS_cons, OkS_nil, OkS_nx, OkS_rt, OkS_bk, OkS_ct, OkS_toS, Ok_bind, Ok_bindN, Ok_nx, Ok_ok, evS, evE, evEs, evT_cst, evT_var, evT_glo, evT_bin, evT_neg, evT_fld, evT_ix, evT_rev, evT_slc, evT_lst, evT_tup, evT_call, evT_make, evT_meth, evT_callv, evT_bc, evT_bm, evT_isi, evT_comp, evT_not, evT_and, evT_or, evT_cmp, evT_cmp2, evO, evC, evI, evG, evGs, permW, calN_call, calN_cs, getS_0, getS_s, Ok_ofS, tru_bl, Option.map, Bool.not_true, Bool.not_false, isiW, isOne, tyName, List.contains_cons, List.contains_nil, bin_add, bin_sub, cmp_lt, cmp_le, cmp_gt, cmp_ge, cmp_isN, cmp_isnN, bc_int, bc_abs, bc_max, bc_min, tgsL, List.length_cons, List.length_nil, List.set_cons_zero, List.set_cons_succ, at_0, at_1, at_2, ix_tup, ix_lst hp, decide_eq_true c, bc_divmod hd, set_l0 hp]
    exact q _ _ _ (Int.emod_nonneg _ (by omega)) (Int.emod_lt_of_pos _ h0) hb
  · obtain ⟨b', eb⟩ : ∃ b', b' = (b * 40577 + 30047) % 2147483563 := ⟨_, rfl⟩
    have hb0 : 0 ≤ b' := eb ▸ Int.emod_nonneg _ (by decide)
    have hb1 : b' < 2147483563 := eb ▸ Int.emod_lt_of_pos _ (by decide)
    have hm : L2.CMul b' b' := .inl ⟨by omega, by omega⟩
    simp (disch := first | assumption | decide | omega | (simp only [List.length_cons, List.length_nil]; omega)) only [newL_c, newT_c, wipeS, if_true, bin_mulc, bin_fdivc, bin_mod, OkS_cons, OkS_nil, OkS_nx, OkS_rt, OkS_bk, OkS_ct, OkS_toS, Ok_bind, Ok_bindN, Ok_nx, Ok_ok, evS, evE, evEs, evT_cst, evT_var, evT_glo, evT_bin, evT_neg, evT_fld, evT_ix, evT_rev, evT_slc, evT_lst, evT_tup, evT_call, evT_make, evT_meth, evT_callv, evT_bc, evT_bm, evT_isi, evT_comp, evT_not, evT_and, evT_or, evT_cmp, evT_cmp2, evO, evC, evI, evG, evGs, permW, calN_call, calN_cs, getS_0, getS_s, Ok_ofS, tru_bl, Option.map, Bool.not_true, Bool.not_false, isiW, isOne, tyName, List.contains_cons, List.contains_nil, bin_add, bin_sub, cmp_lt, cmp_le, cmp_gt, cmp_ge, cmp_isN, cmp_isnN, bc_int, bc_abs, bc_max, bc_min, tgsL, List.length_cons, List.length_nil, List.set_cons_zero, List.set_cons_succ, at_0, at_1, at_2, ix_tup, ix_lst hp, decide_eq_false c, set_l1 hp, ← eb, ix_lst get_put_eq, bin_mul hm]
    exact q _ _ _ (Int.emod_nonneg _ (by omega)) (Int.emod_lt_of_pos _ h0) ⟨hb0, by omega⟩
theorem mem_insI {i x : Int} {l : List Int} : x ∈ insI i l ↔ x = i ∨ x ∈ l := by rw [(insI_perm i l).mem_iff]; simp
theorem nd_insI {i : Int} {l : List Int} (h : l.Nodup) (c : i ∉ l) : (insI i l).Nodup := (insI_perm i l).symm.nodup (List.nodup_cons.mpr ⟨c, h⟩)
/-- the machine's object: its keys in order, the cycles left, what is told -/
structure Un (h : Hh) (u l t : Nat) (ks : List Int) (m : Int → Int) (tm : Int → W) : Prop where
  hu : h.get u = some (.ins 0 [(0, .ref l), (1, .ref t)])
  lu : u < h.n
  ll : l < h.n
  lt : t < h.n
  ne : l ≠ t
  L : ∃ kvs ls, h.get l = some (.dic kvs) ∧ DI kvs ls (fun k => if k ∈ ks then some (.int (m k)) else none)
  T : ∃ kvs ts, h.get t = some (.dic kvs) ∧ DI kvs ts (fun k => if k ∈ ks then some (tm k) else none)
  nd : ks.Nodup
  srt : ks.Pairwise (· ≤ ·)
  sm : ks.length < 64
  nn : ∀ k ∈ ks, 0 ≤ k
theorem Un.fr {h h' : Hh} {u l t : Nat} {ks : List Int} {m : Int → Int} {tm : Int → W} {S : List Nat} (U : Un h u l t ks m tm) (F : Fr h h' S) (n1 : u ∉ S) (n2 : l ∉ S) (n3 : t ∉ S) : Un h' u l t ks m tm := by
  obtain ⟨kvs, ls, e, d⟩ := U.L
  obtain ⟨kvs', ts, e', d'⟩ := U.T
  have le := F.le
  have := U.lu; have := U.ll; have := U.lt
  exact ⟨F.get U.hu U.lu n1, by omega, by omega, by omega, U.ne, ⟨kvs, ls, F.get e U.ll n2, d⟩, ⟨kvs', ts, F.get e' U.lt n3, d'⟩, U.nd, U.srt, U.sm, U.nn⟩
theorem di_keys {kvs : List (Key × W)} {ks ls : List Int} {f : Int → W} (d : DI kvs ls (fun k => if k ∈ ks then some (f k) else none)) (k : Int) : k ∈ ls ↔ k ∈ ks := by
  rw [← d.mem]
  by_cases c : k ∈ ks <;> simp [c]
theorem di_len {kvs : List (Key × W)} {ks ls : List Int} {f : Int → W} (d : DI kvs ls (fun k => if k ∈ ks then some (f k) else none)) (nd : ks.Nodup) : ls.length = ks.length :=
  ((List.perm_ext_iff_of_nodup d.nd nd).mpr (di_keys d)).length_eq
theorem di_sort {kvs : List (Key × W)} {ks ls : List Int} {f : Int → W} (d : DI kvs ls (fun k => if k ∈ ks then some (f k) else none)) (nd : ks.Nodup) (srt : ks.Pairwise (· ≤ ·)) : sortI ls = ks :=
  sorted_is nd srt d.nd fun x => (di_keys d x).symm
section
variable {d u l t : Nat} {ks : List Int} {m : Int → Int} {tm : Int → W} {h : Hh} {Q : W → Hh → Prop}
theorem fld0 (U : Un h u l t ks m tm) : fldW (calN pr 0 d) (.ref u) 0 h = .ok (.ref l) h := by
  simp only [fldW, U.hu]; rfl
theorem fld1 (U : Un h u l t ks m tm) : fldW (calN pr 0 d) (.ref u) 1 h = .ok (.ref t) h := by
  simp only [fldW, U.hu]; rfl
theorem numbers (U : Un h u l t ks m tm) (q : ∀ r h', Fr h h' [] → h.n ≤ r → r < h'.n → h'.get r = some (.lst (ks.map .int)) → Q (.ref r) h') : Ok (callN pr 0 (d + 1) 6 [.ref u] h) Q := by
  rw [Ok_call ⟨1, 1, b6⟩ [some (.ref u)] rfl rfl rfl]
  unfold b6
  obtain ⟨kvs, ls, e, D⟩ := U.L
  have hl := di_len D U.nd
  have sm := U.sm
  have e1 : (h.push (.lst (kvs.map fun kv => kW kv.1))).get h.n = some (.lst (ls.map .int)) := by rw [get_push_eq, D.kws]
  simp (disch := first | assumption | decide | omega | (simp only [List.length_cons, List.length_nil]; omega)) only [newL_c, newT_c, wipeS, if_true, bin_mulc, bin_fdivc, bin_mod, OkS_cons, OkS_nil, OkS_nx, OkS_rt, OkS_bk, OkS_ct, OkS_toS, Ok_bind, Ok_bindN, Ok_nx, Ok_ok, evS, evE, evEs, evT_cst, evT_var, evT_glo, evT_bin, evT_neg, evT_fld, evT_ix, evT_rev, evT_slc, evT_lst, evT_tup, evT_call, evT_make, evT_meth, evT_callv, evT_bc, evT_bm, evT_isi, evT_comp, evT_not, evT_and, evT_or, evT_cmp, evT_cmp2, evO, evC, evI, evG, evGs, permW, calN_call, calN_cs, getS_0, getS_s, Ok_ofS, tru_bl, Option.map, Bool.not_true, Bool.not_false, isiW, isOne, tyName, List.contains_cons, List.contains_nil, bin_add, bin_sub, cmp_lt, cmp_le, cmp_gt, cmp_ge, cmp_isN, cmp_isnN, bc_int, bc_abs, bc_max, bc_min, tgsL, List.length_cons, List.length_nil, List.set_cons_zero, List.set_cons_succ, at_0, at_1, at_2, ix_tup, fld0 U, bc_listD e, bc_sortL e1 (by omega)]
  rw [di_sort D U.nd U.srt]
  exact q _ _ (Fr.push.trans Fr.push) (Nat.le_succ _) (Nat.lt_succ_self _) get_push_eq
theorem mt2 (U : Un h u l t ks m tm) : methOf (calN pr 0 d) (.ref u) 2 h = some 6 := by
  simp only [methOf, U.hu]; rfl
theorem mt7 (U : Un h u l t ks m tm) : methOf (calN pr 0 d) (.ref u) 7 h = some 7 := by
  simp only [methOf, U.hu]; rfl
theorem mt5 (U : Un h u l t ks m tm) : methOf (calN pr 0 d) (.ref u) 5 h = some 8 := by
  simp only [methOf, U.hu]; rfl
theorem mt8 (U : Un h u l t ks m tm) : methOf (calN pr 0 d) (.ref u) 8 h = some 9 := by
  simp only [methOf, U.hu]; rfl
theorem mt3 (U : Un h u l t ks m tm) : methOf (calN pr 0 d) (.ref u) 3 h = some 10 := by
  simp only [methOf, U.hu]; rfl
theorem mt6 (U : Un h u l t ks m tm) : methOf (calN pr 0 d) (.ref u) 6 h = some 11 := by
  simp only [methOf, U.hu]; rfl
theorem mt9 (U : Un h u l t ks m tm) : methOf (calN pr 0 d) (.ref u) 9 h = some 12 := by
  simp only [methOf, U.hu]; rfl
theorem mt10 (U : Un h u l t ks m tm) : methOf (calN pr 0 d) (.ref u) 10 h = some 13 := by
  simp only [methOf, U.hu]; rfl
theorem held (U : Un h u l t ks m tm) (q : Q (.int ks.length) h) : Ok (callN pr 0 (d + 1) 5 [.ref u] h) Q := by
  rw [Ok_call ⟨1, 1, b5⟩ [some (.ref u)] rfl rfl rfl]
  unfold b5
  obtain ⟨kvs, ls, e, D⟩ := U.L
  simp (disch := first | assumption | decide | omega | (simp only [List.length_cons, List.length_nil]; omega)) only [newL_c, newT_c, wipeS, if_true, bin_mulc, bin_fdivc, bin_mod, OkS_cons, OkS_nil, OkS_nx, OkS_rt, OkS_bk, OkS_ct, OkS_toS, Ok_bind, Ok_bindN, Ok_nx, Ok_ok, evS, evE, evEs, evT_cst, evT_var, evT_glo, evT_bin, evT_neg, evT_fld, evT_ix, evT_rev, evT_slc, evT_lst, evT_tup, evT_call, evT_make, evT_meth, evT_callv, evT_bc, evT_bm, evT_isi, evT_comp, evT_not, evT_and, evT_or, evT_cmp, evT_cmp2, evO, evC, evI, evG, evGs, permW, calN_call, calN_cs, getS_0, getS_s, Ok_ofS, tru_bl, Option.map, Bool.not_true, Bool.not_false, isiW, isOne, tyName, List.contains_cons, List.contains_nil, bin_add, bin_sub, cmp_lt, cmp_le, cmp_gt, cmp_ge, cmp_isN, cmp_isnN, bc_int, bc_abs, bc_max, bc_min, tgsL, List.length_cons, List.length_nil, List.set_cons_zero, List.set_cons_succ, at_0, at_1, at_2, ix_tup, fld0 U, bc_lenD e]
  rw [D.len, di_len D U.nd]
  exact q
theorem in_dic {n : Nat} {kvs : List (Key × W)} {ls : List Int} {f : Int → W} {k : Int} (e : h.get n = some (.dic kvs)) (D : DI kvs ls (fun k => if k ∈ ks then some (f k) else none)) : inW (.int k) (.ref n) h = some (decide (k ∈ ks)) := by
  simp only [inW, seqAt, e, keyW, D.val]
  by_cases c : k ∈ ks <;> simp [c]
theorem cycles_left {k : Int} (U : Un h u l t ks m tm) (hk : k ∈ ks) (q : Q (.int (m k)) h) : Ok (callN pr 0 (d + 4) 8 [.ref u, .int k] h) Q := by
  rw [Ok_call ⟨2, 2, b8⟩ [some (.ref u), some (.int k)] rfl rfl rfl]
  unfold b8
  obtain ⟨kvs, ls, e, D⟩ := U.L
  simp (disch := first | assumption | decide | omega | (simp only [List.length_cons, List.length_nil]; omega)) only [newL_c, newT_c, wipeS, if_true, bin_mulc, bin_fdivc, bin_mod, OkS_cons, OkS_nil, OkS_nx, OkS_rt, OkS_bk, OkS_ct, OkS_toS, Ok_bind, Ok_bindN, Ok_nx, Ok_ok, evS, evE, evEs, evT_cst, evT_var, evT_glo, evT_bin, evT_neg, evT_fld, evT_ix, evT_rev, evT_slc, evT_lst, evT_tup, evT_call, evT_make, evT_meth, evT_callv, evT_bc, evT_bm, evT_isi, evT_comp, evT_not, evT_and, evT_or, evT_cmp, evT_cmp2, evO, evC, evI, evG, evGs, permW, calN_call, calN_cs, getS_0, getS_s, Ok_ofS, tru_bl, Option.map, Bool.not_true, Bool.not_false, isiW, isOne, tyName, List.contains_cons, List.contains_nil, bin_add, bin_sub, cmp_lt, cmp_le, cmp_gt, cmp_ge, cmp_isN, cmp_isnN, bc_int, bc_abs, bc_max, bc_min, tgsL, List.length_cons, List.length_nil, List.set_cons_zero, List.set_cons_succ, at_0, at_1, at_2, ix_tup]
  refine want_number (U.nn k hk) ?_
  simp (disch := first | assumption | decide | omega | (simp only [List.length_cons, List.length_nil]; omega)) only [newL_c, newT_c, wipeS, if_true, bin_mulc, bin_fdivc, bin_mod, OkS_cons, OkS_nil, OkS_nx, OkS_rt, OkS_bk, OkS_ct, OkS_toS, Ok_bind, Ok_bindN, Ok_nx, Ok_ok, evS, evE, evEs, evT_cst, evT_var, evT_glo, evT_bin, evT_neg, evT_fld, evT_ix, evT_rev, evT_slc, evT_lst, evT_tup, evT_call, evT_make, evT_meth, evT_callv, evT_bc, evT_bm, evT_isi, evT_comp, evT_not, evT_and, evT_or, evT_cmp, evT_cmp2, evO, evC, evI, evG, evGs, permW, calN_call, calN_cs, getS_0, getS_s, Ok_ofS, tru_bl, Option.map, Bool.not_true, Bool.not_false, isiW, isOne, tyName, List.contains_cons, List.contains_nil, bin_add, bin_sub, cmp_lt, cmp_le, cmp_gt, cmp_ge, cmp_isN, cmp_isnN, bc_int, bc_abs, bc_max, bc_min, tgsL, List.length_cons, List.length_nil, List.set_cons_zero, List.set_cons_succ, at_0, at_1, at_2, ix_tup, fld0 U, cmp_nin, in_dic e D, decide_eq_true hk, ix_dic e, D.val, if_pos hk]
  exact q
theorem ln (U : Un h u l t ks m tm) {kvs : List (Key × W)} {ls : List Int} {f : Int → W} (D : DI kvs ls (fun k => if k ∈ ks then some (f k) else none)) : kvs.length < sizeLine := by
  have := U.sm
  rw [D.len, di_len D U.nd, sizeLine_eq]; omega
/-- a cell of the object is stored -/
theorem Un.put0 (U : Un h u l t ks m tm) {kvs : List (Key × W)} {ls : List Int} {m' : Int → Int} (D : DI kvs ls (fun k => if k ∈ ks then some (.int (m' k)) else none)) : Un (h.put l (.dic kvs)) u l t ks m' tm := by
  obtain ⟨kvs0, ls0, e0, D0⟩ := U.L
  obtain ⟨kvs', ts, e', d'⟩ := U.T
  have n1 : u ≠ l := fun c => by have := U.hu; rw [c, e0] at this; cases this
  exact ⟨by rw [get_put_ne n1]; exact U.hu, U.lu, U.ll, U.lt, U.ne, ⟨kvs, ls, get_put_eq, D⟩, ⟨kvs', ts, by rw [get_put_ne (Ne.symm U.ne)]; exact e', d'⟩, U.nd, U.srt, U.sm, U.nn⟩
def dec1 (x : Int) : Int := if x - 1 > 0 then x - 1 else 0
theorem aged (U : Un h u l t ks m tm) (q : ∀ h', Fr h h' [l] → Un h' u l t ks (fun k => dec1 (m k)) tm → Q .non h') : Ok (callN pr 0 (d + 2) 9 [.ref u] h) Q := by
  rw [Ok_call ⟨1, 2, b9⟩ [some (.ref u), none] rfl rfl rfl]
  unfold b9
  simp (disch := first | assumption | decide | omega | (simp only [List.length_cons, List.length_nil]; omega)) only [newL_c, newT_c, wipeS, if_true, bin_mulc, bin_fdivc, bin_mod, OkS_cons, OkS_nil, OkS_nx, OkS_rt, OkS_bk, OkS_ct, OkS_toS, Ok_bind, Ok_bindN, Ok_nx, Ok_ok, evS, evE, evEs, evT_cst, evT_var, evT_glo, evT_bin, evT_neg, evT_fld, evT_ix, evT_rev, evT_slc, evT_lst, evT_tup, evT_call, evT_make, evT_meth, evT_callv, evT_bc, evT_bm, evT_isi, evT_comp, evT_not, evT_and, evT_or, evT_cmp, evT_cmp2, evO, evC, evI, evG, evGs, permW, calN_call, calN_cs, getS_0, getS_s, Ok_ofS, tru_bl, Option.map, Bool.not_true, Bool.not_false, isiW, isOne, tyName, List.contains_cons, List.contains_nil, bin_add, bin_sub, cmp_lt, cmp_le, cmp_gt, cmp_ge, cmp_isN, cmp_isnN, bc_int, bc_abs, bc_max, bc_min, tgsL, List.length_cons, List.length_nil, List.set_cons_zero, List.set_cons_succ, at_0, at_1, at_2, ix_tup, mt2 U]
  refine numbers U fun r h1 F1 hr hr' e => ?_
  have U1 := U.fr F1 (by simp) (by simp) (by simp)
  simp (disch := first | assumption | decide | omega | (simp only [List.length_cons, List.length_nil]; omega)) only [newL_c, newT_c, wipeS, if_true, bin_mulc, bin_fdivc, bin_mod, OkS_cons, OkS_nil, OkS_nx, OkS_rt, OkS_bk, OkS_ct, OkS_toS, Ok_bind, Ok_bindN, Ok_nx, Ok_ok, evS, evE, evEs, evT_cst, evT_var, evT_glo, evT_bin, evT_neg, evT_fld, evT_ix, evT_rev, evT_slc, evT_lst, evT_tup, evT_call, evT_make, evT_meth, evT_callv, evT_bc, evT_bm, evT_isi, evT_comp, evT_not, evT_and, evT_or, evT_cmp, evT_cmp2, evO, evC, evI, evG, evGs, permW, calN_call, calN_cs, getS_0, getS_s, Ok_ofS, tru_bl, Option.map, Bool.not_true, Bool.not_false, isiW, isOne, tyName, List.contains_cons, List.contains_nil, bin_add, bin_sub, cmp_lt, cmp_le, cmp_gt, cmp_ge, cmp_isN, cmp_isnN, bc_int, bc_abs, bc_max, bc_min, tgsL, List.length_cons, List.length_nil, List.set_cons_zero, List.set_cons_succ, at_0, at_1, at_2, ix_tup, seq_lst e]
  have rl : r ≠ l := by have := U.ll; omega
  refine for_lst (ks.map .int) (fun i s h' => s[0]? = some (some (.ref u)) ∧ s.length = 2 ∧ Fr h h' [l] ∧ h'.get r = some (.lst (ks.map .int)) ∧ Un h' u l t ks (fun k => if k ∈ ks.take i then dec1 (m k) else m k) tm) ⟨rfl, rfl, F1.mono (by simp), e, by simpa using U1⟩ (fun i s h' iv => iv.2.2.2.1) (fun i s h' w ew iv => ?_) (fun s h' iv => ?_)
  · obtain ⟨s0, s1, F, e1, U'⟩ := iv
    obtain ⟨k, ek, rfl⟩ : ∃ k, ks[i]? = some k ∧ w = .int k := by
      rw [List.getElem?_map] at ew
      cases z : ks[i]? with
      | none => rw [z] at ew; cases ew
      | some k => rw [z] at ew; cases ew; exact ⟨k, rfl, rfl⟩
    obtain ⟨x, y, rfl⟩ : ∃ x y, s = [x, y] := by
      match s, s1 with
      | [x, y], _ => exact ⟨x, y, rfl⟩
    cases s0
    have hk : k ∈ ks := List.mem_of_getElem? ek
    obtain ⟨kvs, ls, eL, D⟩ := U'.L
    have hnt : k ∉ ks.take i := by
      intro c
      obtain ⟨j, hj⟩ := List.mem_iff_getElem?.mp c
      rw [List.getElem?_take] at hj
      split at hj
      · rename_i hji
        have := (List.getElem?_inj (List.getElem?_eq_some_iff.mp ek).1 U.nd).mp (ek.trans hj.symm)
        omega
      · cases hj
    simp (disch := first | assumption | decide | omega | (simp only [List.length_cons, List.length_nil]; omega)) only [newL_c, newT_c, wipeS, if_true, bin_mulc, bin_fdivc, bin_mod, OkS_cons, OkS_nil, OkS_nx, OkS_rt, OkS_bk, OkS_ct, OkS_toS, Ok_bind, Ok_bindN, Ok_nx, Ok_ok, evS, evE, evEs, evT_cst, evT_var, evT_glo, evT_bin, evT_neg, evT_fld, evT_ix, evT_rev, evT_slc, evT_lst, evT_tup, evT_call, evT_make, evT_meth, evT_callv, evT_bc, evT_bm, evT_isi, evT_comp, evT_not, evT_and, evT_or, evT_cmp, evT_cmp2, evO, evC, evI, evG, evGs, permW, calN_call, calN_cs, getS_0, getS_s, Ok_ofS, tru_bl, Option.map, Bool.not_true, Bool.not_false, isiW, isOne, tyName, List.contains_cons, List.contains_nil, bin_add, bin_sub, cmp_lt, cmp_le, cmp_gt, cmp_ge, cmp_isN, cmp_isnN, bc_int, bc_abs, bc_max, bc_min, tgsL, List.length_cons, List.length_nil, List.set_cons_zero, List.set_cons_succ, at_0, at_1, at_2, ix_tup, fld0 U', ix_dic eL, D.val, if_pos hk, if_neg hnt, set_dic eL (ln U' D)]
    have D2 := D.put k (.int (dec1 (m k)))
    rw [if_pos ((di_keys D k).mpr hk)] at D2
    have U2 := U'.put0 (m' := fun k' => if k' ∈ ks.take (i + 1) then dec1 (m k') else m k') (kvs := putKW kvs (.inl k) (.int (dec1 (m k)))) (ls := ls) ⟨D2.keys, D2.nd, fun k' => by
      rw [D2.val]
      have tk : ks.take (i + 1) = ks.take i ++ [k] := by rw [List.take_add_one, ek]; rfl
      by_cases c : k' = k
      · subst c; simp [hk, tk]
      · rw [if_neg c, tk]; simp [c]⟩
    exact ⟨by first | trivial | rfl, by first | trivial | rfl, F.trans (Fr.put (by simp)), by rw [get_put_ne rl]; exact e1, U2⟩
  · obtain ⟨s0, s1, F, e1, U'⟩ := iv
    refine q h' F ?_
    have : ks.take (ks.map W.int).length = ks := by simp
    rw [this] at U'
    obtain ⟨kvs, ls, eL, D⟩ := U'.L
    refine { U' with L := ⟨kvs, ls, eL, D.keys, D.nd, fun k => ?_⟩ }
    rw [D.val]
    by_cases c : k ∈ ks <;> simp [c]
theorem NE : NoEq (calN pr 0 d) := noq
theorem nt {i : Nat} {k : Int} {ks : List Int} (nd : ks.Nodup) (ek : ks[i]? = some k) : k ∉ ks.take i := by
  intro c
  obtain ⟨j, hj⟩ := List.mem_iff_getElem?.mp c
  rw [List.getElem?_take] at hj
  split at hj
  · rename_i hji
    have := (List.getElem?_inj (List.getElem?_eq_some_iff.mp ek).1 nd).mp (ek.trans hj.symm)
    omega
  · cases hj
theorem tk {i : Nat} {k : Int} {ks : List Int} (ek : ks[i]? = some k) : ks.take (i + 1) = ks.take i ++ [k] := by rw [List.take_add_one, ek]; rfl
theorem im {i : Nat} {w : W} {ks : List Int} (ew : (ks.map W.int)[i]? = some w) : ∃ k, ks[i]? = some k ∧ w = .int k := by
  rw [List.getElem?_map] at ew
  cases z : ks[i]? with
  | none => rw [z] at ew; cases ew
  | some k => rw [z] at ew; cases ew; exact ⟨k, rfl, rfl⟩
theorem without {r : Nat} {kvs : List (Key × W)} {ls : List Int} {f : Int → W} {n : Int} (e : h.get r = some (.dic kvs)) (lr : r < h.n) (D : DI kvs ls (fun k => if k ∈ ks then some (f k) else none)) (nd : ks.Nodup) (srt : ks.Pairwise (· ≤ ·)) (sm : ks.length < 64)
    (q : ∀ x h' kvs' ls', Fr h h' [] → h.n ≤ x → x < h'.n → h'.get x = some (.dic kvs') → DI kvs' ls' (fun k => if k ∈ ks.filter (fun j => decide (j ≠ n)) then some (f k) else none) → Q (.ref x) h') : Ok (callN pr 0 (d + 1) 3 [.ref r, .int n] h) Q := by
  rw [Ok_call ⟨2, 4, b3⟩ [some (.ref r), some (.int n), none, none] rfl rfl rfl]
  unfold b3
  have hl := di_len D nd
  have e0 : (h.push (.dic [])).get r = some (.dic kvs) := by rw [get_push_lt lr]; exact e
  have e1 : ((h.push (.dic [])).push (.lst (kvs.map fun kv => kW kv.1))).get (h.push (.dic [])).n = some (.lst (ls.map .int)) := by rw [get_push_eq, D.kws]
  simp (disch := first | assumption | decide | omega | (simp only [List.length_cons, List.length_nil]; omega)) only [newL_c, newT_c, wipeS, if_true, bin_mulc, bin_fdivc, bin_mod, OkS_cons, OkS_nil, OkS_nx, OkS_rt, OkS_bk, OkS_ct, OkS_toS, Ok_bind, Ok_bindN, Ok_nx, Ok_ok, evS, evE, evEs, evT_cst, evT_var, evT_glo, evT_bin, evT_neg, evT_fld, evT_ix, evT_rev, evT_slc, evT_lst, evT_tup, evT_call, evT_make, evT_meth, evT_callv, evT_bc, evT_bm, evT_isi, evT_comp, evT_not, evT_and, evT_or, evT_cmp, evT_cmp2, evO, evC, evI, evG, evGs, permW, calN_call, calN_cs, getS_0, getS_s, Ok_ofS, tru_bl, Option.map, Bool.not_true, Bool.not_false, isiW, isOne, tyName, List.contains_cons, List.contains_nil, bin_add, bin_sub, cmp_lt, cmp_le, cmp_gt, cmp_ge, cmp_isN, cmp_isnN, bc_int, bc_abs, bc_max, bc_min, tgsL, List.length_cons, List.length_nil, List.set_cons_zero, List.set_cons_succ, at_0, at_1, at_2, ix_tup, bc_listD e0, bc_sortL e1 (show ls.length < 64 by omega)]
  rw [di_sort D nd srt]
  obtain ⟨h3, eh⟩ : ∃ h3, h3 = ((h.push (.dic [])).push (.lst (kvs.map fun kv => kW kv.1))).push (.lst (ks.map .int)) := ⟨_, rfl⟩
  have F3 : Fr h h3 [] := eh ▸ (Fr.push.trans Fr.push).trans Fr.push
  have n3 : h3.n = h.n + 3 := by rw [eh]; rfl
  have g3 : h3.get (h.n + 2) = some (.lst (ks.map .int)) := by rw [eh]; exact get_push_eq
  have g4 : h3.get h.n = some (.dic []) := by
    rw [eh, get_push_lt (by show h.n < h.n + 1 + 1; omega), get_push_lt (by show h.n < h.n + 1; omega)]; exact get_push_eq
  rw [← eh]
  show Ok (match seqAt h3 (.ref (h.n + 2)) with | some _ => _ | none => _) _
  simp (disch := first | assumption | decide | omega | (simp only [List.length_cons, List.length_nil]; omega)) only [newL_c, newT_c, wipeS, if_true, bin_mulc, bin_fdivc, bin_mod, OkS_cons, OkS_nil, OkS_nx, OkS_rt, OkS_bk, OkS_ct, OkS_toS, Ok_bind, Ok_bindN, Ok_nx, Ok_ok, evS, evE, evEs, evT_cst, evT_var, evT_glo, evT_bin, evT_neg, evT_fld, evT_ix, evT_rev, evT_slc, evT_lst, evT_tup, evT_call, evT_make, evT_meth, evT_callv, evT_bc, evT_bm, evT_isi, evT_comp, evT_not, evT_and, evT_or, evT_cmp, evT_cmp2, evO, evC, evI, evG, evGs, permW, calN_call, calN_cs, getS_0, getS_s, Ok_ofS, tru_bl, Option.map, Bool.not_true, Bool.not_false, isiW, isOne, tyName, List.contains_cons, List.contains_nil, bin_add, bin_sub, cmp_lt, cmp_le, cmp_gt, cmp_ge, cmp_isN, cmp_isnN, bc_int, bc_abs, bc_max, bc_min, tgsL, List.length_cons, List.length_nil, List.set_cons_zero, List.set_cons_succ, at_0, at_1, at_2, ix_tup, seq_lst g3]
  refine for_lst (ks.map .int) (fun i s h' => (∃ y, s = [some (.ref r), some (.int n), some (.ref h.n), y]) ∧ Fr h h' [] ∧ h.n + 3 ≤ h'.n ∧ h'.get (h.n + 2) = some (.lst (ks.map .int)) ∧ ∃ kvs' ls', h'.get h.n = some (.dic kvs') ∧ ls'.length ≤ i ∧
    DI kvs' ls' (fun k => if k ∈ (ks.take i).filter (fun j => decide (j ≠ n)) then some (f k) else none)) ⟨⟨_, rfl⟩, F3, by omega, g3, [], [], g4, Nat.zero_le _, by simpa using DI.nil⟩ (fun i s h' iv => iv.2.2.2.1) (fun i s h' w ew iv => ?_) (fun s h' iv => ?_)
  · obtain ⟨⟨y, rfl⟩, F, hn, e2, kvs', ls', eD, hls, D'⟩ := iv
    obtain ⟨k, ek, rfl⟩ := im ew
    have hk : k ∈ ks := List.mem_of_getElem? ek
    have lt : i < ks.length := (List.getElem?_eq_some_iff.mp ek).1
    have er := F.get e lr (by simp)
    have hsz : kvs'.length < sizeLine := by rw [D'.len, sizeLine_eq]; omega
    simp (disch := first | assumption | decide | omega | (simp only [List.length_cons, List.length_nil]; omega)) only [newL_c, newT_c, wipeS, if_true, bin_mulc, bin_fdivc, bin_mod, OkS_cons, OkS_nil, OkS_nx, OkS_rt, OkS_bk, OkS_ct, OkS_toS, Ok_bind, Ok_bindN, Ok_nx, Ok_ok, evS, evE, evEs, evT_cst, evT_var, evT_glo, evT_bin, evT_neg, evT_fld, evT_ix, evT_rev, evT_slc, evT_lst, evT_tup, evT_call, evT_make, evT_meth, evT_callv, evT_bc, evT_bm, evT_isi, evT_comp, evT_not, evT_and, evT_or, evT_cmp, evT_cmp2, evO, evC, evI, evG, evGs, permW, calN_call, calN_cs, getS_0, getS_s, Ok_ofS, tru_bl, Option.map, Bool.not_true, Bool.not_false, isiW, isOne, tyName, List.contains_cons, List.contains_nil, bin_add, bin_sub, cmp_lt, cmp_le, cmp_gt, cmp_ge, cmp_isN, cmp_isnN, bc_int, bc_abs, bc_max, bc_min, tgsL, List.length_cons, List.length_nil, List.set_cons_zero, List.set_cons_succ, at_0, at_1, at_2, ix_tup, cmp_ne NE, eqD_int]
    by_cases c : k = n
    · subst c
      simp only [beq_self_eq_true, Bool.not_true]
      simp (disch := first | assumption | decide | omega | (simp only [List.length_cons, List.length_nil]; omega)) only [newL_c, newT_c, wipeS, if_true, bin_mulc, bin_fdivc, bin_mod, OkS_cons, OkS_nil, OkS_nx, OkS_rt, OkS_bk, OkS_ct, OkS_toS, Ok_bind, Ok_bindN, Ok_nx, Ok_ok, evS, evE, evEs, evT_cst, evT_var, evT_glo, evT_bin, evT_neg, evT_fld, evT_ix, evT_rev, evT_slc, evT_lst, evT_tup, evT_call, evT_make, evT_meth, evT_callv, evT_bc, evT_bm, evT_isi, evT_comp, evT_not, evT_and, evT_or, evT_cmp, evT_cmp2, evO, evC, evI, evG, evGs, permW, calN_call, calN_cs, getS_0, getS_s, Ok_ofS, tru_bl, Option.map, Bool.not_true, Bool.not_false, isiW, isOne, tyName, List.contains_cons, List.contains_nil, bin_add, bin_sub, cmp_lt, cmp_le, cmp_gt, cmp_ge, cmp_isN, cmp_isnN, bc_int, bc_abs, bc_max, bc_min, tgsL, List.length_cons, List.length_nil, List.set_cons_zero, List.set_cons_succ, at_0, at_1, at_2, ix_tup]
      refine ⟨⟨_, rfl⟩, F, hn, e2, kvs', ls', eD, by omega, ?_⟩
      rw [tk ek]
      simpa using D'
    · rw [beq_eq_false_iff_ne.mpr c]
      simp only [Bool.not_false]
      simp (disch := first | assumption | decide | omega | (simp only [List.length_cons, List.length_nil]; omega)) only [newL_c, newT_c, wipeS, if_true, bin_mulc, bin_fdivc, bin_mod, OkS_cons, OkS_nil, OkS_nx, OkS_rt, OkS_bk, OkS_ct, OkS_toS, Ok_bind, Ok_bindN, Ok_nx, Ok_ok, evS, evE, evEs, evT_cst, evT_var, evT_glo, evT_bin, evT_neg, evT_fld, evT_ix, evT_rev, evT_slc, evT_lst, evT_tup, evT_call, evT_make, evT_meth, evT_callv, evT_bc, evT_bm, evT_isi, evT_comp, evT_not, evT_and, evT_or, evT_cmp, evT_cmp2, evO, evC, evI, evG, evGs, permW, calN_call, calN_cs, getS_0, getS_s, Ok_ofS, tru_bl, Option.map, Bool.not_true, Bool.not_false, isiW, isOne, tyName, List.contains_cons, List.contains_nil, bin_add, bin_sub, cmp_lt, cmp_le, cmp_gt, cmp_ge, cmp_isN, cmp_isnN, bc_int, bc_abs, bc_max, bc_min, tgsL, List.length_cons, List.length_nil, List.set_cons_zero, List.set_cons_succ, at_0, at_1, at_2, ix_tup, ix_dic er, D.val, if_pos hk, set_dic eD hsz]
      have D2 := D'.put k (f k)
      have hnk : k ∉ ls' := by rw [di_keys D']; intro z; exact nt nd ek (List.mem_filter.mp z).1
      rw [if_neg hnk] at D2
      refine ⟨⟨_, rfl⟩, F.putN (Nat.le_refl _), hn, by rw [get_put_ne (by omega)]; exact e2, _, _, get_put_eq, by simp; omega, D2.keys, D2.nd, fun k' => ?_⟩
      rw [D2.val, tk ek]
      by_cases c2 : k' = k
      · subst c2; simp [c]
      · rw [if_neg c2]; simp [c2]
  · obtain ⟨⟨y, rfl⟩, F, hn, e2, kvs', ls', eD, hls, D'⟩ := iv
    simp (disch := first | assumption | decide | omega | (simp only [List.length_cons, List.length_nil]; omega)) only [newL_c, newT_c, wipeS, if_true, bin_mulc, bin_fdivc, bin_mod, OkS_cons, OkS_nil, OkS_nx, OkS_rt, OkS_bk, OkS_ct, OkS_toS, Ok_bind, Ok_bindN, Ok_nx, Ok_ok, evS, evE, evEs, evT_cst, evT_var, evT_glo, evT_bin, evT_neg, evT_fld, evT_ix, evT_rev, evT_slc, evT_lst, evT_tup, evT_call, evT_make, evT_meth, evT_callv, evT_bc, evT_bm, evT_isi, evT_comp, evT_not, evT_and, evT_or, evT_cmp, evT_cmp2, evO, evC, evI, evG, evGs, permW, calN_call, calN_cs, getS_0, getS_s, Ok_ofS, tru_bl, Option.map, Bool.not_true, Bool.not_false, isiW, isOne, tyName, List.contains_cons, List.contains_nil, bin_add, bin_sub, cmp_lt, cmp_le, cmp_gt, cmp_ge, cmp_isN, cmp_isnN, bc_int, bc_abs, bc_max, bc_min, tgsL, List.length_cons, List.length_nil, List.set_cons_zero, List.set_cons_succ, at_0, at_1, at_2, ix_tup]
    rw [List.length_map, List.take_length] at D'
    exact q _ _ _ _ F (Nat.le_refl _) (by omega) eD D'
theorem Un.flt {p : Int → Bool} (U : Un h u l t ks m tm) : (ks.filter p).Nodup ∧ (ks.filter p).Pairwise (· ≤ ·) ∧ (ks.filter p).length < 64 ∧ ∀ k ∈ ks.filter p, 0 ≤ k :=
  ⟨U.nd.filter _, U.srt.filter _, Nat.lt_of_le_of_lt (List.length_filter_le _ _) U.sm, fun k hk => U.nn k (List.mem_filter.mp hk).1⟩
theorem gone {n : Int} (U : Un h u l t ks m tm) (q : ∀ h' l' t', Fr h h' [u] → h.n ≤ l' → h.n ≤ t' → Un h' u l' t' (ks.filter fun j => decide (j ≠ n)) m tm → Q .non h') : Ok (callN pr 0 (d + 2) 10 [.ref u, .int n] h) Q := by
  rw [Ok_call ⟨2, 2, b10⟩ [some (.ref u), some (.int n)] rfl rfl rfl]
  unfold b10
  obtain ⟨kvs, ls, eL, D⟩ := U.L
  obtain ⟨kvs', ts, eT, D'⟩ := U.T
  simp (disch := first | assumption | decide | omega | (simp only [List.length_cons, List.length_nil]; omega)) only [newL_c, newT_c, wipeS, if_true, bin_mulc, bin_fdivc, bin_mod, OkS_cons, OkS_nil, OkS_nx, OkS_rt, OkS_bk, OkS_ct, OkS_toS, Ok_bind, Ok_bindN, Ok_nx, Ok_ok, evS, evE, evEs, evT_cst, evT_var, evT_glo, evT_bin, evT_neg, evT_fld, evT_ix, evT_rev, evT_slc, evT_lst, evT_tup, evT_call, evT_make, evT_meth, evT_callv, evT_bc, evT_bm, evT_isi, evT_comp, evT_not, evT_and, evT_or, evT_cmp, evT_cmp2, evO, evC, evI, evG, evGs, permW, calN_call, calN_cs, getS_0, getS_s, Ok_ofS, tru_bl, Option.map, Bool.not_true, Bool.not_false, isiW, isOne, tyName, List.contains_cons, List.contains_nil, bin_add, bin_sub, cmp_lt, cmp_le, cmp_gt, cmp_ge, cmp_isN, cmp_isnN, bc_int, bc_abs, bc_max, bc_min, tgsL, List.length_cons, List.length_nil, List.set_cons_zero, List.set_cons_succ, at_0, at_1, at_2, ix_tup, fld0 U]
  refine without eL U.ll D U.nd U.srt U.sm fun x h1 k1 l1 F1 hx hx' e1 D1 => ?_
  have lu := U.lu; have ll := U.ll; have lt := U.lt
  have hu1 := F1.get U.hu lu (by simp)
  have s0 : setFld (calN pr 0 (d + 1)) (.ref u) 0 (.ref x) h1 = some (h1.put u (.ins 0 [(0, .ref x), (1, .ref t)])) := by
    simp only [setFld, hu1]; rfl
  simp (disch := first | assumption | decide | omega | (simp only [List.length_cons, List.length_nil]; omega)) only [newL_c, newT_c, wipeS, if_true, bin_mulc, bin_fdivc, bin_mod, OkS_cons, OkS_nil, OkS_nx, OkS_rt, OkS_bk, OkS_ct, OkS_toS, Ok_bind, Ok_bindN, Ok_nx, Ok_ok, evS, evE, evEs, evT_cst, evT_var, evT_glo, evT_bin, evT_neg, evT_fld, evT_ix, evT_rev, evT_slc, evT_lst, evT_tup, evT_call, evT_make, evT_meth, evT_callv, evT_bc, evT_bm, evT_isi, evT_comp, evT_not, evT_and, evT_or, evT_cmp, evT_cmp2, evO, evC, evI, evG, evGs, permW, calN_call, calN_cs, getS_0, getS_s, Ok_ofS, tru_bl, Option.map, Bool.not_true, Bool.not_false, isiW, isOne, tyName, List.contains_cons, List.contains_nil, bin_add, bin_sub, cmp_lt, cmp_le, cmp_gt, cmp_ge, cmp_isN, cmp_isnN, bc_int, bc_abs, bc_max, bc_min, tgsL, List.length_cons, List.length_nil, List.set_cons_zero, List.set_cons_succ, at_0, at_1, at_2, ix_tup, s0]
  have n1 : t ≠ u := fun c => by have := U.hu; rw [← c, eT] at this; cases this
  have eT1 : (h1.put u (.ins 0 [(0, .ref x), (1, .ref t)])).get t = some (.dic kvs') := by rw [get_put_ne n1]; exact F1.get eT lt (by simp)
  have f1 : fldW (calN pr 0 (d + 1)) (.ref u) 1 (h1.put u (.ins 0 [(0, .ref x), (1, .ref t)])) = .ok (.ref t) (h1.put u (.ins 0 [(0, .ref x), (1, .ref t)])) := by
    simp only [fldW, get_put_eq]; rfl
  simp (disch := first | assumption | decide | omega | (simp only [List.length_cons, List.length_nil]; omega)) only [newL_c, newT_c, wipeS, if_true, bin_mulc, bin_fdivc, bin_mod, OkS_cons, OkS_nil, OkS_nx, OkS_rt, OkS_bk, OkS_ct, OkS_toS, Ok_bind, Ok_bindN, Ok_nx, Ok_ok, evS, evE, evEs, evT_cst, evT_var, evT_glo, evT_bin, evT_neg, evT_fld, evT_ix, evT_rev, evT_slc, evT_lst, evT_tup, evT_call, evT_make, evT_meth, evT_callv, evT_bc, evT_bm, evT_isi, evT_comp, evT_not, evT_and, evT_or, evT_cmp, evT_cmp2, evO, evC, evI, evG, evGs, permW, calN_call, calN_cs, getS_0, getS_s, Ok_ofS, tru_bl, Option.map, Bool.not_true, Bool.not_false, isiW, isOne, tyName, List.contains_cons, List.contains_nil, bin_add, bin_sub, cmp_lt, cmp_le, cmp_gt, cmp_ge, cmp_isN, cmp_isnN, bc_int, bc_abs, bc_max, bc_min, tgsL, List.length_cons, List.length_nil, List.set_cons_zero, List.set_cons_succ, at_0, at_1, at_2, ix_tup, f1]
  have le1 := F1.le
  refine without eT1 (by show t < h1.n; omega) D' U.nd U.srt U.sm fun y h2 k2 l2 F2 hy hy' e2 D2 => ?_
  have hu2 := F2.get get_put_eq (show u < h1.n by omega) (by simp)
  have s1 : setFld (calN pr 0 (d + 1)) (.ref u) 1 (.ref y) h2 = some (h2.put u (.ins 0 [(0, .ref x), (1, .ref y)])) := by
    simp only [setFld, hu2]; rfl
  simp (disch := first | assumption | decide | omega | (simp only [List.length_cons, List.length_nil]; omega)) only [newL_c, newT_c, wipeS, if_true, bin_mulc, bin_fdivc, bin_mod, OkS_cons, OkS_nil, OkS_nx, OkS_rt, OkS_bk, OkS_ct, OkS_toS, Ok_bind, Ok_bindN, Ok_nx, Ok_ok, evS, evE, evEs, evT_cst, evT_var, evT_glo, evT_bin, evT_neg, evT_fld, evT_ix, evT_rev, evT_slc, evT_lst, evT_tup, evT_call, evT_make, evT_meth, evT_callv, evT_bc, evT_bm, evT_isi, evT_comp, evT_not, evT_and, evT_or, evT_cmp, evT_cmp2, evO, evC, evI, evG, evGs, permW, calN_call, calN_cs, getS_0, getS_s, Ok_ofS, tru_bl, Option.map, Bool.not_true, Bool.not_false, isiW, isOne, tyName, List.contains_cons, List.contains_nil, bin_add, bin_sub, cmp_lt, cmp_le, cmp_gt, cmp_ge, cmp_isN, cmp_isnN, bc_int, bc_abs, bc_max, bc_min, tgsL, List.length_cons, List.length_nil, List.set_cons_zero, List.set_cons_succ, at_0, at_1, at_2, ix_tup, s1]
  have hy1 : h1.n ≤ y := hy
  have le2 : h1.n ≤ h2.n := F2.le
  have g1 : h2.get x = some (.dic k1) := F2.get (by rw [get_put_ne (by omega)]; exact e1) hx' (by simp)
  obtain ⟨a1, a2, a3, a4⟩ := U.flt (p := fun j => decide (j ≠ n))
  refine q _ x y (((F1.mono (by simp)).trans (Fr.put (by simp))).trans ((F2.mono (by simp)).trans (Fr.put (by simp)))) hx (by omega) ⟨get_put_eq, by show u < h2.n; omega, by show x < h2.n; omega, hy', by omega, ⟨k1, l1, by rw [get_put_ne (by omega)]; exact g1, D1⟩, ⟨k2, l2, by rw [get_put_ne (by omega)]; exact e2, D2⟩, a1, a2, a3, a4⟩
def ends (ks : List Int) (m : Int → Int) : List Int := ks.filter fun k => m k == 0
theorem finished0 (U : Un h u l t ks m tm) (c : ends ks m = []) (q : ∀ h', Fr h h' [] → Q .non h') : Ok (callN pr 0 (d + 3) 11 [.ref u] h) Q := by
  rw [Ok_call ⟨1, 4, b11⟩ [some (.ref u), none, none, none] rfl rfl rfl]
  unfold b11
  simp (disch := first | assumption | decide | omega | (simp only [List.length_cons, List.length_nil]; omega)) only [newL_c, newT_c, wipeS, if_true, bin_mulc, bin_fdivc, bin_mod, OkS_cons, OkS_nil, OkS_nx, OkS_rt, OkS_bk, OkS_ct, OkS_toS, Ok_bind, Ok_bindN, Ok_nx, Ok_ok, evS, evE, evEs, evT_cst, evT_var, evT_glo, evT_bin, evT_neg, evT_fld, evT_ix, evT_rev, evT_slc, evT_lst, evT_tup, evT_call, evT_make, evT_meth, evT_callv, evT_bc, evT_bm, evT_isi, evT_comp, evT_not, evT_and, evT_or, evT_cmp, evT_cmp2, evO, evC, evI, evG, evGs, permW, calN_call, calN_cs, getS_0, getS_s, Ok_ofS, tru_bl, Option.map, Bool.not_true, Bool.not_false, isiW, isOne, tyName, List.contains_cons, List.contains_nil, bin_add, bin_sub, cmp_lt, cmp_le, cmp_gt, cmp_ge, cmp_isN, cmp_isnN, bc_int, bc_abs, bc_max, bc_min, tgsL, List.length_cons, List.length_nil, List.set_cons_zero, List.set_cons_succ, at_0, at_1, at_2, ix_tup, mt2 U]
  refine numbers U fun r h1 F1 hr hr' e => ?_
  have U1 := U.fr F1 (by simp) (by simp) (by simp)
  simp (disch := first | assumption | decide | omega | (simp only [List.length_cons, List.length_nil]; omega)) only [newL_c, newT_c, wipeS, if_true, bin_mulc, bin_fdivc, bin_mod, OkS_cons, OkS_nil, OkS_nx, OkS_rt, OkS_bk, OkS_ct, OkS_toS, Ok_bind, Ok_bindN, Ok_nx, Ok_ok, evS, evE, evEs, evT_cst, evT_var, evT_glo, evT_bin, evT_neg, evT_fld, evT_ix, evT_rev, evT_slc, evT_lst, evT_tup, evT_call, evT_make, evT_meth, evT_callv, evT_bc, evT_bm, evT_isi, evT_comp, evT_not, evT_and, evT_or, evT_cmp, evT_cmp2, evO, evC, evI, evG, evGs, permW, calN_call, calN_cs, getS_0, getS_s, Ok_ofS, tru_bl, Option.map, Bool.not_true, Bool.not_false, isiW, isOne, tyName, List.contains_cons, List.contains_nil, bin_add, bin_sub, cmp_lt, cmp_le, cmp_gt, cmp_ge, cmp_isN, cmp_isnN, bc_int, bc_abs, bc_max, bc_min, tgsL, List.length_cons, List.length_nil, List.set_cons_zero, List.set_cons_succ, at_0, at_1, at_2, ix_tup, seq_lst e]
  have hz : (ks.map W.int).length ≤ sizeLine := by have := U.sm; rw [List.length_map, sizeLine_eq]; omega
  refine comp_pure (fmI fun k => m k == 0) e hr' hz (fun w hw h' F => ?_) fun h' F hn e2 => ?_
  · obtain ⟨k, hk, rfl⟩ := List.mem_map.mp hw
    have U' := U1.fr F (by simp) (by simp) (by simp)
    obtain ⟨kvs, ls, eL, D⟩ := U'.L
    simp (disch := first | assumption | decide | omega | (simp only [List.length_cons, List.length_nil]; omega)) only [newL_c, newT_c, wipeS, if_true, bin_mulc, bin_fdivc, bin_mod, OkS_cons, OkS_nil, OkS_nx, OkS_rt, OkS_bk, OkS_ct, OkS_toS, Ok_bind, Ok_bindN, Ok_nx, Ok_ok, evS, evE, evEs, evT_cst, evT_var, evT_glo, evT_bin, evT_neg, evT_fld, evT_ix, evT_rev, evT_slc, evT_lst, evT_tup, evT_call, evT_make, evT_meth, evT_callv, evT_bc, evT_bm, evT_isi, evT_comp, evT_not, evT_and, evT_or, evT_cmp, evT_cmp2, evO, evC, evI, evG, evGs, permW, calN_call, calN_cs, getS_0, getS_s, Ok_ofS, tru_bl, Option.map, Bool.not_true, Bool.not_false, isiW, isOne, tyName, List.contains_cons, List.contains_nil, bin_add, bin_sub, cmp_lt, cmp_le, cmp_gt, cmp_ge, cmp_isN, cmp_isnN, bc_int, bc_abs, bc_max, bc_min, tgsL, List.length_cons, List.length_nil, List.set_cons_zero, List.set_cons_succ, at_0, at_1, at_2, ix_tup, fld0 U', ix_dic eL, D.val, if_pos hk, cmp_eq NE, eqD_int]
    refine ⟨trivial, trivial, ?_⟩
    by_cases z : (m k == 0) = true
    · rw [if_pos z]; exact ⟨trivial, by simp only [fmI, if_pos z]⟩
    · rw [if_neg z]; simp only [fmI, if_neg z]
  · rw [fm_int] at e2
    have c' : ks.filter (fun k => m k == 0) = [] := c
    rw [c'] at e2
    have e3 : (h'.push (.lst [])).get h1.n = some (.lst (([] : List Int).map .int)) := by rw [get_push_lt (by omega)]; exact e2
    simp (disch := first | assumption | decide | omega | (simp only [List.length_cons, List.length_nil]; omega)) only [newL_c, newT_c, wipeS, if_true, bin_mulc, bin_fdivc, bin_mod, OkS_cons, OkS_nil, OkS_nx, OkS_rt, OkS_bk, OkS_ct, OkS_toS, Ok_bind, Ok_bindN, Ok_nx, Ok_ok, evS, evE, evEs, evT_cst, evT_var, evT_glo, evT_bin, evT_neg, evT_fld, evT_ix, evT_rev, evT_slc, evT_lst, evT_tup, evT_call, evT_make, evT_meth, evT_callv, evT_bc, evT_bm, evT_isi, evT_comp, evT_not, evT_and, evT_or, evT_cmp, evT_cmp2, evO, evC, evI, evG, evGs, permW, calN_call, calN_cs, getS_0, getS_s, Ok_ofS, tru_bl, Option.map, Bool.not_true, Bool.not_false, isiW, isOne, tyName, List.contains_cons, List.contains_nil, bin_add, bin_sub, cmp_lt, cmp_le, cmp_gt, cmp_ge, cmp_isN, cmp_isnN, bc_int, bc_abs, bc_max, bc_min, tgsL, List.length_cons, List.length_nil, List.set_cons_zero, List.set_cons_succ, at_0, at_1, at_2, ix_tup, cmp_eq NE, eqD_nil e3 get_push_eq, List.isEmpty_nil]
    exact q _ (((F1.trans F)).trans Fr.push)
theorem finished1 {k0 : Int} {rest : List Int} (U : Un h u l t ks m tm) (c : ends ks m = k0 :: rest) (q : ∀ h' l' t', Fr h h' [u] → h.n ≤ l' → h.n ≤ t' → Un h' u l' t' (ks.filter fun j => decide (j ≠ k0)) m tm → Q (.tup [.int k0, tm k0]) h') : Ok (callN pr 0 (d + 3) 11 [.ref u] h) Q := by
  rw [Ok_call ⟨1, 4, b11⟩ [some (.ref u), none, none, none] rfl rfl rfl]
  unfold b11
  simp (disch := first | assumption | decide | omega | (simp only [List.length_cons, List.length_nil]; omega)) only [newL_c, newT_c, wipeS, if_true, bin_mulc, bin_fdivc, bin_mod, OkS_cons, OkS_nil, OkS_nx, OkS_rt, OkS_bk, OkS_ct, OkS_toS, Ok_bind, Ok_bindN, Ok_nx, Ok_ok, evS, evE, evEs, evT_cst, evT_var, evT_glo, evT_bin, evT_neg, evT_fld, evT_ix, evT_rev, evT_slc, evT_lst, evT_tup, evT_call, evT_make, evT_meth, evT_callv, evT_bc, evT_bm, evT_isi, evT_comp, evT_not, evT_and, evT_or, evT_cmp, evT_cmp2, evO, evC, evI, evG, evGs, permW, calN_call, calN_cs, getS_0, getS_s, Ok_ofS, tru_bl, Option.map, Bool.not_true, Bool.not_false, isiW, isOne, tyName, List.contains_cons, List.contains_nil, bin_add, bin_sub, cmp_lt, cmp_le, cmp_gt, cmp_ge, cmp_isN, cmp_isnN, bc_int, bc_abs, bc_max, bc_min, tgsL, List.length_cons, List.length_nil, List.set_cons_zero, List.set_cons_succ, at_0, at_1, at_2, ix_tup, mt2 U]
  refine numbers U fun r h1 F1 hr hr' e => ?_
  have U1 := U.fr F1 (by simp) (by simp) (by simp)
  simp (disch := first | assumption | decide | omega | (simp only [List.length_cons, List.length_nil]; omega)) only [newL_c, newT_c, wipeS, if_true, bin_mulc, bin_fdivc, bin_mod, OkS_cons, OkS_nil, OkS_nx, OkS_rt, OkS_bk, OkS_ct, OkS_toS, Ok_bind, Ok_bindN, Ok_nx, Ok_ok, evS, evE, evEs, evT_cst, evT_var, evT_glo, evT_bin, evT_neg, evT_fld, evT_ix, evT_rev, evT_slc, evT_lst, evT_tup, evT_call, evT_make, evT_meth, evT_callv, evT_bc, evT_bm, evT_isi, evT_comp, evT_not, evT_and, evT_or, evT_cmp, evT_cmp2, evO, evC, evI, evG, evGs, permW, calN_call, calN_cs, getS_0, getS_s, Ok_ofS, tru_bl, Option.map, Bool.not_true, Bool.not_false, isiW, isOne, tyName, List.contains_cons, List.contains_nil, bin_add, bin_sub, cmp_lt, cmp_le, cmp_gt, cmp_ge, cmp_isN, cmp_isnN, bc_int, bc_abs, bc_max, bc_min, tgsL, List.length_cons, List.length_nil, List.set_cons_zero, List.set_cons_succ, at_0, at_1, at_2, ix_tup, seq_lst e]
  have hz : (ks.map W.int).length ≤ sizeLine := by have := U.sm; rw [List.length_map, sizeLine_eq]; omega
  refine comp_pure (fmI fun k => m k == 0) e hr' hz (fun w hw h' F => ?_) fun h' F hn e2 => ?_
  · obtain ⟨k, hk, rfl⟩ := List.mem_map.mp hw
    have U' := U1.fr F (by simp) (by simp) (by simp)
    obtain ⟨kvs, ls, eL, D⟩ := U'.L
    simp (disch := first | assumption | decide | omega | (simp only [List.length_cons, List.length_nil]; omega)) only [newL_c, newT_c, wipeS, if_true, bin_mulc, bin_fdivc, bin_mod, OkS_cons, OkS_nil, OkS_nx, OkS_rt, OkS_bk, OkS_ct, OkS_toS, Ok_bind, Ok_bindN, Ok_nx, Ok_ok, evS, evE, evEs, evT_cst, evT_var, evT_glo, evT_bin, evT_neg, evT_fld, evT_ix, evT_rev, evT_slc, evT_lst, evT_tup, evT_call, evT_make, evT_meth, evT_callv, evT_bc, evT_bm, evT_isi, evT_comp, evT_not, evT_and, evT_or, evT_cmp, evT_cmp2, evO, evC, evI, evG, evGs, permW, calN_call, calN_cs, getS_0, getS_s, Ok_ofS, tru_bl, Option.map, Bool.not_true, Bool.not_false, isiW, isOne, tyName, List.contains_cons, List.contains_nil, bin_add, bin_sub, cmp_lt, cmp_le, cmp_gt, cmp_ge, cmp_isN, cmp_isnN, bc_int, bc_abs, bc_max, bc_min, tgsL, List.length_cons, List.length_nil, List.set_cons_zero, List.set_cons_succ, at_0, at_1, at_2, ix_tup, fld0 U', ix_dic eL, D.val, if_pos hk, cmp_eq NE, eqD_int]
    refine ⟨trivial, trivial, ?_⟩
    by_cases z : (m k == 0) = true
    · rw [if_pos z]; exact ⟨trivial, by simp only [fmI, if_pos z]⟩
    · rw [if_neg z]; simp only [fmI, if_neg z]
  · rw [fm_int] at e2
    have c' : ks.filter (fun k => m k == 0) = k0 :: rest := c
    have hk0 : k0 ∈ ks := (List.mem_filter.mp (c' ▸ List.mem_cons_self)).1
    rw [c'] at e2
    have lt : h1.n < h'.n := by omega
    have e3 : (h'.push (.lst [])).get h1.n = some (.lst ((k0 :: rest).map .int)) := by rw [get_push_lt lt]; exact e2
    have e4 : (h'.push (.lst [])).get h1.n = some (.lst (.int k0 :: rest.map .int)) := e3
    have F4 : Fr h (h'.push (.lst [])) [] := (F1.trans F).trans Fr.push
    have U4 := U.fr F4 (by simp) (by simp) (by simp)
    obtain ⟨kvs, ts, eT, D⟩ := U4.T
    simp (disch := first | assumption | decide | omega | (simp only [List.length_cons, List.length_nil]; omega)) only [newL_c, newT_c, wipeS, if_true, bin_mulc, bin_fdivc, bin_mod, OkS_cons, OkS_nil, OkS_nx, OkS_rt, OkS_bk, OkS_ct, OkS_toS, Ok_bind, Ok_bindN, Ok_nx, Ok_ok, evS, evE, evEs, evT_cst, evT_var, evT_glo, evT_bin, evT_neg, evT_fld, evT_ix, evT_rev, evT_slc, evT_lst, evT_tup, evT_call, evT_make, evT_meth, evT_callv, evT_bc, evT_bm, evT_isi, evT_comp, evT_not, evT_and, evT_or, evT_cmp, evT_cmp2, evO, evC, evI, evG, evGs, permW, calN_call, calN_cs, getS_0, getS_s, Ok_ofS, tru_bl, Option.map, Bool.not_true, Bool.not_false, isiW, isOne, tyName, List.contains_cons, List.contains_nil, bin_add, bin_sub, cmp_lt, cmp_le, cmp_gt, cmp_ge, cmp_isN, cmp_isnN, bc_int, bc_abs, bc_max, bc_min, tgsL, List.length_cons, List.length_nil, List.set_cons_zero, List.set_cons_succ, at_0, at_1, at_2, ix_tup, cmp_eq NE, eqD_nil e3 get_push_eq, List.isEmpty_cons, ix_lst e4, fld1 U4, ix_dic eT, D.val, if_pos hk0, mt3 U4]
    refine gone U4 fun h5 l' t' F5 hl ht U5 => ?_
    have := F4.le
    exact q h5 l' t' ((F4.mono (by simp)).trans F5) (by omega) (by omega) U5
theorem begun {k c : Int} {w : W} (U : Un h u l t ks m tm) (hk : 0 ≤ k) (hn : k ∉ ks) (sm : ks.length < 60) (c1 : 1 ≤ c) (c2 : c ≤ 1000000)
    (q : ∀ h', Fr h h' [l, t] → Un h' u l t (insI k ks) (fun j => if j = k then c else m j) (fun j => if j = k then w else tm j) → Q .non h') : Ok (callN pr 0 (d + 4) 7 [.ref u, .int k, .int c, w] h) Q := by
  rw [Ok_call ⟨4, 4, b7⟩ [some (.ref u), some (.int k), some (.int c), some w] rfl rfl rfl]
  unfold b7
  obtain ⟨kvs, ls, eL, D⟩ := U.L
  obtain ⟨kvs', ts, eT, D'⟩ := U.T
  simp (disch := first | assumption | decide | omega | (simp only [List.length_cons, List.length_nil]; omega)) only [newL_c, newT_c, wipeS, if_true, bin_mulc, bin_fdivc, bin_mod, OkS_cons, OkS_nil, OkS_nx, OkS_rt, OkS_bk, OkS_ct, OkS_toS, Ok_bind, Ok_bindN, Ok_nx, Ok_ok, evS, evE, evEs, evT_cst, evT_var, evT_glo, evT_bin, evT_neg, evT_fld, evT_ix, evT_rev, evT_slc, evT_lst, evT_tup, evT_call, evT_make, evT_meth, evT_callv, evT_bc, evT_bm, evT_isi, evT_comp, evT_not, evT_and, evT_or, evT_cmp, evT_cmp2, evO, evC, evI, evG, evGs, permW, calN_call, calN_cs, getS_0, getS_s, Ok_ofS, tru_bl, Option.map, Bool.not_true, Bool.not_false, isiW, isOne, tyName, List.contains_cons, List.contains_nil, bin_add, bin_sub, cmp_lt, cmp_le, cmp_gt, cmp_ge, cmp_isN, cmp_isnN, bc_int, bc_abs, bc_max, bc_min, tgsL, List.length_cons, List.length_nil, List.set_cons_zero, List.set_cons_succ, at_0, at_1, at_2, ix_tup]
  refine want_number hk ?_
  refine is_count (d := d + 1) (by omega) ?_
  simp (disch := first | assumption | decide | omega | (simp only [List.length_cons, List.length_nil]; omega)) only [newL_c, newT_c, wipeS, if_true, bin_mulc, bin_fdivc, bin_mod, OkS_cons, OkS_nil, OkS_nx, OkS_rt, OkS_bk, OkS_ct, OkS_toS, Ok_bind, Ok_bindN, Ok_nx, Ok_ok, evS, evE, evEs, evT_cst, evT_var, evT_glo, evT_bin, evT_neg, evT_fld, evT_ix, evT_rev, evT_slc, evT_lst, evT_tup, evT_call, evT_make, evT_meth, evT_callv, evT_bc, evT_bm, evT_isi, evT_comp, evT_not, evT_and, evT_or, evT_cmp, evT_cmp2, evO, evC, evI, evG, evGs, permW, calN_call, calN_cs, getS_0, getS_s, Ok_ofS, tru_bl, Option.map, Bool.not_true, Bool.not_false, isiW, isOne, tyName, List.contains_cons, List.contains_nil, bin_add, bin_sub, cmp_lt, cmp_le, cmp_gt, cmp_ge, cmp_isN, cmp_isnN, bc_int, bc_abs, bc_max, bc_min, tgsL, List.length_cons, List.length_nil, List.set_cons_zero, List.set_cons_succ, at_0, at_1, at_2, ix_tup, decide_eq_true c1, decide_eq_true c2, fld0 U, cmp_isin, in_dic eL D, decide_eq_false hn, set_dic eL (ln U D)]
  have u1 : u ≠ l := fun c => by have := U.hu; rw [c, eL] at this; cases this
  have u2 : u ≠ t := fun c => by have := U.hu; rw [c, eT] at this; cases this
  have f1 : fldW (calN pr 0 (d + 3)) (.ref u) 1 (h.put l (.dic (putKW kvs (.inl k) (.int c)))) = .ok (.ref t) (h.put l (.dic (putKW kvs (.inl k) (.int c)))) := by
    simp only [fldW, get_put_ne u1, U.hu]; rfl
  have eT1 : (h.put l (.dic (putKW kvs (.inl k) (.int c)))).get t = some (.dic kvs') := by rw [get_put_ne (Ne.symm U.ne)]; exact eT
  simp (disch := first | assumption | decide | omega | (simp only [List.length_cons, List.length_nil]; omega)) only [newL_c, newT_c, wipeS, if_true, bin_mulc, bin_fdivc, bin_mod, OkS_cons, OkS_nil, OkS_nx, OkS_rt, OkS_bk, OkS_ct, OkS_toS, Ok_bind, Ok_bindN, Ok_nx, Ok_ok, evS, evE, evEs, evT_cst, evT_var, evT_glo, evT_bin, evT_neg, evT_fld, evT_ix, evT_rev, evT_slc, evT_lst, evT_tup, evT_call, evT_make, evT_meth, evT_callv, evT_bc, evT_bm, evT_isi, evT_comp, evT_not, evT_and, evT_or, evT_cmp, evT_cmp2, evO, evC, evI, evG, evGs, permW, calN_call, calN_cs, getS_0, getS_s, Ok_ofS, tru_bl, Option.map, Bool.not_true, Bool.not_false, isiW, isOne, tyName, List.contains_cons, List.contains_nil, bin_add, bin_sub, cmp_lt, cmp_le, cmp_gt, cmp_ge, cmp_isN, cmp_isnN, bc_int, bc_abs, bc_max, bc_min, tgsL, List.length_cons, List.length_nil, List.set_cons_zero, List.set_cons_succ, at_0, at_1, at_2, ix_tup, f1, set_dic eT1 (ln U D')]
  have n1 : k ∉ ls := fun z => hn ((di_keys D k).mp z)
  have n2 : k ∉ ts := fun z => hn ((di_keys D' k).mp z)
  have D1 := D.put k (.int c)
  have D2 := D'.put k w
  rw [if_neg n1] at D1
  rw [if_neg n2] at D2
  refine q _ ((Fr.put (by simp)).trans (Fr.put (by simp))) ⟨by rw [get_put_ne u2, get_put_ne u1]; exact U.hu, U.lu, U.ll, U.lt, U.ne, ⟨_, _, by rw [get_put_ne U.ne]; exact get_put_eq, D1.keys, D1.nd, fun j => ?_⟩, ⟨_, _, get_put_eq, D2.keys, D2.nd, fun j => ?_⟩, nd_insI U.nd hn, insI_pw k ks U.srt, ?_, fun j hj => ?_⟩
  · rw [D1.val]
    by_cases z : j = k
    · subst z; simp [mem_insI]
    · simp [z, mem_insI]
  · rw [D2.val]
    by_cases z : j = k
    · subst z; simp [mem_insI]
    · simp [z, mem_insI]
  · rw [(insI_perm k ks).length_eq]; simp; omega
  · rcases mem_insI.mp hj with z | z
    · rw [z]; exact hk
    · exact U.nn j z
theorem dropped {n : Int} (U : Un h u l t ks m tm) (hn : 0 ≤ n) (q : ∀ r h' l' t', Fr h h' [u] → (l' = l ∨ h.n ≤ l') → (t' = t ∨ h.n ≤ t') → Un h' u l' t' (ks.filter fun k => decide (k < n)) m tm → h.n ≤ r → r < h'.n → h'.get r = some (.lst ((ks.filter fun k => decide (n ≤ k)).reverse.map .int)) → Q (.ref r) h') :
    Ok (callN pr 0 (d + 4) 12 [.ref u, .int n] h) Q := by
  rw [Ok_call ⟨2, 4, b12⟩ [some (.ref u), some (.int n), none, none] rfl rfl rfl]
  unfold b12
  simp (disch := first | assumption | decide | omega | (simp only [List.length_cons, List.length_nil]; omega)) only [newL_c, newT_c, wipeS, if_true, bin_mulc, bin_fdivc, bin_mod, OkS_cons, OkS_nil, OkS_nx, OkS_rt, OkS_bk, OkS_ct, OkS_toS, Ok_bind, Ok_bindN, Ok_nx, Ok_ok, evS, evE, evEs, evT_cst, evT_var, evT_glo, evT_bin, evT_neg, evT_fld, evT_ix, evT_rev, evT_slc, evT_lst, evT_tup, evT_call, evT_make, evT_meth, evT_callv, evT_bc, evT_bm, evT_isi, evT_comp, evT_not, evT_and, evT_or, evT_cmp, evT_cmp2, evO, evC, evI, evG, evGs, permW, calN_call, calN_cs, getS_0, getS_s, Ok_ofS, tru_bl, Option.map, Bool.not_true, Bool.not_false, isiW, isOne, tyName, List.contains_cons, List.contains_nil, bin_add, bin_sub, cmp_lt, cmp_le, cmp_gt, cmp_ge, cmp_isN, cmp_isnN, bc_int, bc_abs, bc_max, bc_min, tgsL, List.length_cons, List.length_nil, List.set_cons_zero, List.set_cons_succ, at_0, at_1, at_2, ix_tup]
  refine want_number hn ?_
  simp (disch := first | assumption | decide | omega | (simp only [List.length_cons, List.length_nil]; omega)) only [newL_c, newT_c, wipeS, if_true, bin_mulc, bin_fdivc, bin_mod, OkS_cons, OkS_nil, OkS_nx, OkS_rt, OkS_bk, OkS_ct, OkS_toS, Ok_bind, Ok_bindN, Ok_nx, Ok_ok, evS, evE, evEs, evT_cst, evT_var, evT_glo, evT_bin, evT_neg, evT_fld, evT_ix, evT_rev, evT_slc, evT_lst, evT_tup, evT_call, evT_make, evT_meth, evT_callv, evT_bc, evT_bm, evT_isi, evT_comp, evT_not, evT_and, evT_or, evT_cmp, evT_cmp2, evO, evC, evI, evG, evGs, permW, calN_call, calN_cs, getS_0, getS_s, Ok_ofS, tru_bl, Option.map, Bool.not_true, Bool.not_false, isiW, isOne, tyName, List.contains_cons, List.contains_nil, bin_add, bin_sub, cmp_lt, cmp_le, cmp_gt, cmp_ge, cmp_isN, cmp_isnN, bc_int, bc_abs, bc_max, bc_min, tgsL, List.length_cons, List.length_nil, List.set_cons_zero, List.set_cons_succ, at_0, at_1, at_2, ix_tup, mt2 U]
  refine numbers U fun r h1 F1 hr hr' e => ?_
  have U1 := U.fr F1 (by simp) (by simp) (by simp)
  simp (disch := first | assumption | decide | omega | (simp only [List.length_cons, List.length_nil]; omega)) only [newL_c, newT_c, wipeS, if_true, bin_mulc, bin_fdivc, bin_mod, OkS_cons, OkS_nil, OkS_nx, OkS_rt, OkS_bk, OkS_ct, OkS_toS, Ok_bind, Ok_bindN, Ok_nx, Ok_ok, evS, evE, evEs, evT_cst, evT_var, evT_glo, evT_bin, evT_neg, evT_fld, evT_ix, evT_rev, evT_slc, evT_lst, evT_tup, evT_call, evT_make, evT_meth, evT_callv, evT_bc, evT_bm, evT_isi, evT_comp, evT_not, evT_and, evT_or, evT_cmp, evT_cmp2, evO, evC, evI, evG, evGs, permW, calN_call, calN_cs, getS_0, getS_s, Ok_ofS, tru_bl, Option.map, Bool.not_true, Bool.not_false, isiW, isOne, tyName, List.contains_cons, List.contains_nil, bin_add, bin_sub, cmp_lt, cmp_le, cmp_gt, cmp_ge, cmp_isN, cmp_isnN, bc_int, bc_abs, bc_max, bc_min, tgsL, List.length_cons, List.length_nil, List.set_cons_zero, List.set_cons_succ, at_0, at_1, at_2, ix_tup, seq_lst e]
  have hz : (ks.map W.int).length ≤ sizeLine := by have := U.sm; rw [List.length_map, sizeLine_eq]; omega
  refine comp_pure (fmI fun k => decide (n ≤ k)) e hr' hz (fun w hw h' F => ?_) fun h' F hnn e2 => ?_
  · obtain ⟨k, hk, rfl⟩ := List.mem_map.mp hw
    simp (disch := first | assumption | decide | omega | (simp only [List.length_cons, List.length_nil]; omega)) only [newL_c, newT_c, wipeS, if_true, bin_mulc, bin_fdivc, bin_mod, OkS_cons, OkS_nil, OkS_nx, OkS_rt, OkS_bk, OkS_ct, OkS_toS, Ok_bind, Ok_bindN, Ok_nx, Ok_ok, evS, evE, evEs, evT_cst, evT_var, evT_glo, evT_bin, evT_neg, evT_fld, evT_ix, evT_rev, evT_slc, evT_lst, evT_tup, evT_call, evT_make, evT_meth, evT_callv, evT_bc, evT_bm, evT_isi, evT_comp, evT_not, evT_and, evT_or, evT_cmp, evT_cmp2, evO, evC, evI, evG, evGs, permW, calN_call, calN_cs, getS_0, getS_s, Ok_ofS, tru_bl, Option.map, Bool.not_true, Bool.not_false, isiW, isOne, tyName, List.contains_cons, List.contains_nil, bin_add, bin_sub, cmp_lt, cmp_le, cmp_gt, cmp_ge, cmp_isN, cmp_isnN, bc_int, bc_abs, bc_max, bc_min, tgsL, List.length_cons, List.length_nil, List.set_cons_zero, List.set_cons_succ, at_0, at_1, at_2, ix_tup]
    refine ⟨trivial, trivial, ?_⟩
    by_cases z : decide (n ≤ k) = true
    · rw [if_pos z]; exact ⟨trivial, by simp only [fmI, if_pos z]⟩
    · rw [if_neg z]; simp only [fmI, if_neg z]
  · rw [fm_int] at e2
    obtain ⟨G, eG⟩ : ∃ G, G = ks.filter fun k => decide (n ≤ k) := ⟨_, rfl⟩
    rw [← eG] at e2
    have F2 : Fr h h' [] := F1.trans F
    have U2 := U.fr F2 (by simp) (by simp) (by simp)
    have le2 : h.n < h'.n := by have := F1.le; omega
    have g1 : h.n ≤ h1.n := F1.le
    have nG : G.Nodup := eG ▸ U.nd.filter _
    simp (disch := first | assumption | decide | omega | (simp only [List.length_cons, List.length_nil]; omega)) only [newL_c, newT_c, wipeS, if_true, bin_mulc, bin_fdivc, bin_mod, OkS_cons, OkS_nil, OkS_nx, OkS_rt, OkS_bk, OkS_ct, OkS_toS, Ok_bind, Ok_bindN, Ok_nx, Ok_ok, evS, evE, evEs, evT_cst, evT_var, evT_glo, evT_bin, evT_neg, evT_fld, evT_ix, evT_rev, evT_slc, evT_lst, evT_tup, evT_call, evT_make, evT_meth, evT_callv, evT_bc, evT_bm, evT_isi, evT_comp, evT_not, evT_and, evT_or, evT_cmp, evT_cmp2, evO, evC, evI, evG, evGs, permW, calN_call, calN_cs, getS_0, getS_s, Ok_ofS, tru_bl, Option.map, Bool.not_true, Bool.not_false, isiW, isOne, tyName, List.contains_cons, List.contains_nil, bin_add, bin_sub, cmp_lt, cmp_le, cmp_gt, cmp_ge, cmp_isN, cmp_isnN, bc_int, bc_abs, bc_max, bc_min, tgsL, List.length_cons, List.length_nil, List.set_cons_zero, List.set_cons_succ, at_0, at_1, at_2, ix_tup, seq_lst e2]
    refine for_lst (G.map .int) (fun i s h2 => (∃ y, s = [some (.ref u), some (.int n), some (.ref h1.n), y]) ∧ Fr h h2 [u] ∧ h'.n ≤ h2.n ∧ h2.get h1.n = some (.lst (G.map .int)) ∧ ∃ l' t', (l' = l ∨ h.n ≤ l') ∧ (t' = t ∨ h.n ≤ t') ∧ Un h2 u l' t' (ks.filter fun k => decide (k ∉ G.take i)) m tm)
      ⟨⟨_, rfl⟩, F2.mono (by simp), Nat.le_refl _, e2, l, t, .inl rfl, .inl rfl, by rw [List.filter_eq_self.mpr (by simp)]; exact U2⟩ (fun i s h2 iv => iv.2.2.2.1) (fun i s h2 w ew iv => ?_) (fun s h2 iv => ?_)
    · obtain ⟨⟨y, rfl⟩, F3, hn3, e3, l', t', hl, ht, U3⟩ := iv
      obtain ⟨k, ek, rfl⟩ := im ew
      simp (disch := first | assumption | decide | omega | (simp only [List.length_cons, List.length_nil]; omega)) only [newL_c, newT_c, wipeS, if_true, bin_mulc, bin_fdivc, bin_mod, OkS_cons, OkS_nil, OkS_nx, OkS_rt, OkS_bk, OkS_ct, OkS_toS, Ok_bind, Ok_bindN, Ok_nx, Ok_ok, evS, evE, evEs, evT_cst, evT_var, evT_glo, evT_bin, evT_neg, evT_fld, evT_ix, evT_rev, evT_slc, evT_lst, evT_tup, evT_call, evT_make, evT_meth, evT_callv, evT_bc, evT_bm, evT_isi, evT_comp, evT_not, evT_and, evT_or, evT_cmp, evT_cmp2, evO, evC, evI, evG, evGs, permW, calN_call, calN_cs, getS_0, getS_s, Ok_ofS, tru_bl, Option.map, Bool.not_true, Bool.not_false, isiW, isOne, tyName, List.contains_cons, List.contains_nil, bin_add, bin_sub, cmp_lt, cmp_le, cmp_gt, cmp_ge, cmp_isN, cmp_isnN, bc_int, bc_abs, bc_max, bc_min, tgsL, List.length_cons, List.length_nil, List.set_cons_zero, List.set_cons_succ, at_0, at_1, at_2, ix_tup, mt3 U3]
      refine gone U3 fun h4 l4 t4 F4 hl4 ht4 U4 => ?_
      have le4 := F4.le
      have le3 := F3.le
      have lu := U.lu
      refine ⟨⟨_, rfl⟩, F3.trans F4, by omega, F4.get e3 (by omega) (by simp; omega), l4, t4, .inr (by omega), .inr (by omega), ?_⟩
      have : (ks.filter fun k => decide (k ∉ G.take i)).filter (fun j => decide (j ≠ k)) = ks.filter fun j => decide (j ∉ G.take (i + 1)) := by
        rw [List.filter_filter, tk ek]
        refine List.filter_congr fun j _ => ?_
        by_cases z : j = k <;> simp [z]
      rw [this] at U4
      exact U4
    · obtain ⟨⟨y, rfl⟩, F3, hn3, e3, l', t', hl, ht, U3⟩ := iv
      simp (disch := first | assumption | decide | omega | (simp only [List.length_cons, List.length_nil]; omega)) only [newL_c, newT_c, wipeS, if_true, bin_mulc, bin_fdivc, bin_mod, OkS_cons, OkS_nil, OkS_nx, OkS_rt, OkS_bk, OkS_ct, OkS_toS, Ok_bind, Ok_bindN, Ok_nx, Ok_ok, evS, evE, evEs, evT_cst, evT_var, evT_glo, evT_bin, evT_neg, evT_fld, evT_ix, evT_rev, evT_slc, evT_lst, evT_tup, evT_call, evT_make, evT_meth, evT_callv, evT_bc, evT_bm, evT_isi, evT_comp, evT_not, evT_and, evT_or, evT_cmp, evT_cmp2, evO, evC, evI, evG, evGs, permW, calN_call, calN_cs, getS_0, getS_s, Ok_ofS, tru_bl, Option.map, Bool.not_true, Bool.not_false, isiW, isOne, tyName, List.contains_cons, List.contains_nil, bin_add, bin_sub, cmp_lt, cmp_le, cmp_gt, cmp_ge, cmp_isN, cmp_isnN, bc_int, bc_abs, bc_max, bc_min, tgsL, List.length_cons, List.length_nil, List.set_cons_zero, List.set_cons_succ, at_0, at_1, at_2, ix_tup, rev_lst e3]
      have : (ks.filter fun k => decide (k ∉ G.take (G.map W.int).length)) = ks.filter fun k => decide (k < n) := by
        rw [List.length_map, List.take_length]
        refine List.filter_congr fun j hj => ?_
        rw [eG]
        by_cases z : n ≤ j
        · simp [z, hj]
        · simp [z]; omega
      rw [this] at U3
      have le3 := F3.le
      have U5 := U3.fr (Fr.push (o := .lst (G.map W.int).reverse) (S := [])) (by simp) (by simp) (by simp)
      exact q _ _ l' t' (F3.trans Fr.push) hl ht U5 le3 (Nat.lt_succ_self _) (by rw [get_push_eq, ← eG, List.map_reverse])
theorem new0 (q : ∀ h', Fr h h' [] → h'.n = h.n + 3 → Un h' h.n (h.n + 1) (h.n + 2) [] m tm → Q (.ref h.n) h') : Ok (makeW (calN pr 0 (d + 1)) 0 [] h) Q := by
  have e0 : makeW (calN pr 0 (d + 1)) 0 [] h = (callN pr 0 (d + 1) 4 [.ref h.n] (h.push (.ins 0 []))).bind fun r h1 => match r with
    | .non => .ok (.ref h.n) h1
    | _ => .no := rfl
  rw [e0, Ok_bind, Ok_call ⟨1, 1, b4⟩ [some (.ref h.n)] rfl rfl rfl]
  unfold b4
  have s0 : setFld (calN pr 0 d) (.ref h.n) 0 (.ref (h.n + 1)) ((h.push (.ins 0 [])).push (.dic [])) = some (((h.push (.ins 0 [])).push (.dic [])).put h.n (.ins 0 [(0, .ref (h.n + 1))])) := by
    have : ((h.push (.ins 0 [])).push (.dic [])).get h.n = some (.ins 0 []) := by rw [get_push_lt (by show h.n < h.n + 1; omega)]; exact get_push_eq
    simp only [setFld, this]; rfl
  obtain ⟨h2, eh⟩ : ∃ h2, h2 = ((h.push (.ins 0 [])).push (.dic [])).put h.n (.ins 0 [(0, .ref (h.n + 1))]) := ⟨_, rfl⟩
  have n2 : h2.n = h.n + 2 := by rw [eh]; rfl
  have g2 : h2.get h.n = some (.ins 0 [(0, .ref (h.n + 1))]) := by rw [eh]; exact get_put_eq
  have g3 : h2.get (h.n + 1) = some (.dic []) := by rw [eh, get_put_ne (by omega)]; exact get_push_eq
  have F2 : Fr h h2 [] := eh ▸ (Fr.push.trans Fr.push).putN (Nat.le_refl _)
  have s1 : setFld (calN pr 0 d) (.ref h.n) 1 (.ref h2.n) (h2.push (.dic [])) = some ((h2.push (.dic [])).put h.n (.ins 0 [(0, .ref (h.n + 1)), (1, .ref h2.n)])) := by
    have : (h2.push (.dic [])).get h.n = some (.ins 0 [(0, .ref (h.n + 1))]) := by rw [get_push_lt (by omega)]; exact g2
    simp only [setFld, this]; rfl
  have nn : (h.push (.ins 0 [])).n = h.n + 1 := rfl
  simp (disch := first | assumption | decide | omega | (simp only [List.length_cons, List.length_nil]; omega)) only [newL_c, newT_c, wipeS, if_true, bin_mulc, bin_fdivc, bin_mod, OkS_cons, OkS_nil, OkS_nx, OkS_rt, OkS_bk, OkS_ct, OkS_toS, Ok_bind, Ok_bindN, Ok_nx, Ok_ok, evS, evE, evEs, evT_cst, evT_var, evT_glo, evT_bin, evT_neg, evT_fld, evT_ix, evT_rev, evT_slc, evT_lst, evT_tup, evT_call, evT_make, evT_meth, evT_callv, evT_bc, evT_bm, evT_isi, evT_comp, evT_not, evT_and, evT_or, evT_cmp, evT_cmp2, evO, evC, evI, evG, evGs, permW, calN_call, calN_cs, getS_0, getS_s, Ok_ofS, tru_bl, Option.map, Bool.not_true, Bool.not_false, isiW, isOne, tyName, List.contains_cons, List.contains_nil, bin_add, bin_sub, cmp_lt, cmp_le, cmp_gt, cmp_ge, cmp_isN, cmp_isnN, bc_int, bc_abs, bc_max, bc_min, tgsL, List.length_cons, List.length_nil, List.set_cons_zero, List.set_cons_succ, at_0, at_1, at_2, ix_tup, nn, s0]
  rw [← eh]
  simp (disch := first | assumption | decide | omega | (simp only [List.length_cons, List.length_nil]; omega)) only [newL_c, newT_c, wipeS, if_true, bin_mulc, bin_fdivc, bin_mod, OkS_cons, OkS_nil, OkS_nx, OkS_rt, OkS_bk, OkS_ct, OkS_toS, Ok_bind, Ok_bindN, Ok_nx, Ok_ok, evS, evE, evEs, evT_cst, evT_var, evT_glo, evT_bin, evT_neg, evT_fld, evT_ix, evT_rev, evT_slc, evT_lst, evT_tup, evT_call, evT_make, evT_meth, evT_callv, evT_bc, evT_bm, evT_isi, evT_comp, evT_not, evT_and, evT_or, evT_cmp, evT_cmp2, evO, evC, evI, evG, evGs, permW, calN_call, calN_cs, getS_0, getS_s, Ok_ofS, tru_bl, Option.map, Bool.not_true, Bool.not_false, isiW, isOne, tyName, List.contains_cons, List.contains_nil, bin_add, bin_sub, cmp_lt, cmp_le, cmp_gt, cmp_ge, cmp_isN, cmp_isnN, bc_int, bc_abs, bc_max, bc_min, tgsL, List.length_cons, List.length_nil, List.set_cons_zero, List.set_cons_succ, at_0, at_1, at_2, ix_tup, s1]
  refine q _ ((F2.trans Fr.push).putN (Nat.le_refl _)) (by show h2.n + 1 = _; omega) ⟨by rw [get_put_eq, n2], by show h.n < h2.n + 1; omega, by show h.n + 1 < h2.n + 1; omega, by show h.n + 2 < h2.n + 1; omega, by omega, ⟨[], [], by rw [get_put_ne (by omega), get_push_lt (by omega)]; exact g3, by simpa using DI.nil⟩, ⟨[], [], by rw [get_put_ne (by omega), ← n2]; exact get_push_eq, by simpa using DI.nil⟩, by simp, by simp, by simp, by simp⟩
theorem copy (U : Un h u l t ks m tm) (q : ∀ h', Fr h h' [] → h.n + 3 ≤ h'.n → Un h' h.n (h.n + 1) (h.n + 2) ks m tm → Q (.ref h.n) h') : Ok (callN pr 0 (d + 2) 13 [.ref u] h) Q := by
  rw [Ok_call ⟨1, 3, b13⟩ [some (.ref u), none, none] rfl rfl rfl]
  unfold b13
  simp (disch := first | assumption | decide | omega | (simp only [List.length_cons, List.length_nil]; omega)) only [newL_c, newT_c, wipeS, if_true, bin_mulc, bin_fdivc, bin_mod, OkS_cons, OkS_nil, OkS_nx, OkS_rt, OkS_bk, OkS_ct, OkS_toS, Ok_bind, Ok_bindN, Ok_nx, Ok_ok, evS, evE, evEs, evT_cst, evT_var, evT_glo, evT_bin, evT_neg, evT_fld, evT_ix, evT_rev, evT_slc, evT_lst, evT_tup, evT_call, evT_make, evT_meth, evT_callv, evT_bc, evT_bm, evT_isi, evT_comp, evT_not, evT_and, evT_or, evT_cmp, evT_cmp2, evO, evC, evI, evG, evGs, permW, calN_call, calN_cs, getS_0, getS_s, Ok_ofS, tru_bl, Option.map, Bool.not_true, Bool.not_false, isiW, isOne, tyName, List.contains_cons, List.contains_nil, bin_add, bin_sub, cmp_lt, cmp_le, cmp_gt, cmp_ge, cmp_isN, cmp_isnN, bc_int, bc_abs, bc_max, bc_min, tgsL, List.length_cons, List.length_nil, List.set_cons_zero, List.set_cons_succ, at_0, at_1, at_2, ix_tup]
  refine new0 (m := m) (tm := tm) fun h1 F1 n1 V1 => ?_
  have U1 := U.fr F1 (by simp) (by simp) (by simp)
  simp (disch := first | assumption | decide | omega | (simp only [List.length_cons, List.length_nil]; omega)) only [newL_c, newT_c, wipeS, if_true, bin_mulc, bin_fdivc, bin_mod, OkS_cons, OkS_nil, OkS_nx, OkS_rt, OkS_bk, OkS_ct, OkS_toS, Ok_bind, Ok_bindN, Ok_nx, Ok_ok, evS, evE, evEs, evT_cst, evT_var, evT_glo, evT_bin, evT_neg, evT_fld, evT_ix, evT_rev, evT_slc, evT_lst, evT_tup, evT_call, evT_make, evT_meth, evT_callv, evT_bc, evT_bm, evT_isi, evT_comp, evT_not, evT_and, evT_or, evT_cmp, evT_cmp2, evO, evC, evI, evG, evGs, permW, calN_call, calN_cs, getS_0, getS_s, Ok_ofS, tru_bl, Option.map, Bool.not_true, Bool.not_false, isiW, isOne, tyName, List.contains_cons, List.contains_nil, bin_add, bin_sub, cmp_lt, cmp_le, cmp_gt, cmp_ge, cmp_isN, cmp_isnN, bc_int, bc_abs, bc_max, bc_min, tgsL, List.length_cons, List.length_nil, List.set_cons_zero, List.set_cons_succ, at_0, at_1, at_2, ix_tup, mt2 U1]
  refine numbers U1 fun r h2 F2 hr hr' e => ?_
  have U2 := U1.fr F2 (by simp) (by simp) (by simp)
  have V2 := V1.fr F2 (by simp) (by simp) (by simp)
  have lu := U.lu; have ll := U.ll; have lt := U.lt
  simp (disch := first | assumption | decide | omega | (simp only [List.length_cons, List.length_nil]; omega)) only [newL_c, newT_c, wipeS, if_true, bin_mulc, bin_fdivc, bin_mod, OkS_cons, OkS_nil, OkS_nx, OkS_rt, OkS_bk, OkS_ct, OkS_toS, Ok_bind, Ok_bindN, Ok_nx, Ok_ok, evS, evE, evEs, evT_cst, evT_var, evT_glo, evT_bin, evT_neg, evT_fld, evT_ix, evT_rev, evT_slc, evT_lst, evT_tup, evT_call, evT_make, evT_meth, evT_callv, evT_bc, evT_bm, evT_isi, evT_comp, evT_not, evT_and, evT_or, evT_cmp, evT_cmp2, evO, evC, evI, evG, evGs, permW, calN_call, calN_cs, getS_0, getS_s, Ok_ofS, tru_bl, Option.map, Bool.not_true, Bool.not_false, isiW, isOne, tyName, List.contains_cons, List.contains_nil, bin_add, bin_sub, cmp_lt, cmp_le, cmp_gt, cmp_ge, cmp_isN, cmp_isnN, bc_int, bc_abs, bc_max, bc_min, tgsL, List.length_cons, List.length_nil, List.set_cons_zero, List.set_cons_succ, at_0, at_1, at_2, ix_tup, seq_lst e]
  refine for_lst (ks.map .int) (fun i s h3 => (∃ y, s = [some (.ref u), some (.ref h.n), y]) ∧ Fr h h3 [] ∧ h2.n ≤ h3.n ∧ h3.get r = some (.lst (ks.map .int)) ∧ Un h3 u l t ks m tm ∧ Un h3 h.n (h.n + 1) (h.n + 2) (ks.take i) m tm)
    ⟨⟨_, rfl⟩, F1.trans F2, Nat.le_refl _, e, U2, by simpa using V2⟩ (fun i s h3 iv => iv.2.2.2.1) (fun i s h3 w ew iv => ?_) (fun s h3 iv => ?_)
  · obtain ⟨⟨y, rfl⟩, F3, hn3, e3, U3, V3⟩ := iv
    obtain ⟨k, ek, rfl⟩ := im ew
    have hk : k ∈ ks := List.mem_of_getElem? ek
    have hnt := nt U.nd ek
    have le2 := F2.le
    obtain ⟨kvs, ls, eL, D⟩ := U3.L
    obtain ⟨kvt, ts, eT, D'⟩ := U3.T
    obtain ⟨kvs2, ls2, eL2, D2⟩ := V3.L
    obtain ⟨kvt2, ts2, eT2, D2'⟩ := V3.T
    obtain ⟨h4, eh⟩ : ∃ h4, h4 = h3.put (h.n + 1) (.dic (putKW kvs2 (.inl k) (.int (m k)))) := ⟨_, rfl⟩
    have gg : ∀ j, j ≠ h.n + 1 → h4.get j = h3.get j := fun j c => by rw [eh, get_put_ne c]
    have f0 : fldW (calN pr 0 (d + 1)) (.ref u) 1 h4 = .ok (.ref t) h4 := by simp only [fldW, gg u (by omega), U3.hu]; rfl
    have f1 : fldW (calN pr 0 (d + 1)) (.ref h.n) 1 h4 = .ok (.ref (h.n + 2)) h4 := by simp only [fldW, gg h.n (by omega), V3.hu]; rfl
    have eT' : h4.get t = some (.dic kvt) := by rw [gg t (by omega)]; exact eT
    have eT2' : h4.get (h.n + 2) = some (.dic kvt2) := by rw [gg _ (by omega)]; exact eT2
    simp (disch := first | assumption | decide | omega | (simp only [List.length_cons, List.length_nil]; omega)) only [newL_c, newT_c, wipeS, if_true, bin_mulc, bin_fdivc, bin_mod, OkS_cons, OkS_nil, OkS_nx, OkS_rt, OkS_bk, OkS_ct, OkS_toS, Ok_bind, Ok_bindN, Ok_nx, Ok_ok, evS, evE, evEs, evT_cst, evT_var, evT_glo, evT_bin, evT_neg, evT_fld, evT_ix, evT_rev, evT_slc, evT_lst, evT_tup, evT_call, evT_make, evT_meth, evT_callv, evT_bc, evT_bm, evT_isi, evT_comp, evT_not, evT_and, evT_or, evT_cmp, evT_cmp2, evO, evC, evI, evG, evGs, permW, calN_call, calN_cs, getS_0, getS_s, Ok_ofS, tru_bl, Option.map, Bool.not_true, Bool.not_false, isiW, isOne, tyName, List.contains_cons, List.contains_nil, bin_add, bin_sub, cmp_lt, cmp_le, cmp_gt, cmp_ge, cmp_isN, cmp_isnN, bc_int, bc_abs, bc_max, bc_min, tgsL, List.length_cons, List.length_nil, List.set_cons_zero, List.set_cons_succ, at_0, at_1, at_2, ix_tup, fld0 U3, fld0 V3, ix_dic eL, D.val, if_pos hk, set_dic eL2 (ln V3 D2)]
    rw [← eh]
    simp (disch := first | assumption | decide | omega | (simp only [List.length_cons, List.length_nil]; omega)) only [newL_c, newT_c, wipeS, if_true, bin_mulc, bin_fdivc, bin_mod, OkS_cons, OkS_nil, OkS_nx, OkS_rt, OkS_bk, OkS_ct, OkS_toS, Ok_bind, Ok_bindN, Ok_nx, Ok_ok, evS, evE, evEs, evT_cst, evT_var, evT_glo, evT_bin, evT_neg, evT_fld, evT_ix, evT_rev, evT_slc, evT_lst, evT_tup, evT_call, evT_make, evT_meth, evT_callv, evT_bc, evT_bm, evT_isi, evT_comp, evT_not, evT_and, evT_or, evT_cmp, evT_cmp2, evO, evC, evI, evG, evGs, permW, calN_call, calN_cs, getS_0, getS_s, Ok_ofS, tru_bl, Option.map, Bool.not_true, Bool.not_false, isiW, isOne, tyName, List.contains_cons, List.contains_nil, bin_add, bin_sub, cmp_lt, cmp_le, cmp_gt, cmp_ge, cmp_isN, cmp_isnN, bc_int, bc_abs, bc_max, bc_min, tgsL, List.length_cons, List.length_nil, List.set_cons_zero, List.set_cons_succ, at_0, at_1, at_2, ix_tup, f0, f1, ix_dic eT', D'.val, if_pos hk, set_dic eT2' (ln V3 D2')]
    have p1 := D2.put k (.int (m k))
    have p2 := D2'.put k (tm k)
    rw [if_neg (fun z => hnt ((di_keys D2 k).mp z))] at p1
    rw [if_neg (fun z => hnt ((di_keys D2' k).mp z))] at p2
    have n4 : h4.n = h3.n := by rw [eh]; rfl
    have Fz : Fr h (h4.put (h.n + 2) (.dic (putKW kvt2 (.inl k) (tm k)))) [] := by
      rw [eh]; exact (F3.putN (by omega)).putN (by omega)
    have ne1 : ∀ j, j ≠ h.n + 1 → j ≠ h.n + 2 → (h4.put (h.n + 2) (.dic (putKW kvt2 (.inl k) (tm k)))).get j = h3.get j := fun j a b => by rw [get_put_ne b, gg j a]
    have U4 : Un (h4.put (h.n + 2) (.dic (putKW kvt2 (.inl k) (tm k)))) u l t ks m tm :=
      ⟨by rw [ne1 u (by omega) (by omega)]; exact U3.hu, by show u < h4.n; rw [n4]; exact U3.lu, by show l < h4.n; rw [n4]; exact U3.ll, by show t < h4.n; rw [n4]; exact U3.lt, U3.ne, ⟨kvs, ls, by rw [ne1 l (by omega) (by omega)]; exact eL, D⟩, ⟨kvt, ts, by rw [ne1 t (by omega) (by omega)]; exact eT, D'⟩, U3.nd, U3.srt, U3.sm, U3.nn⟩
    have tk1 := tk ek
    refine ⟨⟨_, rfl⟩, Fz, by show h2.n ≤ h4.n; omega, by rw [ne1 r (by omega) (by omega)]; exact e3, U4, ⟨by rw [ne1 h.n (by omega) (by omega)]; exact V3.hu, by show h.n < h4.n; omega, by show h.n + 1 < h4.n; omega, by show h.n + 2 < h4.n; omega, by omega,
      ⟨_, _, by rw [get_put_ne (by omega), eh]; exact get_put_eq, p1.keys, p1.nd, fun j => ?_⟩, ⟨_, _, get_put_eq, p2.keys, p2.nd, fun j => ?_⟩, U.nd.sublist (List.take_sublist _ _), U.srt.sublist (List.take_sublist _ _), ?_, fun j hj => U.nn j (List.mem_of_mem_take hj)⟩⟩
    · rw [p1.val, tk1]
      by_cases z : j = k
      · subst z; simp
      · simp [z]
    · rw [p2.val, tk1]
      by_cases z : j = k
      · subst z; simp
      · simp [z]
    · have := List.length_take_le (i + 1) ks
      have := U.sm
      simp; omega
  · obtain ⟨⟨y, rfl⟩, F3, hn3, e3, U3, V3⟩ := iv
    simp (disch := first | assumption | decide | omega | (simp only [List.length_cons, List.length_nil]; omega)) only [newL_c, newT_c, wipeS, if_true, bin_mulc, bin_fdivc, bin_mod, OkS_cons, OkS_nil, OkS_nx, OkS_rt, OkS_bk, OkS_ct, OkS_toS, Ok_bind, Ok_bindN, Ok_nx, Ok_ok, evS, evE, evEs, evT_cst, evT_var, evT_glo, evT_bin, evT_neg, evT_fld, evT_ix, evT_rev, evT_slc, evT_lst, evT_tup, evT_call, evT_make, evT_meth, evT_callv, evT_bc, evT_bm, evT_isi, evT_comp, evT_not, evT_and, evT_or, evT_cmp, evT_cmp2, evO, evC, evI, evG, evGs, permW, calN_call, calN_cs, getS_0, getS_s, Ok_ofS, tru_bl, Option.map, Bool.not_true, Bool.not_false, isiW, isOne, tyName, List.contains_cons, List.contains_nil, bin_add, bin_sub, cmp_lt, cmp_le, cmp_gt, cmp_ge, cmp_isN, cmp_isnN, bc_int, bc_abs, bc_max, bc_min, tgsL, List.length_cons, List.length_nil, List.set_cons_zero, List.set_cons_succ, at_0, at_1, at_2, ix_tup]
    rw [List.length_map, List.take_length] at V3
    have le2 := F2.le
    exact q h3 F3 (by omega) V3
end
section
variable {d : Nat} {h : Hh} {Q : W → Hh → Prop}
theorem pot {r : Nat} {ns : List Int} (e : h.get r = some (.frz (ns.map .int))) (q : ∀ a b, PotB b → Q (.ref h.n) (h.push (.lst [.int a, .int b]))) : Ok (callN pr 0 (d + 1) 15 [.ref r, .int 0] h) Q := by
  rw [Ok_call ⟨2, 4, b15⟩ [some (.ref r), some (.int 0), none, none] rfl rfl rfl]
  unfold b15
  have hp : L2.CPow 10 18 := by decide
  have pb : ∀ c : Int, PotB ((c % 2147483549 * 41203 + 7103 * 0 + 617) % 2147483563 + 1) := fun c => by
    have h1 := Int.emod_nonneg (c % 2147483549 * 41203 + 7103 * 0 + 617) (b := 2147483563) (by decide)
    have h2 := Int.emod_lt_of_pos (c % 2147483549 * 41203 + 7103 * 0 + 617) (b := 2147483563) (by decide)
    exact ⟨by omega, by omega⟩
  by_cases c : (0 : Int) < (ns.map W.int).length
  · obtain ⟨x, rest, ex⟩ : ∃ x rest, ns = x :: rest := by
      cases ns with
      | nil => simp at c
      | cons x rest => exact ⟨x, rest, rfl⟩
    have eix : ixW (.ref r) (.int 0) h = some (.int x) := by
      simp only [ixW, seqAt, e, ex, List.map_cons, at_0]
    simp (disch := first | assumption | decide | omega | (simp only [List.length_cons, List.length_nil]; omega)) only [newL_c, newT_c, wipeS, if_true, bin_mulc, bin_fdivc, bin_mod, OkS_cons, OkS_nil, OkS_nx, OkS_rt, OkS_bk, OkS_ct, OkS_toS, Ok_bind, Ok_bindN, Ok_nx, Ok_ok, evS, evE, evEs, evT_cst, evT_var, evT_glo, evT_bin, evT_neg, evT_fld, evT_ix, evT_rev, evT_slc, evT_lst, evT_tup, evT_call, evT_make, evT_meth, evT_callv, evT_bc, evT_bm, evT_isi, evT_comp, evT_not, evT_and, evT_or, evT_cmp, evT_cmp2, evO, evC, evI, evG, evGs, permW, calN_call, calN_cs, getS_0, getS_s, Ok_ofS, tru_bl, Option.map, Bool.not_true, Bool.not_false, isiW, isOne, tyName, List.contains_cons, List.contains_nil, bin_add, bin_sub, cmp_lt, cmp_le, cmp_gt, cmp_ge, cmp_isN, cmp_isnN, bc_int, bc_abs, bc_max, bc_min, tgsL, List.length_cons, List.length_nil, List.set_cons_zero, List.set_cons_succ, at_0, at_1, at_2, ix_tup, bc_lenF e, decide_eq_true c, eix, bin_pow hp]
    exact q _ _ (pb _)
  · simp (disch := first | assumption | decide | omega | (simp only [List.length_cons, List.length_nil]; omega)) only [newL_c, newT_c, wipeS, if_true, bin_mulc, bin_fdivc, bin_mod, OkS_cons, OkS_nil, OkS_nx, OkS_rt, OkS_bk, OkS_ct, OkS_toS, Ok_bind, Ok_bindN, Ok_nx, Ok_ok, evS, evE, evEs, evT_cst, evT_var, evT_glo, evT_bin, evT_neg, evT_fld, evT_ix, evT_rev, evT_slc, evT_lst, evT_tup, evT_call, evT_make, evT_meth, evT_callv, evT_bc, evT_bm, evT_isi, evT_comp, evT_not, evT_and, evT_or, evT_cmp, evT_cmp2, evO, evC, evI, evG, evGs, permW, calN_call, calN_cs, getS_0, getS_s, Ok_ofS, tru_bl, Option.map, Bool.not_true, Bool.not_false, isiW, isOne, tyName, List.contains_cons, List.contains_nil, bin_add, bin_sub, cmp_lt, cmp_le, cmp_gt, cmp_ge, cmp_isN, cmp_isnN, bc_int, bc_abs, bc_max, bc_min, tgsL, List.length_cons, List.length_nil, List.set_cons_zero, List.set_cons_succ, at_0, at_1, at_2, ix_tup, bc_lenF e, decide_eq_false c, bin_pow hp]
    exact q _ _ (pb _)
theorem pick {p x : Nat} {a b : Int} {xs : List Int} (hp : h.get p = some (.lst [.int a, .int b])) (hx : h.get x = some (.lst (xs.map .int))) (ne : x ≠ p) (hb : PotB b) (h0 : 0 < xs.length) (h1 : xs.length < 1000)
    (q : ∀ v a' b', v ∈ xs → PotB b' → Q (.int v) (h.put p (.lst [.int a', .int b']))) : Ok (callN pr 0 (d + 2) 17 [.ref p, .ref x] h) Q := by
  rw [Ok_call ⟨2, 2, b17⟩ [some (.ref p), some (.ref x)] rfl rfl rfl]
  unfold b17
  simp (disch := first | assumption | decide | omega | (simp only [List.length_cons, List.length_nil]; omega)) only [newL_c, newT_c, wipeS, if_true, bin_mulc, bin_fdivc, bin_mod, OkS_cons, OkS_nil, OkS_nx, OkS_rt, OkS_bk, OkS_ct, OkS_toS, Ok_bind, Ok_bindN, Ok_nx, Ok_ok, evS, evE, evEs, evT_cst, evT_var, evT_glo, evT_bin, evT_neg, evT_fld, evT_ix, evT_rev, evT_slc, evT_lst, evT_tup, evT_call, evT_make, evT_meth, evT_callv, evT_bc, evT_bm, evT_isi, evT_comp, evT_not, evT_and, evT_or, evT_cmp, evT_cmp2, evO, evC, evI, evG, evGs, permW, calN_call, calN_cs, getS_0, getS_s, Ok_ofS, tru_bl, Option.map, Bool.not_true, Bool.not_false, isiW, isOne, tyName, List.contains_cons, List.contains_nil, bin_add, bin_sub, cmp_lt, cmp_le, cmp_gt, cmp_ge, cmp_isN, cmp_isnN, bc_int, bc_abs, bc_max, bc_min, tgsL, List.length_cons, List.length_nil, List.set_cons_zero, List.set_cons_succ, at_0, at_1, at_2, ix_tup, bc_len hx]
  refine draw hp hb (by simp; omega) (by simp; omega) fun r a' b' r0 r1 hb' => ?_
  have hx' : (h.put p (.lst [.int a', .int b'])).get x = some (.lst (xs.map .int)) := by rw [get_put_ne ne]; exact hx
  have lt : r.toNat < xs.length := by simp at r1; omega
  have e2 : L2.atI (xs.map W.int) r = some (.int xs[r.toNat]) := by
    unfold L2.atI L2.ixN
    rw [if_pos r0, if_pos r1]
    simp [lt]
  simp (disch := first | assumption | decide | omega | (simp only [List.length_cons, List.length_nil]; omega)) only [newL_c, newT_c, wipeS, if_true, bin_mulc, bin_fdivc, bin_mod, OkS_cons, OkS_nil, OkS_nx, OkS_rt, OkS_bk, OkS_ct, OkS_toS, Ok_bind, Ok_bindN, Ok_nx, Ok_ok, evS, evE, evEs, evT_cst, evT_var, evT_glo, evT_bin, evT_neg, evT_fld, evT_ix, evT_rev, evT_slc, evT_lst, evT_tup, evT_call, evT_make, evT_meth, evT_callv, evT_bc, evT_bm, evT_isi, evT_comp, evT_not, evT_and, evT_or, evT_cmp, evT_cmp2, evO, evC, evI, evG, evGs, permW, calN_call, calN_cs, getS_0, getS_s, Ok_ofS, tru_bl, Option.map, Bool.not_true, Bool.not_false, isiW, isOne, tyName, List.contains_cons, List.contains_nil, bin_add, bin_sub, cmp_lt, cmp_le, cmp_gt, cmp_ge, cmp_isN, cmp_isnN, bc_int, bc_abs, bc_max, bc_min, tgsL, List.length_cons, List.length_nil, List.set_cons_zero, List.set_cons_succ, at_0, at_1, at_2, ix_tup, ix_lst hx', e2]
  exact q _ _ _ (List.getElem_mem lt) hb'
/-! ### the law's own dict -/
def mx (x : Int) : Int := if x > 0 then x else 0
structure Ow (h : Hh) (o : Nat) (ks : List Int) (e : Int → Int) (qf : Int → Nat) : Prop where
  lo : o < h.n
  D : ∃ kvs os, h.get o = some (.dic kvs) ∧ DI kvs os (fun k => if k ∈ ks then some (.tup [.int (e k), .ref (qf k)]) else none)
theorem Ow.fr {h h' : Hh} {o : Nat} {ks : List Int} {e : Int → Int} {qf : Int → Nat} {S : List Nat} (O : Ow h o ks e qf) (F : Fr h h' S) (n : o ∉ S) : Ow h' o ks e qf := by
  obtain ⟨kvs, os, e1, D⟩ := O.D
  exact ⟨Nat.lt_of_lt_of_le O.lo F.le, kvs, os, F.get e1 O.lo n, D⟩
theorem fldH {u l t : Nat} {ks : List Int} {m : Int → Int} {tm : Int → W} (U : Un h u l t ks m tm) : fldW (calN pr 0 d) (.ref u) 4 h = callN pr 0 d 5 [.ref u] h := by
  simp only [fldW, U.hu]; rfl
theorem seen {u l t o : Nat} {ks : List Int} {m : Int → Int} {tm : Int → W} {e : Int → Int} {qf : Int → Nat} {c : Int} (U : Un h u l t ks m tm) (O : Ow h o ks e qf) (rel : ∀ k ∈ ks, m k = mx (e k - c)) (q : ∀ h', Fr h h' [] → Q (.bl true) h') :
    Ok (callN pr 0 (d + 5) 18 [.ref u, .ref o, .int c] h) Q := by
  rw [Ok_call ⟨3, 6, b18⟩ [some (.ref u), some (.ref o), some (.int c), none, none, none] rfl rfl rfl]
  unfold b18
  obtain ⟨kvs, os, eO, D⟩ := O.D
  have hl := di_len D U.nd
  have sm := U.sm
  simp (disch := first | assumption | decide | omega | (simp only [List.length_cons, List.length_nil]; omega)) only [newL_c, newT_c, wipeS, if_true, bin_mulc, bin_fdivc, bin_mod, OkS_cons, OkS_nil, OkS_nx, OkS_rt, OkS_bk, OkS_ct, OkS_toS, Ok_bind, Ok_bindN, Ok_nx, Ok_ok, evS, evE, evEs, evT_cst, evT_var, evT_glo, evT_bin, evT_neg, evT_fld, evT_ix, evT_rev, evT_slc, evT_lst, evT_tup, evT_call, evT_make, evT_meth, evT_callv, evT_bc, evT_bm, evT_isi, evT_comp, evT_not, evT_and, evT_or, evT_cmp, evT_cmp2, evO, evC, evI, evG, evGs, permW, calN_call, calN_cs, getS_0, getS_s, Ok_ofS, tru_bl, Option.map, Bool.not_true, Bool.not_false, isiW, isOne, tyName, List.contains_cons, List.contains_nil, bin_add, bin_sub, cmp_lt, cmp_le, cmp_gt, cmp_ge, cmp_isN, cmp_isnN, bc_int, bc_abs, bc_max, bc_min, tgsL, List.length_cons, List.length_nil, List.set_cons_zero, List.set_cons_succ, at_0, at_1, at_2, ix_tup, bc_sortD eO D.keysI (show os.length < 64 by omega)]
  rw [di_sort D U.nd U.srt]
  obtain ⟨h1, eh⟩ : ∃ h1, h1 = h.push (.lst (ks.map W.int)) := ⟨_, rfl⟩
  have F1 : Fr h h1 [] := eh ▸ Fr.push
  have g1 : h1.get h.n = some (.lst (ks.map W.int)) := by rw [eh]; exact get_push_eq
  have n1 : h1.n = h.n + 1 := by rw [eh]; rfl
  rw [← eh]
  have U1 := U.fr F1 (by simp) (by simp) (by simp)
  simp (disch := first | assumption | decide | omega | (simp only [List.length_cons, List.length_nil]; omega)) only [newL_c, newT_c, wipeS, if_true, bin_mulc, bin_fdivc, bin_mod, OkS_cons, OkS_nil, OkS_nx, OkS_rt, OkS_bk, OkS_ct, OkS_toS, Ok_bind, Ok_bindN, Ok_nx, Ok_ok, evS, evE, evEs, evT_cst, evT_var, evT_glo, evT_bin, evT_neg, evT_fld, evT_ix, evT_rev, evT_slc, evT_lst, evT_tup, evT_call, evT_make, evT_meth, evT_callv, evT_bc, evT_bm, evT_isi, evT_comp, evT_not, evT_and, evT_or, evT_cmp, evT_cmp2, evO, evC, evI, evG, evGs, permW, calN_call, calN_cs, getS_0, getS_s, Ok_ofS, tru_bl, Option.map, Bool.not_true, Bool.not_false, isiW, isOne, tyName, List.contains_cons, List.contains_nil, bin_add, bin_sub, cmp_lt, cmp_le, cmp_gt, cmp_ge, cmp_isN, cmp_isnN, bc_int, bc_abs, bc_max, bc_min, tgsL, List.length_cons, List.length_nil, List.set_cons_zero, List.set_cons_succ, at_0, at_1, at_2, ix_tup, mt2 U1]
  refine numbers U1 fun r h2 F2 hr hr' e2 => ?_
  have U2 := U1.fr F2 (by simp) (by simp) (by simp)
  have g2 := F2.get g1 (by omega) (by simp)
  simp (disch := first | assumption | decide | omega | (simp only [List.length_cons, List.length_nil]; omega)) only [newL_c, newT_c, wipeS, if_true, bin_mulc, bin_fdivc, bin_mod, OkS_cons, OkS_nil, OkS_nx, OkS_rt, OkS_bk, OkS_ct, OkS_toS, Ok_bind, Ok_bindN, Ok_nx, Ok_ok, evS, evE, evEs, evT_cst, evT_var, evT_glo, evT_bin, evT_neg, evT_fld, evT_ix, evT_rev, evT_slc, evT_lst, evT_tup, evT_call, evT_make, evT_meth, evT_callv, evT_bc, evT_bm, evT_isi, evT_comp, evT_not, evT_and, evT_or, evT_cmp, evT_cmp2, evO, evC, evI, evG, evGs, permW, calN_call, calN_cs, getS_0, getS_s, Ok_ofS, tru_bl, Option.map, Bool.not_true, Bool.not_false, isiW, isOne, tyName, List.contains_cons, List.contains_nil, bin_add, bin_sub, cmp_lt, cmp_le, cmp_gt, cmp_ge, cmp_isN, cmp_isnN, bc_int, bc_abs, bc_max, bc_min, tgsL, List.length_cons, List.length_nil, List.set_cons_zero, List.set_cons_succ, at_0, at_1, at_2, ix_tup, cmp_ne NE, eqD_ints e2 g2, fldH U2]
  refine held U2 ?_
  have hln : ((ks.map W.int).length : Int) = (ks.length : Int) := by simp
  simp (disch := first | assumption | decide | omega | (simp only [List.length_cons, List.length_nil]; omega)) only [newL_c, newT_c, wipeS, if_true, bin_mulc, bin_fdivc, bin_mod, OkS_cons, OkS_nil, OkS_nx, OkS_rt, OkS_bk, OkS_ct, OkS_toS, Ok_bind, Ok_bindN, Ok_nx, Ok_ok, evS, evE, evEs, evT_cst, evT_var, evT_glo, evT_bin, evT_neg, evT_fld, evT_ix, evT_rev, evT_slc, evT_lst, evT_tup, evT_call, evT_make, evT_meth, evT_callv, evT_bc, evT_bm, evT_isi, evT_comp, evT_not, evT_and, evT_or, evT_cmp, evT_cmp2, evO, evC, evI, evG, evGs, permW, calN_call, calN_cs, getS_0, getS_s, Ok_ofS, tru_bl, Option.map, Bool.not_true, Bool.not_false, isiW, isOne, tyName, List.contains_cons, List.contains_nil, bin_add, bin_sub, cmp_lt, cmp_le, cmp_gt, cmp_ge, cmp_isN, cmp_isnN, bc_int, bc_abs, bc_max, bc_min, tgsL, List.length_cons, List.length_nil, List.set_cons_zero, List.set_cons_succ, at_0, at_1, at_2, ix_tup, bc_len g2, hln, eqD_int, beq_self_eq_true]
  have hz : (ks.map W.int).length ≤ sizeLine := by rw [List.length_map, sizeLine_eq]; omega
  have l2 : h.n < h2.n := by have := F2.le; omega
  simp (disch := first | assumption | decide | omega | (simp only [List.length_cons, List.length_nil]; omega)) only [newL_c, newT_c, wipeS, if_true, bin_mulc, bin_fdivc, bin_mod, OkS_cons, OkS_nil, OkS_nx, OkS_rt, OkS_bk, OkS_ct, OkS_toS, Ok_bind, Ok_bindN, Ok_nx, Ok_ok, evS, evE, evEs, evT_cst, evT_var, evT_glo, evT_bin, evT_neg, evT_fld, evT_ix, evT_rev, evT_slc, evT_lst, evT_tup, evT_call, evT_make, evT_meth, evT_callv, evT_bc, evT_bm, evT_isi, evT_comp, evT_not, evT_and, evT_or, evT_cmp, evT_cmp2, evO, evC, evI, evG, evGs, permW, calN_call, calN_cs, getS_0, getS_s, Ok_ofS, tru_bl, Option.map, Bool.not_true, Bool.not_false, isiW, isOne, tyName, List.contains_cons, List.contains_nil, bin_add, bin_sub, cmp_lt, cmp_le, cmp_gt, cmp_ge, cmp_isN, cmp_isnN, bc_int, bc_abs, bc_max, bc_min, tgsL, List.length_cons, List.length_nil, List.set_cons_zero, List.set_cons_succ, at_0, at_1, at_2, ix_tup, seq_lst g2]
  refine comp_pure (fmM fun k => .int (mx (e k - c))) g2 l2 hz (fun w hw h' F => ?_) fun h3 F3 n3 e3 => ?_
  · obtain ⟨k, hk, rfl⟩ := List.mem_map.mp hw
    have O' := (O.fr F1 (by simp)).fr F2 (by simp) |>.fr F (by simp)
    have eO' := ((F1.trans F2).trans F).get eO O.lo (by simp)
    simp (disch := first | assumption | decide | omega | (simp only [List.length_cons, List.length_nil]; omega)) only [newL_c, newT_c, wipeS, if_true, bin_mulc, bin_fdivc, bin_mod, OkS_cons, OkS_nil, OkS_nx, OkS_rt, OkS_bk, OkS_ct, OkS_toS, Ok_bind, Ok_bindN, Ok_nx, Ok_ok, evS, evE, evEs, evT_cst, evT_var, evT_glo, evT_bin, evT_neg, evT_fld, evT_ix, evT_rev, evT_slc, evT_lst, evT_tup, evT_call, evT_make, evT_meth, evT_callv, evT_bc, evT_bm, evT_isi, evT_comp, evT_not, evT_and, evT_or, evT_cmp, evT_cmp2, evO, evC, evI, evG, evGs, permW, calN_call, calN_cs, getS_0, getS_s, Ok_ofS, tru_bl, Option.map, Bool.not_true, Bool.not_false, isiW, isOne, tyName, List.contains_cons, List.contains_nil, bin_add, bin_sub, cmp_lt, cmp_le, cmp_gt, cmp_ge, cmp_isN, cmp_isnN, bc_int, bc_abs, bc_max, bc_min, tgsL, List.length_cons, List.length_nil, List.set_cons_zero, List.set_cons_succ, at_0, at_1, at_2, ix_tup, ix_dic eO', D.val, if_pos hk]
    exact ⟨trivial, trivial, trivial, rfl⟩
  · rw [fm_map] at e3
    have g3 := F3.get g2 l2 (by simp)
    have U3 := U2.fr F3 (by simp) (by simp) (by simp)
    have l3 : h.n < h3.n := by omega
    simp (disch := first | assumption | decide | omega | (simp only [List.length_cons, List.length_nil]; omega)) only [newL_c, newT_c, wipeS, if_true, bin_mulc, bin_fdivc, bin_mod, OkS_cons, OkS_nil, OkS_nx, OkS_rt, OkS_bk, OkS_ct, OkS_toS, Ok_bind, Ok_bindN, Ok_nx, Ok_ok, evS, evE, evEs, evT_cst, evT_var, evT_glo, evT_bin, evT_neg, evT_fld, evT_ix, evT_rev, evT_slc, evT_lst, evT_tup, evT_call, evT_make, evT_meth, evT_callv, evT_bc, evT_bm, evT_isi, evT_comp, evT_not, evT_and, evT_or, evT_cmp, evT_cmp2, evO, evC, evI, evG, evGs, permW, calN_call, calN_cs, getS_0, getS_s, Ok_ofS, tru_bl, Option.map, Bool.not_true, Bool.not_false, isiW, isOne, tyName, List.contains_cons, List.contains_nil, bin_add, bin_sub, cmp_lt, cmp_le, cmp_gt, cmp_ge, cmp_isN, cmp_isnN, bc_int, bc_abs, bc_max, bc_min, tgsL, List.length_cons, List.length_nil, List.set_cons_zero, List.set_cons_succ, at_0, at_1, at_2, ix_tup, seq_lst g3]
    refine comp_pure (fmM fun k => .int (m k)) g3 l3 hz (fun w hw h' F => ?_) fun h4 F4 n4 e4 => ?_
    · obtain ⟨k, hk, rfl⟩ := List.mem_map.mp hw
      have U' := U3.fr F (by simp) (by simp) (by simp)
      simp (disch := first | assumption | decide | omega | (simp only [List.length_cons, List.length_nil]; omega)) only [newL_c, newT_c, wipeS, if_true, bin_mulc, bin_fdivc, bin_mod, OkS_cons, OkS_nil, OkS_nx, OkS_rt, OkS_bk, OkS_ct, OkS_toS, Ok_bind, Ok_bindN, Ok_nx, Ok_ok, evS, evE, evEs, evT_cst, evT_var, evT_glo, evT_bin, evT_neg, evT_fld, evT_ix, evT_rev, evT_slc, evT_lst, evT_tup, evT_call, evT_make, evT_meth, evT_callv, evT_bc, evT_bm, evT_isi, evT_comp, evT_not, evT_and, evT_or, evT_cmp, evT_cmp2, evO, evC, evI, evG, evGs, permW, calN_call, calN_cs, getS_0, getS_s, Ok_ofS, tru_bl, Option.map, Bool.not_true, Bool.not_false, isiW, isOne, tyName, List.contains_cons, List.contains_nil, bin_add, bin_sub, cmp_lt, cmp_le, cmp_gt, cmp_ge, cmp_isN, cmp_isnN, bc_int, bc_abs, bc_max, bc_min, tgsL, List.length_cons, List.length_nil, List.set_cons_zero, List.set_cons_succ, at_0, at_1, at_2, ix_tup, mt5 U']
      refine ⟨trivial, trivial, ?_⟩
      refine cycles_left U' hk ?_
      exact ⟨rfl, rfl⟩
    · rw [fm_map] at e4
      have e3' := F4.get e3 (by omega) (by simp)
      have mm : ks.map (fun k => W.int (m k)) = (ks.map fun k => mx (e k - c)).map W.int := by
        rw [List.map_map]
        exact List.map_congr_left fun k hk => by simp [rel k hk]
      have mm2 : ks.map (fun k => W.int (mx (e k - c))) = (ks.map fun k => mx (e k - c)).map W.int := by
        rw [List.map_map]; rfl
      rw [mm] at e4
      rw [mm2] at e3'
      simp (disch := first | assumption | decide | omega | (simp only [List.length_cons, List.length_nil]; omega)) only [newL_c, newT_c, wipeS, if_true, bin_mulc, bin_fdivc, bin_mod, OkS_cons, OkS_nil, OkS_nx, OkS_rt, OkS_bk, OkS_ct, OkS_toS, Ok_bind, Ok_bindN, Ok_nx, Ok_ok, evS, evE, evEs, evT_cst, evT_var, evT_glo, evT_bin, evT_neg, evT_fld, evT_ix, evT_rev, evT_slc, evT_lst, evT_tup, evT_call, evT_make, evT_meth, evT_callv, evT_bc, evT_bm, evT_isi, evT_comp, evT_not, evT_and, evT_or, evT_cmp, evT_cmp2, evO, evC, evI, evG, evGs, permW, calN_call, calN_cs, getS_0, getS_s, Ok_ofS, tru_bl, Option.map, Bool.not_true, Bool.not_false, isiW, isOne, tyName, List.contains_cons, List.contains_nil, bin_add, bin_sub, cmp_lt, cmp_le, cmp_gt, cmp_ge, cmp_isN, cmp_isnN, bc_int, bc_abs, bc_max, bc_min, tgsL, List.length_cons, List.length_nil, List.set_cons_zero, List.set_cons_succ, at_0, at_1, at_2, ix_tup, cmp_eq NE, eqD_ints e4 e3']
      exact q _ (((F1.trans F2).trans F3).trans F4)
/-! ### what is told: the same list, twice -/
def Ct (h : Hh) (p : Nat) (ks : List Int) (tm : Int → W) (qf : Int → Nat) (ct : Int → Int) : Prop := ∀ k ∈ ks, (qf k < h.n ∧ qf k ≠ p ∧ h.get (qf k) = some (.lst [.int (ct k), .int k])) ∧ ∃ q2, tm k = .ref q2 ∧ q2 < h.n ∧ q2 ≠ p ∧ h.get q2 = some (.lst [.int (ct k), .int k])
theorem Ct.fr {h h' : Hh} {p : Nat} {ks ks' : List Int} {tm : Int → W} {qf : Int → Nat} {ct : Int → Int} {S : List Nat} (c : Ct h p ks tm qf ct) (F : Fr h h' S) (n : ∀ j ∈ S, j = p ∨ ∀ ws, h.get j ≠ some (.lst ws)) (sub : ∀ k ∈ ks', k ∈ ks) : Ct h' p ks' tm qf ct := by
  intro k hk
  obtain ⟨⟨a1, a2, a3⟩, q2, b0, b1, b2, b3⟩ := c k (sub k hk)
  have le := F.le
  have ne : ∀ j, j ≠ p → h.get j = some (.lst [.int (ct k), .int k]) → j ∉ S := fun j x y z => by
    rcases n j z with w | w
    · exact x w
    · exact w _ y
  exact ⟨⟨by omega, a2, F.get a3 a1 (ne _ a2 a3)⟩, q2, b0, by omega, b2, F.get b3 b1 (ne _ b2 b3)⟩
theorem mx0 {x : Int} : (mx x == 0) = decide (x ≤ 0) := by
  unfold mx
  split
  · rename_i c
    rw [decide_eq_false (by omega), beq_eq_false_iff_ne]; omega
  · rename_i c
    rw [decide_eq_true (by omega)]; rfl
theorem finished_right {u l t o p : Nat} {ks : List Int} {m : Int → Int} {tm : Int → W} {e : Int → Int} {qf : Int → Nat} {ct : Int → Int} {c : Int} (U : Un h u l t ks m tm) (O : Ow h o ks e qf) (rel : ∀ k ∈ ks, m k = mx (e k - c)) (C : Ct h p ks tm qf ct) (n1 : o ≠ u) (hu : u ≠ p)
    (q : ∀ h' l' t' f, Fr h h' [u, o] → (l' = l ∨ h.n ≤ l') → (t' = t ∨ h.n ≤ t') → Un h' u l' t' (ks.filter f) m tm → Ow h' o (ks.filter f) e qf → Q (.bl true) h') : Ok (callN pr 0 (d + 4) 19 [.ref u, .ref o, .int c] h) Q := by
  rw [Ok_call ⟨3, 5, b19⟩ [some (.ref u), some (.ref o), some (.int c), none, none] rfl rfl rfl]
  unfold b19
  obtain ⟨kvs, os, eO, D⟩ := O.D
  have hl := di_len D U.nd
  have sm := U.sm
  have lo := O.lo
  simp (disch := first | assumption | decide | omega | (simp only [List.length_cons, List.length_nil]; omega)) only [newL_c, newT_c, wipeS, if_true, bin_mulc, bin_fdivc, bin_mod, OkS_cons, OkS_nil, OkS_nx, OkS_rt, OkS_bk, OkS_ct, OkS_toS, Ok_bind, Ok_bindN, Ok_nx, Ok_ok, evS, evE, evEs, evT_cst, evT_var, evT_glo, evT_bin, evT_neg, evT_fld, evT_ix, evT_rev, evT_slc, evT_lst, evT_tup, evT_call, evT_make, evT_meth, evT_callv, evT_bc, evT_bm, evT_isi, evT_comp, evT_not, evT_and, evT_or, evT_cmp, evT_cmp2, evO, evC, evI, evG, evGs, permW, calN_call, calN_cs, getS_0, getS_s, Ok_ofS, tru_bl, Option.map, Bool.not_true, Bool.not_false, isiW, isOne, tyName, List.contains_cons, List.contains_nil, bin_add, bin_sub, cmp_lt, cmp_le, cmp_gt, cmp_ge, cmp_isN, cmp_isnN, bc_int, bc_abs, bc_max, bc_min, tgsL, List.length_cons, List.length_nil, List.set_cons_zero, List.set_cons_succ, at_0, at_1, at_2, ix_tup, bc_sortD eO D.keysI (show os.length < 64 by omega)]
  rw [di_sort D U.nd U.srt]
  obtain ⟨h1, eh⟩ : ∃ h1, h1 = h.push (.lst (ks.map W.int)) := ⟨_, rfl⟩
  have F1 : Fr h h1 [] := eh ▸ Fr.push
  have g1 : h1.get h.n = some (.lst (ks.map W.int)) := by rw [eh]; exact get_push_eq
  have nn1 : h1.n = h.n + 1 := by rw [eh]; rfl
  rw [← eh]
  have hz : (ks.map W.int).length ≤ sizeLine := by rw [List.length_map, sizeLine_eq]; omega
  simp (disch := first | assumption | decide | omega | (simp only [List.length_cons, List.length_nil]; omega)) only [newL_c, newT_c, wipeS, if_true, bin_mulc, bin_fdivc, bin_mod, OkS_cons, OkS_nil, OkS_nx, OkS_rt, OkS_bk, OkS_ct, OkS_toS, Ok_bind, Ok_bindN, Ok_nx, Ok_ok, evS, evE, evEs, evT_cst, evT_var, evT_glo, evT_bin, evT_neg, evT_fld, evT_ix, evT_rev, evT_slc, evT_lst, evT_tup, evT_call, evT_make, evT_meth, evT_callv, evT_bc, evT_bm, evT_isi, evT_comp, evT_not, evT_and, evT_or, evT_cmp, evT_cmp2, evO, evC, evI, evG, evGs, permW, calN_call, calN_cs, getS_0, getS_s, Ok_ofS, tru_bl, Option.map, Bool.not_true, Bool.not_false, isiW, isOne, tyName, List.contains_cons, List.contains_nil, bin_add, bin_sub, cmp_lt, cmp_le, cmp_gt, cmp_ge, cmp_isN, cmp_isnN, bc_int, bc_abs, bc_max, bc_min, tgsL, List.length_cons, List.length_nil, List.set_cons_zero, List.set_cons_succ, at_0, at_1, at_2, ix_tup, seq_lst g1]
  refine comp_pure (fmI fun k => decide (e k ≤ c)) g1 (by omega) hz (fun w hw h' F => ?_) fun h2 F2 n2 e2 => ?_
  · obtain ⟨k, hk, rfl⟩ := List.mem_map.mp hw
    have eO' := (F1.trans F).get eO lo (by simp)
    simp (disch := first | assumption | decide | omega | (simp only [List.length_cons, List.length_nil]; omega)) only [newL_c, newT_c, wipeS, if_true, bin_mulc, bin_fdivc, bin_mod, OkS_cons, OkS_nil, OkS_nx, OkS_rt, OkS_bk, OkS_ct, OkS_toS, Ok_bind, Ok_bindN, Ok_nx, Ok_ok, evS, evE, evEs, evT_cst, evT_var, evT_glo, evT_bin, evT_neg, evT_fld, evT_ix, evT_rev, evT_slc, evT_lst, evT_tup, evT_call, evT_make, evT_meth, evT_callv, evT_bc, evT_bm, evT_isi, evT_comp, evT_not, evT_and, evT_or, evT_cmp, evT_cmp2, evO, evC, evI, evG, evGs, permW, calN_call, calN_cs, getS_0, getS_s, Ok_ofS, tru_bl, Option.map, Bool.not_true, Bool.not_false, isiW, isOne, tyName, List.contains_cons, List.contains_nil, bin_add, bin_sub, cmp_lt, cmp_le, cmp_gt, cmp_ge, cmp_isN, cmp_isnN, bc_int, bc_abs, bc_max, bc_min, tgsL, List.length_cons, List.length_nil, List.set_cons_zero, List.set_cons_succ, at_0, at_1, at_2, ix_tup, ix_dic eO', D.val, if_pos hk]
    refine ⟨trivial, trivial, ?_⟩
    by_cases z : decide (e k ≤ c) = true
    · rw [if_pos z]; exact ⟨trivial, by simp only [fmI, if_pos z]⟩
    · rw [if_neg z]; simp only [fmI, if_neg z]
  · rw [fm_int] at e2
    have ee : ks.filter (fun k => decide (e k ≤ c)) = ends ks m := by
      unfold ends
      refine List.filter_congr fun k hk => ?_
      rw [rel k hk, mx0]
      by_cases z : e k ≤ c
      · rw [decide_eq_true z, decide_eq_true (by omega)]
      · rw [decide_eq_false z, decide_eq_false (by omega)]
    rw [ee] at e2
    have lt : h1.n < h2.n := by omega
    have F3 : Fr h (h2.push (.lst [])) [] := (F1.trans F2).trans Fr.push
    have U3 := U.fr F3 (by simp) (by simp) (by simp)
    have O3 := O.fr F3 (by simp)
    have e3 : (h2.push (.lst [])).get h1.n = some (.lst ((ends ks m).map .int)) := by rw [get_push_lt lt]; exact e2
    have le3 := F3.le
    cases en : ends ks m with
    | nil =>
      rw [en] at e3
      simp (disch := first | assumption | decide | omega | (simp only [List.length_cons, List.length_nil]; omega)) only [newL_c, newT_c, wipeS, if_true, bin_mulc, bin_fdivc, bin_mod, OkS_cons, OkS_nil, OkS_nx, OkS_rt, OkS_bk, OkS_ct, OkS_toS, Ok_bind, Ok_bindN, Ok_nx, Ok_ok, evS, evE, evEs, evT_cst, evT_var, evT_glo, evT_bin, evT_neg, evT_fld, evT_ix, evT_rev, evT_slc, evT_lst, evT_tup, evT_call, evT_make, evT_meth, evT_callv, evT_bc, evT_bm, evT_isi, evT_comp, evT_not, evT_and, evT_or, evT_cmp, evT_cmp2, evO, evC, evI, evG, evGs, permW, calN_call, calN_cs, getS_0, getS_s, Ok_ofS, tru_bl, Option.map, Bool.not_true, Bool.not_false, isiW, isOne, tyName, List.contains_cons, List.contains_nil, bin_add, bin_sub, cmp_lt, cmp_le, cmp_gt, cmp_ge, cmp_isN, cmp_isnN, bc_int, bc_abs, bc_max, bc_min, tgsL, List.length_cons, List.length_nil, List.set_cons_zero, List.set_cons_succ, at_0, at_1, at_2, ix_tup, cmp_eq NE, eqD_nil e3 get_push_eq, List.isEmpty_nil, mt6 U3]
      refine finished0 U3 en fun h' F => ?_
      simp (disch := first | assumption | decide | omega | (simp only [List.length_cons, List.length_nil]; omega)) only [newL_c, newT_c, wipeS, if_true, bin_mulc, bin_fdivc, bin_mod, OkS_cons, OkS_nil, OkS_nx, OkS_rt, OkS_bk, OkS_ct, OkS_toS, Ok_bind, Ok_bindN, Ok_nx, Ok_ok, evS, evE, evEs, evT_cst, evT_var, evT_glo, evT_bin, evT_neg, evT_fld, evT_ix, evT_rev, evT_slc, evT_lst, evT_tup, evT_call, evT_make, evT_meth, evT_callv, evT_bc, evT_bm, evT_isi, evT_comp, evT_not, evT_and, evT_or, evT_cmp, evT_cmp2, evO, evC, evI, evG, evGs, permW, calN_call, calN_cs, getS_0, getS_s, Ok_ofS, tru_bl, Option.map, Bool.not_true, Bool.not_false, isiW, isOne, tyName, List.contains_cons, List.contains_nil, bin_add, bin_sub, cmp_lt, cmp_le, cmp_gt, cmp_ge, cmp_isN, cmp_isnN, bc_int, bc_abs, bc_max, bc_min, tgsL, List.length_cons, List.length_nil, List.set_cons_zero, List.set_cons_succ, at_0, at_1, at_2, ix_tup, isNonW]
      have F4 := F3.trans F
      exact q h' l t (fun _ => true) (F4.mono (by simp)) (.inl rfl) (.inl rfl) (by rw [List.filter_eq_self.mpr (by simp)]; exact U.fr F4 (by simp) (by simp) (by simp)) (by rw [List.filter_eq_self.mpr (by simp)]; exact O.fr F4 (by simp))
    | cons k0 rest =>
      rw [en] at e3
      have e4 : (h2.push (.lst [])).get h1.n = some (.lst (.int k0 :: rest.map .int)) := e3
      have hk0 : k0 ∈ ks := (List.mem_filter.mp (en ▸ List.mem_cons_self : k0 ∈ ends ks m)).1
      simp (disch := first | assumption | decide | omega | (simp only [List.length_cons, List.length_nil]; omega)) only [newL_c, newT_c, wipeS, if_true, bin_mulc, bin_fdivc, bin_mod, OkS_cons, OkS_nil, OkS_nx, OkS_rt, OkS_bk, OkS_ct, OkS_toS, Ok_bind, Ok_bindN, Ok_nx, Ok_ok, evS, evE, evEs, evT_cst, evT_var, evT_glo, evT_bin, evT_neg, evT_fld, evT_ix, evT_rev, evT_slc, evT_lst, evT_tup, evT_call, evT_make, evT_meth, evT_callv, evT_bc, evT_bm, evT_isi, evT_comp, evT_not, evT_and, evT_or, evT_cmp, evT_cmp2, evO, evC, evI, evG, evGs, permW, calN_call, calN_cs, getS_0, getS_s, Ok_ofS, tru_bl, Option.map, Bool.not_true, Bool.not_false, isiW, isOne, tyName, List.contains_cons, List.contains_nil, bin_add, bin_sub, cmp_lt, cmp_le, cmp_gt, cmp_ge, cmp_isN, cmp_isnN, bc_int, bc_abs, bc_max, bc_min, tgsL, List.length_cons, List.length_nil, List.set_cons_zero, List.set_cons_succ, at_0, at_1, at_2, ix_tup, cmp_eq NE, eqD_nil e3 get_push_eq, List.isEmpty_cons, mt6 U3]
      refine finished1 U3 en fun h' l' t' F hl' ht' U' => ?_
      have O' := O3.fr F (by simpa using n1)
      obtain ⟨kvs', os', eO', D'⟩ := O'.D
      have e5 := F.get e4 (by show h1.n < h2.n + 1; omega) (by have := U.lu; simp; omega)
      have hv : valK kvs' (.inl k0) = some (.tup [.int (e k0), .ref (qf k0)]) := by rw [D'.val, if_pos hk0]
      simp (disch := first | assumption | decide | omega | (simp only [List.length_cons, List.length_nil]; omega)) only [newL_c, newT_c, wipeS, if_true, bin_mulc, bin_fdivc, bin_mod, OkS_cons, OkS_nil, OkS_nx, OkS_rt, OkS_bk, OkS_ct, OkS_toS, Ok_bind, Ok_bindN, Ok_nx, Ok_ok, evS, evE, evEs, evT_cst, evT_var, evT_glo, evT_bin, evT_neg, evT_fld, evT_ix, evT_rev, evT_slc, evT_lst, evT_tup, evT_call, evT_make, evT_meth, evT_callv, evT_bc, evT_bm, evT_isi, evT_comp, evT_not, evT_and, evT_or, evT_cmp, evT_cmp2, evO, evC, evI, evG, evGs, permW, calN_call, calN_cs, getS_0, getS_s, Ok_ofS, tru_bl, Option.map, Bool.not_true, Bool.not_false, isiW, isOne, tyName, List.contains_cons, List.contains_nil, bin_add, bin_sub, cmp_lt, cmp_le, cmp_gt, cmp_ge, cmp_isN, cmp_isnN, bc_int, bc_abs, bc_max, bc_min, tgsL, List.length_cons, List.length_nil, List.set_cons_zero, List.set_cons_succ, at_0, at_1, at_2, ix_tup, ix_lst e5, kind_d eO', Bool.false_or, eq_self, decide_true, bm_popD eO' hv]
      have ne : ∀ j, h.get j = some (.lst [.int (ct k0), .int k0]) → j ≠ u ∧ j ≠ o := fun j z => ⟨fun w => (by have := U.hu; rw [← w, z] at this; cases this), fun w => (by rw [w, eO] at z; cases z)⟩
      obtain ⟨⟨a1, a2, a3⟩, q2, b0, b1, b2, b3⟩ := C k0 hk0
      have F5 : Fr h (h'.put o (.dic (dropKW kvs' (.inl k0)))) [u, o] := ((F3.mono (by simp)).trans (F.mono (by simp))).trans (Fr.put (by simp))
      have g3 := F5.get a3 a1 (by have := ne _ a3; simp [this.1, this.2])
      have g4 := F5.get b3 b1 (by have := ne _ b3; simp [this.1, this.2])
      have E : eqData (.tup [.int k0, tm k0]) (.tup [.int k0, .ref (qf k0)]) (h'.put o (.dic (dropKW kvs' (.inl k0)))) = some true := by
        rw [b0]; exact eqD_pair (ns := [ct k0, k0]) g4 g3
      simp (disch := first | assumption | decide | omega | (simp only [List.length_cons, List.length_nil]; omega)) only [newL_c, newT_c, wipeS, if_true, bin_mulc, bin_fdivc, bin_mod, OkS_cons, OkS_nil, OkS_nx, OkS_rt, OkS_bk, OkS_ct, OkS_toS, Ok_bind, Ok_bindN, Ok_nx, Ok_ok, evS, evE, evEs, evT_cst, evT_var, evT_glo, evT_bin, evT_neg, evT_fld, evT_ix, evT_rev, evT_slc, evT_lst, evT_tup, evT_call, evT_make, evT_meth, evT_callv, evT_bc, evT_bm, evT_isi, evT_comp, evT_not, evT_and, evT_or, evT_cmp, evT_cmp2, evO, evC, evI, evG, evGs, permW, calN_call, calN_cs, getS_0, getS_s, Ok_ofS, tru_bl, Option.map, Bool.not_true, Bool.not_false, isiW, isOne, tyName, List.contains_cons, List.contains_nil, bin_add, bin_sub, cmp_lt, cmp_le, cmp_gt, cmp_ge, cmp_isN, cmp_isnN, bc_int, bc_abs, bc_max, bc_min, tgsL, List.length_cons, List.length_nil, List.set_cons_zero, List.set_cons_succ, at_0, at_1, at_2, ix_tup, E]
      have n2' : o ≠ l' := by have : h.n ≤ (h2.push (.lst [])).n := le3; omega
      have n3' : o ≠ t' := by have : h.n ≤ (h2.push (.lst [])).n := le3; omega
      have Dd := D'.drop k0
      refine q _ l' t' (fun j => decide (j ≠ k0)) F5 (.inr (by omega)) (.inr (by omega)) (U'.fr (Fr.put (S := [o]) (by simp)) (by simpa using n1.symm) (by simpa using n2'.symm) (by simpa using n3'.symm)) ⟨by show o < h'.n; exact O'.lo, _, _, get_put_eq, Dd.keys, Dd.nd, fun j => ?_⟩
      rw [Dd.val]
      by_cases z : j = k0
      · simp [z]
      · simp [z]
/-! ### the run -/
/-- what was laid aside -/
def As (h : Hh) (S : List Nat) (A : W) : Prop := A = .non ∨ ∃ u2 l2 t2 o2 ks2 m2 tm2 e2 qf2 c2, A = .tup [.ref u2, .ref o2, .int c2] ∧ Un h u2 l2 t2 ks2 m2 tm2 ∧ Ow h o2 ks2 e2 qf2 ∧ (∀ k ∈ ks2, m2 k = mx (e2 k - c2)) ∧ u2 ∉ S ∧ l2 ∉ S ∧ t2 ∉ S ∧ o2 ∉ S
theorem As.fr {h h' : Hh} {S S' S2 : List Nat} {A : W} (a : As h S A) (F : Fr h h' S') (sub : ∀ j ∈ S', j ∈ S) (new : ∀ j ∈ S2, j ∈ S ∨ h.n ≤ j) : As h' S2 A := by
  rcases a with a | ⟨u2, l2, t2, o2, ks2, m2, tm2, e2, qf2, c2, a, U, O, rel, n1, n2, n3, n4⟩
  · exact .inl a
  · refine .inr ⟨u2, l2, t2, o2, ks2, m2, tm2, e2, qf2, c2, a, U.fr F (fun z => n1 (sub _ z)) (fun z => n2 (sub _ z)) (fun z => n3 (sub _ z)), O.fr F (fun z => n4 (sub _ z)), rel, fun z => ?_, fun z => ?_, fun z => ?_, fun z => ?_⟩
    · rcases new _ z with w | w
      · exact n1 w
      · have := U.lu; omega
    · rcases new _ z with w | w
      · exact n2 w
      · have := U.ll; omega
    · rcases new _ z with w | w
      · exact n3 w
      · have := U.lt; omega
    · rcases new _ z with w | w
      · exact n4 w
      · have := O.lo; omega
structure St (h : Hh) (p u o l t : Nat) (ks : List Int) (m : Int → Int) (tm : Int → W) (e : Int → Int) (qf : Int → Nat) (ct : Int → Int) (c : Int) (A : W) (i : Nat) : Prop where
  P : ∃ a b, h.get p = some (.lst [.int a, .int b]) ∧ PotB b
  lp : p < h.n
  U : Un h u l t ks m tm
  O : Ow h o ks e qf
  rel : ∀ k ∈ ks, m k = mx (e k - c)
  bnd : ∀ k ∈ ks, e k ≤ c + 6
  C : Ct h p ks tm qf ct
  ol : o ≠ l
  ot : o ≠ t
  len : ks.length ≤ i
  A : As h [p, u, o, l, t] A
section
variable {p u o l t i : Nat} {ks : List Int} {m : Int → Int} {tm : Int → W} {e : Int → Int} {qf : Int → Nat} {ct : Int → Int} {c : Int} {A : W} {h' : Hh}
theorem St.ty (S : St h p u o l t ks m tm e qf ct c A i) : p ≠ u ∧ p ≠ o ∧ p ≠ l ∧ p ≠ t ∧ u ≠ o ∧ u ≠ l ∧ u ≠ t := by
  obtain ⟨a, b, hp, _⟩ := S.P
  have hu := S.U.hu
  obtain ⟨_, _, eL, _⟩ := S.U.L
  obtain ⟨_, _, eT, _⟩ := S.U.T
  obtain ⟨_, _, eO, _⟩ := S.O.D
  refine ⟨fun w => ?_, fun w => ?_, fun w => ?_, fun w => ?_, fun w => ?_, fun w => ?_, fun w => ?_⟩
  · rw [w, hu] at hp; cases hp
  · rw [w, eO] at hp; cases hp
  · rw [w, eL] at hp; cases hp
  · rw [w, eT] at hp; cases hp
  · rw [w, eO] at hu; cases hu
  · rw [w, eL] at hu; cases hu
  · rw [w, eT] at hu; cases hu
/-- new cells alone -/
theorem St.fr0 (S : St h p u o l t ks m tm e qf ct c A i) (F : Fr h h' []) : St h' p u o l t ks m tm e qf ct c A i := by
  obtain ⟨a, b, hp, hb⟩ := S.P
  have le := F.le
  have lp := S.lp
  exact ⟨⟨a, b, F.get hp lp (by simp), hb⟩, by omega, S.U.fr F (by simp) (by simp) (by simp), S.O.fr F (by simp), S.rel, S.bnd, S.C.fr F (by simp) (fun _ z => z), S.ol, S.ot, S.len, S.A.fr F (by simp) (fun j z => .inl z)⟩
/-- a draw -/
theorem St.put (S : St h p u o l t ks m tm e qf ct c A i) {a b : Int} (hb : PotB b) : St (h.put p (.lst [.int a, .int b])) p u o l t ks m tm e qf ct c A i := by
  obtain ⟨p1, p2, p3, p4, _⟩ := S.ty
  have F : Fr h (h.put p (.lst [.int a, .int b])) [p] := Fr.put (by simp)
  exact ⟨⟨a, b, get_put_eq, hb⟩, S.lp, S.U.fr F (by simpa using p1.symm) (by simpa using p3.symm) (by simpa using p4.symm), S.O.fr F (by simpa using p2.symm), S.rel, S.bnd, S.C.fr F (fun j z => by simp at z; exact .inl z) (fun _ z => z), S.ol, S.ot, S.len, S.A.fr F (by simp) (fun j z => .inl z)⟩
theorem St.draw (S : St h p u o l t ks m tm e qf ct c A i) {n : Int} (h0 : 0 < n) (h1 : n < 1073741824) (q : ∀ r h', 0 ≤ r → r < n → h'.n = h.n → Fr h h' [p] → St h' p u o l t ks m tm e qf ct c A i → Q (.int r) h') : Ok (callN pr 0 (d + 1) 16 [.ref p, .int n] h) Q := by
  obtain ⟨a, b, hp, hb⟩ := S.P
  exact Lawk73.draw hp hb h0 h1 fun r a' b' r0 r1 hb' => q r _ r0 r1 rfl (Fr.put (by simp)) (S.put hb')
theorem St.seen (S : St h p u o l t ks m tm e qf ct c A i) (q : ∀ h', St h' p u o l t ks m tm e qf ct c A i → Q (.bl true) h') : Ok (callN pr 0 (d + 5) 18 [.ref u, .ref o, .int c] h) Q :=
  Lawk73.seen S.U S.O S.rel fun h' F => q h' (S.fr0 F)
theorem St.way0 (S : St h p u o l t ks m tm e qf ct c A i) {k cy tn : Int} {kvs : List (Key × W)} (hk : 0 ≤ k) (hn : k ∉ ks) (hi : i < 50) (c1 : 1 ≤ cy) (c2 : cy ≤ 6) (eO : h.get o = some (.dic kvs))
    (q : ∀ h' ks' m' tm' e' qf' ct', St h' p u o l t ks' m' tm' e' qf' ct' c A (i + 1) → Q .non h') :
    Ok (callN pr 0 (d + 4) 7 [.ref u, .int k, .int cy, .ref (h.n + 1)] (((h.push (.lst [.int tn, .int k])).put o (.dic (putKW kvs (.inl k) (.tup [.int (c + cy), .ref h.n])))).push (.lst [.int tn, .int k]))) Q := by
  obtain ⟨p1, p2, p3, p4, p5, p6, p7⟩ := S.ty
  obtain ⟨kvs0, os, e0, D⟩ := S.O.D
  rw [eO] at e0; cases e0
  obtain ⟨a, b, hp, hb⟩ := S.P
  have lo := S.O.lo; have lp := S.lp; have lu := S.U.lu; have ll := S.U.ll; have lt := S.U.lt
  obtain ⟨h1, eh1⟩ : ∃ h1, h1 = h.push (.lst [.int tn, .int k]) := ⟨_, rfl⟩
  obtain ⟨h2, eh2⟩ : ∃ h2, h2 = h1.put o (.dic (putKW kvs (.inl k) (.tup [.int (c + cy), .ref h.n]))) := ⟨_, rfl⟩
  obtain ⟨h3, eh3⟩ : ∃ h3, h3 = h2.push (.lst [.int tn, .int k]) := ⟨_, rfl⟩
  rw [← eh1, ← eh2, ← eh3]
  have n1 : h1.n = h.n + 1 := by rw [eh1]; rfl
  have n2 : h2.n = h.n + 1 := by rw [eh2]; exact n1
  have n3 : h3.n = h.n + 2 := by rw [eh3]; show h2.n + 1 = _; omega
  have F1 : Fr h h1 [] := eh1 ▸ Fr.push
  have F2 : Fr h h2 [o] := eh2 ▸ (F1.mono (by simp)).trans (Fr.put (by simp))
  have F3 : Fr h h3 [o] := eh3 ▸ F2.trans Fr.push
  have U3 := S.U.fr F3 (by simpa using p5) (by simpa using S.ol.symm) (by simpa using S.ot.symm)
  have gq1 : h3.get h.n = some (.lst [.int tn, .int k]) := by
    rw [eh3, get_push_lt (by omega), eh2, get_put_ne (by omega), eh1]; exact get_push_eq
  have gq2 : h3.get (h.n + 1) = some (.lst [.int tn, .int k]) := by
    rw [eh3, ← n2]; exact get_push_eq
  have go : h3.get o = some (.dic (putKW kvs (.inl k) (.tup [.int (c + cy), .ref h.n]))) := by
    rw [eh3, get_push_lt (by omega), eh2]; exact get_put_eq
  have sl := S.len
  refine begun U3 hk hn (by omega) c1 (by omega) fun h4 F4 U4 => ?_
  have le4 := F4.le
  have F : Fr h h4 [o, l, t] := (F3.mono (by simp)).trans (F4.mono (by simp))
  have Dp := D.put k (.tup [.int (c + cy), .ref h.n])
  rw [if_neg (fun z => hn ((di_keys D k).mp z))] at Dp
  obtain ⟨kvL, lsL, eL, _⟩ := U3.L
  obtain ⟨kvT, lsT, eT, _⟩ := U3.T
  have neL : ∀ j ws, h3.get j = some (.lst ws) → j ∉ [l, t] := fun j ws z => by
    simp only [List.mem_cons, List.not_mem_nil, or_false, not_or]
    exact ⟨fun w => (by rw [w, eL] at z; cases z), fun w => (by rw [w, eT] at z; cases z)⟩
  refine q h4 (insI k ks) _ (fun j => if j = k then .ref (h.n + 1) else tm j) (fun j => if j = k then c + cy else e j) (fun j => if j = k then h.n else qf j) (fun j => if j = k then tn else ct j) ⟨⟨a, b, F.get hp lp (by simp [p2, p3, p4]), hb⟩, by omega, U4, ⟨by omega, _, _, F4.get go (by omega) (by simp [S.ol, S.ot]), Dp.keys, Dp.nd, fun j => ?_⟩, fun j hj => ?_, fun j hj => ?_, fun j hj => ?_, S.ol, S.ot, by rw [(insI_perm k ks).length_eq]; simp; omega, S.A.fr F (by simp) (fun j z => .inl z)⟩
  · rw [Dp.val]
    by_cases z : j = k
    · subst z; simp [mem_insI]
    · simp [z, mem_insI]
  · by_cases z : j = k
    · subst z; simp only [if_true, mx]; split <;> omega
    · simp only [if_neg z]
      exact S.rel j (by rcases mem_insI.mp hj with w | w; exact absurd w z; exact w)
  · by_cases z : j = k
    · subst z; simp only [if_true]; omega
    · simp only [if_neg z]
      exact S.bnd j (by rcases mem_insI.mp hj with w | w; exact absurd w z; exact w)
  · by_cases z : j = k
    · subst z
      simp only [if_true]
      exact ⟨⟨by omega, by omega, F4.get gq1 (by omega) (neL _ _ gq1)⟩, h.n + 1, rfl, by omega, by omega, F4.get gq2 (by omega) (neL _ _ gq2)⟩
    · simp only [if_neg z]
      have hj' : j ∈ ks := by rcases mem_insI.mp hj with w | w; exact absurd w z; exact w
      exact (S.C.fr F (fun x hx => by
        simp only [List.mem_cons, List.not_mem_nil, or_false] at hx
        right
        intro ws w
        rcases hx with rfl | rfl | rfl
        · rw [eO] at w; cases w
        · have := F3.get w ll (by simpa using S.ol.symm)
          rw [eL] at this; cases this
        · have := F3.get w lt (by simpa using S.ot.symm)
          rw [eT] at this; cases this) (fun _ z => z)) j hj'
theorem St.aged (S : St h p u o l t ks m tm e qf ct c A i) (q : ∀ h' m', St h' p u o l t ks m' tm e qf ct (c + 1) A i → Q .non h') : Ok (callN pr 0 (d + 2) 9 [.ref u] h) Q := by
  obtain ⟨p1, p2, p3, p4, p5, p6, p7⟩ := S.ty
  obtain ⟨a, b, hp, hb⟩ := S.P
  obtain ⟨kvL, lsL, eL, _⟩ := S.U.L
  refine Lawk73.aged S.U fun h' F U' => ?_
  have le := F.le
  have lp := S.lp
  refine q h' _ ⟨⟨a, b, F.get hp lp (by simp [p3]), hb⟩, by omega, U', S.O.fr F (by simpa using S.ol), fun k hk => ?_, fun k hk => by have := S.bnd k hk; omega, S.C.fr F (fun j hj => ?_) (fun _ z => z), S.ol, S.ot, S.len, S.A.fr F (by simp) (fun j z => .inl z)⟩
  · simp only [S.rel k hk, dec1, mx]
    repeat' split
    all_goals omega
  · simp at hj
    subst hj
    right
    intro ws w
    rw [eL] at w; cases w
theorem St.fin (S : St h p u o l t ks m tm e qf ct c A i) (q : ∀ h' l' t' ks', St h' p u o l' t' ks' m tm e qf ct c A i → (∃ f, ks' = ks.filter f) → Q (.bl true) h') : Ok (callN pr 0 (d + 4) 19 [.ref u, .ref o, .int c] h) Q := by
  obtain ⟨p1, p2, p3, p4, p5, p6, p7⟩ := S.ty
  obtain ⟨a, b, hp, hb⟩ := S.P
  obtain ⟨kvO, _, eO, _⟩ := S.O.D
  have hu := S.U.hu
  have lo := S.O.lo
  have ll := S.U.ll; have lt := S.U.lt
  refine finished_right S.U S.O S.rel S.C p5.symm p1.symm fun h' l' t' f F hl ht U' O' => ?_
  have le := F.le
  have lp := S.lp
  have ol := S.ol; have ot := S.ot
  refine q h' l' t' _ ⟨⟨a, b, F.get hp lp (by simp [p1, p2]), hb⟩, by omega, U', O', fun k hk => S.rel k (List.mem_filter.mp hk).1, fun k hk => S.bnd k (List.mem_filter.mp hk).1, S.C.fr F (fun j hj => ?_) (fun k hk => (List.mem_filter.mp hk).1), by omega, by omega, Nat.le_trans (List.length_filter_le _ _) S.len, S.A.fr F (by simp) (fun j z => ?_)⟩ ⟨f, rfl⟩
  · simp only [List.mem_cons, List.not_mem_nil, or_false] at hj
    right
    intro ws w
    rcases hj with rfl | rfl
    · rw [hu] at w; cases w
    · rw [eO] at w; cases w
  · simp only [List.mem_cons, List.not_mem_nil, or_false] at z ⊢
    rcases z with z | z | z | z | z
    · exact .inl (.inl z)
    · exact .inl (.inr (.inl z))
    · exact .inl (.inr (.inr (.inl z)))
    · rcases hl with w | w
      · exact .inl (.inr (.inr (.inr (.inl (z.trans w)))))
      · exact .inr (by omega)
    · rcases ht with w | w
      · exact .inl (.inr (.inr (.inr (.inr (z.trans w)))))
      · exact .inr (by omega)
def B3 : Ss := (.cons (.asg (.name 9) (.comp (.var 10) (.name 10) (.seq (.bc .sorted1 (.cons (.var 2) .nil))) (.some (.cmp .ge (.var 10) (.var 7))) [10]))
  (.cons (.forS (.name 10) (.seq (.var 9)) (.cons (.expr (.bm .pop1 (.var 2) (.cons (.var 10) .nil)))
  .nil))
  (.cons (.ifS (.cmp .ne (.meth (.var 1) 9 (.cons (.var 7) .nil) []) (.rev (.var 9))) (.cons (.ret (.cst (.bl false)))
  .nil) .nil)
  .nil)))
theorem St.way3 (S : St h p u o l t ks m tm e qf ct c A i) {n : Int} (hn : 0 ≤ n) {x4 x5 x6 x8 x9 x10 x11 : Option W} {D : Dn}
    (q : ∀ h' l' t' ks' y9 y10, St h' p u o l' t' ks' m tm e qf ct c A i → D.nx [some (.ref p), some (.ref u), some (.ref o), some (.int c), x4, x5, x6, some (.int n), x8, y9, y10, x11] h') :
    OkS (evSs (calN pr 0 (d + 6)) B3 [some (.ref p), some (.ref u), some (.ref o), some (.int c), x4, x5, x6, some (.int n), x8, x9, x10, x11] h) D := by
  obtain ⟨p1, p2, p3, p4, p5, p6, p7⟩ := S.ty
  have U := S.U
  obtain ⟨kvs, os, eO, D0⟩ := S.O.D
  have hl := di_len D0 U.nd
  have sm := U.sm
  have lo := S.O.lo
  unfold B3
  simp (disch := first | assumption | decide | omega | (simp only [List.length_cons, List.length_nil]; omega)) only [newL_c, newT_c, wipeS, if_true, bin_mulc, bin_fdivc, bin_mod, OkS_cons, OkS_nil, OkS_nx, OkS_rt, OkS_bk, OkS_ct, OkS_toS, Ok_bind, Ok_bindN, Ok_nx, Ok_ok, evS, evE, evEs, evT_cst, evT_var, evT_glo, evT_bin, evT_neg, evT_fld, evT_ix, evT_rev, evT_slc, evT_lst, evT_tup, evT_call, evT_make, evT_meth, evT_callv, evT_bc, evT_bm, evT_isi, evT_comp, evT_not, evT_and, evT_or, evT_cmp, evT_cmp2, evO, evC, evI, evG, evGs, permW, calN_call, calN_cs, getS_0, getS_s, Ok_ofS, tru_bl, Option.map, Bool.not_true, Bool.not_false, isiW, isOne, tyName, List.contains_cons, List.contains_nil, bin_add, bin_sub, cmp_lt, cmp_le, cmp_gt, cmp_ge, cmp_isN, cmp_isnN, bc_int, bc_abs, bc_max, bc_min, tgsL, List.length_cons, List.length_nil, List.set_cons_zero, List.set_cons_succ, at_0, at_1, at_2, ix_tup, bc_sortD eO D0.keysI (show os.length < 64 by omega)]
  rw [di_sort D0 U.nd U.srt]
  obtain ⟨h1, eh⟩ : ∃ h1, h1 = h.push (.lst (ks.map W.int)) := ⟨_, rfl⟩
  have F1 : Fr h h1 [] := eh ▸ Fr.push
  have g1 : h1.get h.n = some (.lst (ks.map W.int)) := by rw [eh]; exact get_push_eq
  have nn1 : h1.n = h.n + 1 := by rw [eh]; rfl
  rw [← eh]
  have hz : (ks.map W.int).length ≤ sizeLine := by rw [List.length_map, sizeLine_eq]; omega
  simp (disch := first | assumption | decide | omega | (simp only [List.length_cons, List.length_nil]; omega)) only [newL_c, newT_c, wipeS, if_true, bin_mulc, bin_fdivc, bin_mod, OkS_cons, OkS_nil, OkS_nx, OkS_rt, OkS_bk, OkS_ct, OkS_toS, Ok_bind, Ok_bindN, Ok_nx, Ok_ok, evS, evE, evEs, evT_cst, evT_var, evT_glo, evT_bin, evT_neg, evT_fld, evT_ix, evT_rev, evT_slc, evT_lst, evT_tup, evT_call, evT_make, evT_meth, evT_callv, evT_bc, evT_bm, evT_isi, evT_comp, evT_not, evT_and, evT_or, evT_cmp, evT_cmp2, evO, evC, evI, evG, evGs, permW, calN_call, calN_cs, getS_0, getS_s, Ok_ofS, tru_bl, Option.map, Bool.not_true, Bool.not_false, isiW, isOne, tyName, List.contains_cons, List.contains_nil, bin_add, bin_sub, cmp_lt, cmp_le, cmp_gt, cmp_ge, cmp_isN, cmp_isnN, bc_int, bc_abs, bc_max, bc_min, tgsL, List.length_cons, List.length_nil, List.set_cons_zero, List.set_cons_succ, at_0, at_1, at_2, ix_tup, seq_lst g1]
  refine comp_pure (fmI fun k => decide (n ≤ k)) g1 (by omega) hz (fun w hw h' F => ?_) fun h2 F2 n2 e2 => ?_
  · obtain ⟨k, hk, rfl⟩ := List.mem_map.mp hw
    simp (disch := first | assumption | decide | omega | (simp only [List.length_cons, List.length_nil]; omega)) only [newL_c, newT_c, wipeS, if_true, bin_mulc, bin_fdivc, bin_mod, OkS_cons, OkS_nil, OkS_nx, OkS_rt, OkS_bk, OkS_ct, OkS_toS, Ok_bind, Ok_bindN, Ok_nx, Ok_ok, evS, evE, evEs, evT_cst, evT_var, evT_glo, evT_bin, evT_neg, evT_fld, evT_ix, evT_rev, evT_slc, evT_lst, evT_tup, evT_call, evT_make, evT_meth, evT_callv, evT_bc, evT_bm, evT_isi, evT_comp, evT_not, evT_and, evT_or, evT_cmp, evT_cmp2, evO, evC, evI, evG, evGs, permW, calN_call, calN_cs, getS_0, getS_s, Ok_ofS, tru_bl, Option.map, Bool.not_true, Bool.not_false, isiW, isOne, tyName, List.contains_cons, List.contains_nil, bin_add, bin_sub, cmp_lt, cmp_le, cmp_gt, cmp_ge, cmp_isN, cmp_isnN, bc_int, bc_abs, bc_max, bc_min, tgsL, List.length_cons, List.length_nil, List.set_cons_zero, List.set_cons_succ, at_0, at_1, at_2, ix_tup]
    refine ⟨trivial, trivial, ?_⟩
    by_cases z : decide (n ≤ k) = true
    · rw [if_pos z]; exact ⟨trivial, by simp only [fmI, if_pos z]⟩
    · rw [if_neg z]; simp only [fmI, if_neg z]
  · rw [fm_int] at e2
    obtain ⟨G, eG⟩ : ∃ G, G = ks.filter fun k => decide (n ≤ k) := ⟨_, rfl⟩
    rw [← eG] at e2
    have Fh : Fr h h2 [] := F1.trans F2
    have O2 := S.O.fr Fh (by simp)
    have nG : G.Nodup := eG ▸ U.nd.filter _
    simp (disch := first | assumption | decide | omega | (simp only [List.length_cons, List.length_nil]; omega)) only [newL_c, newT_c, wipeS, if_true, bin_mulc, bin_fdivc, bin_mod, OkS_cons, OkS_nil, OkS_nx, OkS_rt, OkS_bk, OkS_ct, OkS_toS, Ok_bind, Ok_bindN, Ok_nx, Ok_ok, evS, evE, evEs, evT_cst, evT_var, evT_glo, evT_bin, evT_neg, evT_fld, evT_ix, evT_rev, evT_slc, evT_lst, evT_tup, evT_call, evT_make, evT_meth, evT_callv, evT_bc, evT_bm, evT_isi, evT_comp, evT_not, evT_and, evT_or, evT_cmp, evT_cmp2, evO, evC, evI, evG, evGs, permW, calN_call, calN_cs, getS_0, getS_s, Ok_ofS, tru_bl, Option.map, Bool.not_true, Bool.not_false, isiW, isOne, tyName, List.contains_cons, List.contains_nil, bin_add, bin_sub, cmp_lt, cmp_le, cmp_gt, cmp_ge, cmp_isN, cmp_isnN, bc_int, bc_abs, bc_max, bc_min, tgsL, List.length_cons, List.length_nil, List.set_cons_zero, List.set_cons_succ, at_0, at_1, at_2, ix_tup, seq_lst e2]
    refine for_lst (G.map .int) (fun j s h3 => (∃ y, s = [some (.ref p), some (.ref u), some (.ref o), some (.int c), x4, x5, x6, some (.int n), x8, some (.ref h1.n), y, x11]) ∧ Fr h h3 [o] ∧ h2.n ≤ h3.n ∧ h3.get h1.n = some (.lst (G.map .int)) ∧ Ow h3 o (ks.filter fun k => decide (k ∉ G.take j)) e qf)
      ⟨⟨_, rfl⟩, Fh.mono (by simp), Nat.le_refl _, e2, by rw [List.filter_eq_self.mpr (by simp)]; exact O2⟩ (fun j s h3 iv => iv.2.2.2.1) (fun j s h3 w ew iv => ?_) (fun s h3 iv => ?_)
    · obtain ⟨⟨y, rfl⟩, F3, hn3, e3, O3⟩ := iv
      obtain ⟨k, ek, rfl⟩ := im ew
      obtain ⟨kv3, os3, eO3, D3⟩ := O3.D
      have hkG : k ∈ G := List.mem_of_getElem? ek
      have hks : k ∈ ks := by rw [eG] at hkG; exact (List.mem_filter.mp hkG).1
      have hin : k ∈ ks.filter (fun k => decide (k ∉ G.take j)) := List.mem_filter.mpr ⟨hks, by simpa using nt nG ek⟩
      have hv : valK kv3 (.inl k) = some (.tup [.int (e k), .ref (qf k)]) := by rw [D3.val, if_pos hin]
      simp (disch := first | assumption | decide | omega | (simp only [List.length_cons, List.length_nil]; omega)) only [newL_c, newT_c, wipeS, if_true, bin_mulc, bin_fdivc, bin_mod, OkS_cons, OkS_nil, OkS_nx, OkS_rt, OkS_bk, OkS_ct, OkS_toS, Ok_bind, Ok_bindN, Ok_nx, Ok_ok, evS, evE, evEs, evT_cst, evT_var, evT_glo, evT_bin, evT_neg, evT_fld, evT_ix, evT_rev, evT_slc, evT_lst, evT_tup, evT_call, evT_make, evT_meth, evT_callv, evT_bc, evT_bm, evT_isi, evT_comp, evT_not, evT_and, evT_or, evT_cmp, evT_cmp2, evO, evC, evI, evG, evGs, permW, calN_call, calN_cs, getS_0, getS_s, Ok_ofS, tru_bl, Option.map, Bool.not_true, Bool.not_false, isiW, isOne, tyName, List.contains_cons, List.contains_nil, bin_add, bin_sub, cmp_lt, cmp_le, cmp_gt, cmp_ge, cmp_isN, cmp_isnN, bc_int, bc_abs, bc_max, bc_min, tgsL, List.length_cons, List.length_nil, List.set_cons_zero, List.set_cons_succ, at_0, at_1, at_2, ix_tup, kind_d eO3, Bool.false_or, eq_self, decide_true, bm_popD eO3 hv]
      have Dd := D3.drop k
      refine ⟨⟨_, rfl⟩, F3.trans (Fr.put (by simp)), hn3, by rw [get_put_ne (by omega)]; exact e3, ⟨O3.lo, _, _, get_put_eq, Dd.keys, Dd.nd, fun k' => ?_⟩⟩
      rw [Dd.val, tk ek]
      by_cases z : k' = k
      · subst z; simp
      · simp [z]
    · obtain ⟨⟨y, rfl⟩, F3, hn3, e3, O3⟩ := iv
      have U3 := U.fr F3 (by simpa using p5) (by simpa using S.ol.symm) (by simpa using S.ot.symm)
      simp (disch := first | assumption | decide | omega | (simp only [List.length_cons, List.length_nil]; omega)) only [newL_c, newT_c, wipeS, if_true, bin_mulc, bin_fdivc, bin_mod, OkS_cons, OkS_nil, OkS_nx, OkS_rt, OkS_bk, OkS_ct, OkS_toS, Ok_bind, Ok_bindN, Ok_nx, Ok_ok, evS, evE, evEs, evT_cst, evT_var, evT_glo, evT_bin, evT_neg, evT_fld, evT_ix, evT_rev, evT_slc, evT_lst, evT_tup, evT_call, evT_make, evT_meth, evT_callv, evT_bc, evT_bm, evT_isi, evT_comp, evT_not, evT_and, evT_or, evT_cmp, evT_cmp2, evO, evC, evI, evG, evGs, permW, calN_call, calN_cs, getS_0, getS_s, Ok_ofS, tru_bl, Option.map, Bool.not_true, Bool.not_false, isiW, isOne, tyName, List.contains_cons, List.contains_nil, bin_add, bin_sub, cmp_lt, cmp_le, cmp_gt, cmp_ge, cmp_isN, cmp_isnN, bc_int, bc_abs, bc_max, bc_min, tgsL, List.length_cons, List.length_nil, List.set_cons_zero, List.set_cons_succ, at_0, at_1, at_2, ix_tup, mt9 U3]
      refine dropped (d := d + 2) U3 hn fun r h4 l' t' F4 hl' ht' U4 hr rlt e4 => ?_
      have le4 := F4.le
      have le3 := F3.le
      have lu := U.lu; have ll := U.ll; have lt := U.lt; have lp := S.lp
      have e3' := F4.get e3 (by omega) (by simp; omega)
      simp (disch := first | assumption | decide | omega | (simp only [List.length_cons, List.length_nil]; omega)) only [newL_c, newT_c, wipeS, if_true, bin_mulc, bin_fdivc, bin_mod, OkS_cons, OkS_nil, OkS_nx, OkS_rt, OkS_bk, OkS_ct, OkS_toS, Ok_bind, Ok_bindN, Ok_nx, Ok_ok, evS, evE, evEs, evT_cst, evT_var, evT_glo, evT_bin, evT_neg, evT_fld, evT_ix, evT_rev, evT_slc, evT_lst, evT_tup, evT_call, evT_make, evT_meth, evT_callv, evT_bc, evT_bm, evT_isi, evT_comp, evT_not, evT_and, evT_or, evT_cmp, evT_cmp2, evO, evC, evI, evG, evGs, permW, calN_call, calN_cs, getS_0, getS_s, Ok_ofS, tru_bl, Option.map, Bool.not_true, Bool.not_false, isiW, isOne, tyName, List.contains_cons, List.contains_nil, bin_add, bin_sub, cmp_lt, cmp_le, cmp_gt, cmp_ge, cmp_isN, cmp_isnN, bc_int, bc_abs, bc_max, bc_min, tgsL, List.length_cons, List.length_nil, List.set_cons_zero, List.set_cons_succ, at_0, at_1, at_2, ix_tup, rev_lst e3']
      have e5 : (h4.push (.lst (G.map W.int).reverse)).get h4.n = some (.lst (G.reverse.map .int)) := by rw [get_push_eq, List.map_reverse]
      have e6 : (h4.push (.lst (G.map W.int).reverse)).get r = some (.lst (G.reverse.map .int)) := by rw [get_push_lt rlt, e4, eG]
      simp (disch := first | assumption | decide | omega | (simp only [List.length_cons, List.length_nil]; omega)) only [newL_c, newT_c, wipeS, if_true, bin_mulc, bin_fdivc, bin_mod, OkS_cons, OkS_nil, OkS_nx, OkS_rt, OkS_bk, OkS_ct, OkS_toS, Ok_bind, Ok_bindN, Ok_nx, Ok_ok, evS, evE, evEs, evT_cst, evT_var, evT_glo, evT_bin, evT_neg, evT_fld, evT_ix, evT_rev, evT_slc, evT_lst, evT_tup, evT_call, evT_make, evT_meth, evT_callv, evT_bc, evT_bm, evT_isi, evT_comp, evT_not, evT_and, evT_or, evT_cmp, evT_cmp2, evO, evC, evI, evG, evGs, permW, calN_call, calN_cs, getS_0, getS_s, Ok_ofS, tru_bl, Option.map, Bool.not_true, Bool.not_false, isiW, isOne, tyName, List.contains_cons, List.contains_nil, bin_add, bin_sub, cmp_lt, cmp_le, cmp_gt, cmp_ge, cmp_isN, cmp_isnN, bc_int, bc_abs, bc_max, bc_min, tgsL, List.length_cons, List.length_nil, List.set_cons_zero, List.set_cons_succ, at_0, at_1, at_2, ix_tup, cmp_ne NE, eqD_ints e6 e5]
      have F5 : Fr h (h4.push (.lst (G.map W.int).reverse)) [u, o] := ((F3.mono (by simp)).trans (F4.mono (by simp))).trans Fr.push
      have ff : (ks.filter fun k => decide (k ∉ G.take (G.map W.int).length)) = ks.filter fun k => decide (k < n) := by
        rw [List.length_map, List.take_length]
        refine List.filter_congr fun j hj => ?_
        rw [eG]
        by_cases z : n ≤ j
        · simp [z, hj]
        · simp [z]; omega
      rw [ff] at O3
      obtain ⟨a, b, hp, hb⟩ := S.P
      have hu := S.U.hu
      have ol := S.ol; have ot := S.ot
      refine q _ l' t' _ _ _ ⟨⟨a, b, F5.get hp lp (by simp [p1, p2]), hb⟩, by show p < h4.n + 1; omega, U4.fr (Fr.push (S := [])) (by simp) (by simp) (by simp), (O3.fr F4 (by simpa using p5.symm)).fr (Fr.push (S := [])) (by simp), fun k hk => S.rel k (List.mem_filter.mp hk).1, fun k hk => S.bnd k (List.mem_filter.mp hk).1, S.C.fr F5 (fun j hj => ?_) (fun k hk => (List.mem_filter.mp hk).1), by omega, by omega, Nat.le_trans (List.length_filter_le _ _) S.len, S.A.fr F5 (by simp) (fun j z => ?_)⟩
      · simp only [List.mem_cons, List.not_mem_nil, or_false] at hj
        right
        intro ws w
        rcases hj with rfl | rfl
        · rw [hu] at w; cases w
        · rw [eO] at w; cases w
      · simp only [List.mem_cons, List.not_mem_nil, or_false] at z ⊢
        rcases z with z | z | z | z | z
        · exact .inl (.inl z)
        · exact .inl (.inr (.inl z))
        · exact .inl (.inr (.inr (.inl z)))
        · rcases hl' with w | w
          · exact .inl (.inr (.inr (.inr (.inl (z.trans w)))))
          · exact .inr (by omega)
        · rcases ht' with w | w
          · exact .inl (.inr (.inr (.inr (.inr (z.trans w)))))
          · exact .inr (by omega)
end
end
end Lawk73

set_option Elab.async false
set_option linter.all false
set_option maxRecDepth 100000
set_option maxHeartbeats 4000000
namespace Lawk73
open PySem PySem.Spec Mi
def w0 : Mi.S := (.asg (.name 6) (.call 17 (.cons (.var 0) (.cons (.lst (.cons (.cst (.int 0)) (.cons (.cst (.int 0)) (.cons (.cst (.int 0)) (.cons (.cst (.int 1)) (.cons (.cst (.int 1)) (.cons (.cst (.int 1)) (.cons (.cst (.int 2)) (.cons (.cst (.int 2)) (.cons (.cst (.int 2)) (.cons (.cst (.int 3)) (.cons (.cst (.int 4)) .nil)))))))))))) .nil)) []))
def a0 : Ss := (.cons (.asg (.tup (.cons (.name 7) (.cons (.name 8) .nil))) (.tup (.cons (.call 16 (.cons (.var 0) (.cons (.cst (.int 12)) .nil)) []) (.cons (.bin .add (.cst (.int 1)) (.call 16 (.cons (.var 0) (.cons (.cst (.int 6)) .nil)) [])) .nil))))
  (.cons (.ifS (.cmp .nin (.var 7) (.var 2)) (.cons (.asg (.sub (.var 2) (.var 7)) (.tup (.cons (.bin .add (.var 3) (.var 8)) (.cons (.lst (.cons (.var 5) (.cons (.var 7) .nil))) .nil))))
  (.cons (.ifS (.cmp .isn (.meth (.var 1) 7 (.cons (.var 7) (.cons (.var 8) (.cons (.lst (.cons (.var 5) (.cons (.var 7) .nil))) .nil))) []) (.cst .non)) (.cons (.ret (.cst (.bl false)))
  .nil) .nil)
  .nil)) .nil)
  .nil))
def a1 : Ss := (.cons (.asg (.name 3) (.bin .add (.var 3) (.cst (.int 1))))
  (.cons (.ifS (.cmp .isn (.meth (.var 1) 8 .nil []) (.cst .non)) (.cons (.ret (.cst (.bl false)))
  .nil) .nil)
  .nil))
def a2 : Ss := (.cons (.ret (.cst (.bl false)))
  .nil)
def a3 : Ss := (.cons (.asg (.name 7) (.call 16 (.cons (.var 0) (.cons (.cst (.int 13)) .nil)) []))
  (.cons (.asg (.name 9) (.comp (.var 10) (.name 10) (.seq (.bc .sorted1 (.cons (.var 2) .nil))) (.some (.cmp .ge (.var 10) (.var 7))) [10]))
  (.cons (.forS (.name 10) (.seq (.var 9)) (.cons (.expr (.bm .pop1 (.var 2) (.cons (.var 10) .nil)))
  .nil))
  (.cons (.ifS (.cmp .ne (.meth (.var 1) 9 (.cons (.var 7) .nil) []) (.rev (.var 9))) (.cons (.ret (.cst (.bl false)))
  .nil) .nil)
  .nil))))
def a4 : Ss := (.cons (.asg (.name 4) (.tup (.cons (.meth (.var 1) 10 .nil []) (.cons (.bc .dict1 (.cons (.var 2) .nil)) (.cons (.var 3) .nil)))))
  .nil)
def a5 : Ss := (.cons (.ret (.cst (.bl false)))
  .nil)
def i0 : Mi.S := .ifS (.cmp .eq (.var 6) (.cst (.int 0))) a0 .nil
def i1 : Mi.S := .ifS (.cmp .eq (.var 6) (.cst (.int 1))) a1 .nil
def i2 : Mi.S := .ifS (.andE (.cmp .eq (.var 6) (.cst (.int 2))) (.notE (.call 19 (.cons (.var 1) (.cons (.var 2) (.cons (.var 3) .nil))) []))) a2 .nil
def i3 : Mi.S := .ifS (.cmp .eq (.var 6) (.cst (.int 3))) a3 .nil
def i4 : Mi.S := .ifS (.cmp .eq (.var 6) (.cst (.int 4))) a4 .nil
def i5 : Mi.S := .ifS (.notE (.call 18 (.cons (.var 1) (.cons (.var 2) (.cons (.var 3) .nil))) [])) a5 .nil
def T5 : Ss := .cons i5 .nil
def T4 : Ss := .cons i4 T5
def T3 : Ss := .cons i3 T4
def T2 : Ss := .cons i2 T3
def T1 : Ss := .cons i1 T2
def T0 : Ss := .cons i0 T1
def B : Ss := .cons w0 T0
section
variable {d : Nat} {h : Hh} {p u o : Nat}
theorem St.up {l t i j : Nat} {ks : List Int} {m : Int → Int} {tm : Int → W} {e : Int → Int} {qf : Int → Nat} {ct : Int → Int} {c : Int} {A : W} (S : St h p u o l t ks m tm e qf ct c A i) (le : i ≤ j) : St h p u o l t ks m tm e qf ct c A j :=
  { S with len := Nat.le_trans S.len le }
def Iv (p u o : Nat) (i : Nat) (s : Sl) (h : Hh) : Prop := ∃ l t ks m tm e qf ct c A x5 x6 x7 x8 x9 x10 x11, s = [some (.ref p), some (.ref u), some (.ref o), some (.int c), some A, x5, x6, x7, x8, x9, x10, x11] ∧ St h p u o l t ks m tm e qf ct c A i
def xs : List Int := [0, 0, 0, 1, 1, 1, 2, 2, 2, 3, 4]
theorem if_way {C : Cal} (hC : NoEq C) {s : Sl} {v j : Int} {a : Ss} {D : Dn} (h6 : getS s 6 = some (.int v)) : OkS (evS C (.ifS (.cmp .eq (.var 6) (.cst (.int j))) a .nil) s h) D ↔ if v = j then OkS (evSs C a s h) D else D.nx s h := by
  simp (disch := first | assumption | decide | omega | (simp only [List.length_cons, List.length_nil]; omega)) only [newL_c, newT_c, wipeS, if_true, bin_mulc, bin_fdivc, bin_mod, OkS_cons, OkS_nil, OkS_nx, OkS_rt, OkS_bk, OkS_ct, OkS_toS, Ok_bind, Ok_bindN, Ok_nx, Ok_ok, evS, evE, evEs, evT_cst, evT_var, evT_glo, evT_bin, evT_neg, evT_fld, evT_ix, evT_rev, evT_slc, evT_lst, evT_tup, evT_call, evT_make, evT_meth, evT_callv, evT_bc, evT_bm, evT_isi, evT_comp, evT_not, evT_and, evT_or, evT_cmp, evT_cmp2, evO, evC, evI, evG, evGs, permW, calN_call, calN_cs, getS_0, getS_s, Ok_ofS, tru_bl, Option.map, Bool.not_true, Bool.not_false, isiW, isOne, tyName, List.contains_cons, List.contains_nil, bin_add, bin_sub, cmp_lt, cmp_le, cmp_gt, cmp_ge, cmp_isN, cmp_isnN, bc_int, bc_abs, bc_max, bc_min, tgsL, List.length_cons, List.length_nil, List.set_cons_zero, List.set_cons_succ, at_0, at_1, at_2, ix_tup, h6, cmp_eq hC, eqD_int]
  by_cases c : v = j
  · subst c; simp only [beq_self_eq_true, if_true]
  · rw [if_neg c, beq_eq_false_iff_ne.mpr c]; simp (disch := first | assumption | decide | omega | (simp only [List.length_cons, List.length_nil]; omega)) only [newL_c, newT_c, wipeS, if_true, bin_mulc, bin_fdivc, bin_mod, OkS_cons, OkS_nil, OkS_nx, OkS_rt, OkS_bk, OkS_ct, OkS_toS, Ok_bind, Ok_bindN, Ok_nx, Ok_ok, evS, evE, evEs, evT_cst, evT_var, evT_glo, evT_bin, evT_neg, evT_fld, evT_ix, evT_rev, evT_slc, evT_lst, evT_tup, evT_call, evT_make, evT_meth, evT_callv, evT_bc, evT_bm, evT_isi, evT_comp, evT_not, evT_and, evT_or, evT_cmp, evT_cmp2, evO, evC, evI, evG, evGs, permW, calN_call, calN_cs, getS_0, getS_s, Ok_ofS, tru_bl, Option.map, Bool.not_true, Bool.not_false, isiW, isOne, tyName, List.contains_cons, List.contains_nil, bin_add, bin_sub, cmp_lt, cmp_le, cmp_gt, cmp_ge, cmp_isN, cmp_isnN, bc_int, bc_abs, bc_max, bc_min, tgsL, List.length_cons, List.length_nil, List.set_cons_zero, List.set_cons_succ, at_0, at_1, at_2, ix_tup]
section
variable {i l t : Nat} {ks : List Int} {m : Int → Int} {tm : Int → W} {e : Int → Int} {qf : Int → Nat} {ct : Int → Int} {c v : Int} {A : W} {x5 x7 x8 x9 x10 x11 : Option W} {R : W → Hh → Prop} {K : Sl → Hh → Prop}
theorem stage5 (S : St h p u o l t ks m tm e qf ct c A i) : OkS (evSs (calN pr 0 (d + 6)) T5 [some (.ref p), some (.ref u), some (.ref o), some (.int c), some A, x5, some (.int v), x7, x8, x9, x10, x11] h) { nx := Iv p u o i, rt := R, bk := K, ct := Iv p u o i } := by
  unfold T5 i5
  simp (disch := first | assumption | decide | omega | (simp only [List.length_cons, List.length_nil]; omega)) only [newL_c, newT_c, wipeS, if_true, bin_mulc, bin_fdivc, bin_mod, OkS_cons, OkS_nil, OkS_nx, OkS_rt, OkS_bk, OkS_ct, OkS_toS, Ok_bind, Ok_bindN, Ok_nx, Ok_ok, evS, evE, evEs, evT_cst, evT_var, evT_glo, evT_bin, evT_neg, evT_fld, evT_ix, evT_rev, evT_slc, evT_lst, evT_tup, evT_call, evT_make, evT_meth, evT_callv, evT_bc, evT_bm, evT_isi, evT_comp, evT_not, evT_and, evT_or, evT_cmp, evT_cmp2, evO, evC, evI, evG, evGs, permW, calN_call, calN_cs, getS_0, getS_s, Ok_ofS, tru_bl, Option.map, Bool.not_true, Bool.not_false, isiW, isOne, tyName, List.contains_cons, List.contains_nil, bin_add, bin_sub, cmp_lt, cmp_le, cmp_gt, cmp_ge, cmp_isN, cmp_isnN, bc_int, bc_abs, bc_max, bc_min, tgsL, List.length_cons, List.length_nil, List.set_cons_zero, List.set_cons_succ, at_0, at_1, at_2, ix_tup]
  refine St.seen (d := d + 1) S fun h' S' => ?_
  simp (disch := first | assumption | decide | omega | (simp only [List.length_cons, List.length_nil]; omega)) only [newL_c, newT_c, wipeS, if_true, bin_mulc, bin_fdivc, bin_mod, OkS_cons, OkS_nil, OkS_nx, OkS_rt, OkS_bk, OkS_ct, OkS_toS, Ok_bind, Ok_bindN, Ok_nx, Ok_ok, evS, evE, evEs, evT_cst, evT_var, evT_glo, evT_bin, evT_neg, evT_fld, evT_ix, evT_rev, evT_slc, evT_lst, evT_tup, evT_call, evT_make, evT_meth, evT_callv, evT_bc, evT_bm, evT_isi, evT_comp, evT_not, evT_and, evT_or, evT_cmp, evT_cmp2, evO, evC, evI, evG, evGs, permW, calN_call, calN_cs, getS_0, getS_s, Ok_ofS, tru_bl, Option.map, Bool.not_true, Bool.not_false, isiW, isOne, tyName, List.contains_cons, List.contains_nil, bin_add, bin_sub, cmp_lt, cmp_le, cmp_gt, cmp_ge, cmp_isN, cmp_isnN, bc_int, bc_abs, bc_max, bc_min, tgsL, List.length_cons, List.length_nil, List.set_cons_zero, List.set_cons_succ, at_0, at_1, at_2, ix_tup]
  exact ⟨_, _, _, _, _, _, _, _, _, _, _, _, _, _, _, _, _, rfl, S'⟩
theorem stage4 (S : St h p u o l t ks m tm e qf ct c A i) : OkS (evSs (calN pr 0 (d + 6)) T4 [some (.ref p), some (.ref u), some (.ref o), some (.int c), some A, x5, some (.int v), x7, x8, x9, x10, x11] h) { nx := Iv p u o i, rt := R, bk := K, ct := Iv p u o i } := by
  unfold T4
  rw [OkS_cons]
  unfold i4
  rw [if_way NE rfl]
  by_cases c4 : v = 4
  · rw [if_pos c4]
    unfold a4
    simp (disch := first | assumption | decide | omega | (simp only [List.length_cons, List.length_nil]; omega)) only [newL_c, newT_c, wipeS, if_true, bin_mulc, bin_fdivc, bin_mod, OkS_cons, OkS_nil, OkS_nx, OkS_rt, OkS_bk, OkS_ct, OkS_toS, Ok_bind, Ok_bindN, Ok_nx, Ok_ok, evS, evE, evEs, evT_cst, evT_var, evT_glo, evT_bin, evT_neg, evT_fld, evT_ix, evT_rev, evT_slc, evT_lst, evT_tup, evT_call, evT_make, evT_meth, evT_callv, evT_bc, evT_bm, evT_isi, evT_comp, evT_not, evT_and, evT_or, evT_cmp, evT_cmp2, evO, evC, evI, evG, evGs, permW, calN_call, calN_cs, getS_0, getS_s, Ok_ofS, tru_bl, Option.map, Bool.not_true, Bool.not_false, isiW, isOne, tyName, List.contains_cons, List.contains_nil, bin_add, bin_sub, cmp_lt, cmp_le, cmp_gt, cmp_ge, cmp_isN, cmp_isnN, bc_int, bc_abs, bc_max, bc_min, tgsL, List.length_cons, List.length_nil, List.set_cons_zero, List.set_cons_succ, at_0, at_1, at_2, ix_tup, mt10 S.U]
    obtain ⟨p1, p2, p3, p4, p5, p6, p7⟩ := S.ty
    refine copy (d := d + 4) S.U fun h1 F1 n1 V1 => ?_
    have S1 := S.fr0 F1
    obtain ⟨kvs, os, eO, D⟩ := S1.O.D
    simp (disch := first | assumption | decide | omega | (simp only [List.length_cons, List.length_nil]; omega)) only [newL_c, newT_c, wipeS, if_true, bin_mulc, bin_fdivc, bin_mod, OkS_cons, OkS_nil, OkS_nx, OkS_rt, OkS_bk, OkS_ct, OkS_toS, Ok_bind, Ok_bindN, Ok_nx, Ok_ok, evS, evE, evEs, evT_cst, evT_var, evT_glo, evT_bin, evT_neg, evT_fld, evT_ix, evT_rev, evT_slc, evT_lst, evT_tup, evT_call, evT_make, evT_meth, evT_callv, evT_bc, evT_bm, evT_isi, evT_comp, evT_not, evT_and, evT_or, evT_cmp, evT_cmp2, evO, evC, evI, evG, evGs, permW, calN_call, calN_cs, getS_0, getS_s, Ok_ofS, tru_bl, Option.map, Bool.not_true, Bool.not_false, isiW, isOne, tyName, List.contains_cons, List.contains_nil, bin_add, bin_sub, cmp_lt, cmp_le, cmp_gt, cmp_ge, cmp_isN, cmp_isnN, bc_int, bc_abs, bc_max, bc_min, tgsL, List.length_cons, List.length_nil, List.set_cons_zero, List.set_cons_succ, at_0, at_1, at_2, ix_tup, bc_dict eO]
    have F2 : Fr h (h1.push (.dic kvs)) [] := F1.trans Fr.push
    have S2 := S.fr0 F2
    have V2 := V1.fr (Fr.push (o := .dic kvs) (S := [])) (by simp) (by simp) (by simp)
    have lp := S.lp; have lu := S.U.lu; have ll := S.U.ll; have lt := S.U.lt; have lo := S.O.lo
    have nw : ∀ j, h.n ≤ j → j ∉ [p, u, o, l, t] := fun j z => by
      simp only [List.mem_cons, List.not_mem_nil, or_false, not_or]; omega
    have S3 : St (h1.push (.dic kvs)) p u o l t ks m tm e qf ct c (.tup [.ref h.n, .ref h1.n, .int c]) i :=
      { S2 with A := .inr ⟨h.n, h.n + 1, h.n + 2, h1.n, ks, m, tm, e, qf, c, rfl, V2, ⟨Nat.lt_succ_self _, kvs, os, get_push_eq, D⟩, S.rel, nw _ (Nat.le_refl _), nw _ (by omega), nw _ (by omega), nw _ (by omega)⟩ }
    exact stage5 S3
  · rw [if_neg c4]
    exact stage5 S
theorem stage3 (S : St h p u o l t ks m tm e qf ct c A i) : OkS (evSs (calN pr 0 (d + 6)) T3 [some (.ref p), some (.ref u), some (.ref o), some (.int c), some A, x5, some (.int v), x7, x8, x9, x10, x11] h) { nx := Iv p u o i, rt := R, bk := K, ct := Iv p u o i } := by
  unfold T3
  rw [OkS_cons]
  unfold i3
  rw [if_way NE rfl]
  by_cases c3 : v = 3
  · rw [if_pos c3]
    have ea : a3 = .cons (.asg (.name 7) (.call 16 (.cons (.var 0) (.cons (.cst (.int 13)) .nil)) [])) B3 := rfl
    rw [ea, OkS_cons]
    simp (disch := first | assumption | decide | omega | (simp only [List.length_cons, List.length_nil]; omega)) only [newL_c, newT_c, wipeS, if_true, bin_mulc, bin_fdivc, bin_mod, OkS_cons, OkS_nil, OkS_nx, OkS_rt, OkS_bk, OkS_ct, OkS_toS, Ok_bind, Ok_bindN, Ok_nx, Ok_ok, evS, evE, evEs, evT_cst, evT_var, evT_glo, evT_bin, evT_neg, evT_fld, evT_ix, evT_rev, evT_slc, evT_lst, evT_tup, evT_call, evT_make, evT_meth, evT_callv, evT_bc, evT_bm, evT_isi, evT_comp, evT_not, evT_and, evT_or, evT_cmp, evT_cmp2, evO, evC, evI, evG, evGs, permW, calN_call, calN_cs, getS_0, getS_s, Ok_ofS, tru_bl, Option.map, Bool.not_true, Bool.not_false, isiW, isOne, tyName, List.contains_cons, List.contains_nil, bin_add, bin_sub, cmp_lt, cmp_le, cmp_gt, cmp_ge, cmp_isN, cmp_isnN, bc_int, bc_abs, bc_max, bc_min, tgsL, List.length_cons, List.length_nil, List.set_cons_zero, List.set_cons_succ, at_0, at_1, at_2, ix_tup]
    refine S.draw (by decide) (by decide) fun r h1 r0 r1 n1 F1 S1 => ?_
    refine St.way3 S1 r0 fun h' l' t' ks' y9 y10 S' => ?_
    exact stage4 S'
  · rw [if_neg c3]
    exact stage4 S
theorem stage2 (S : St h p u o l t ks m tm e qf ct c A i) : OkS (evSs (calN pr 0 (d + 6)) T2 [some (.ref p), some (.ref u), some (.ref o), some (.int c), some A, x5, some (.int v), x7, x8, x9, x10, x11] h) { nx := Iv p u o i, rt := R, bk := K, ct := Iv p u o i } := by
  unfold T2
  rw [OkS_cons]
  unfold i2
  simp (disch := first | assumption | decide | omega | (simp only [List.length_cons, List.length_nil]; omega)) only [newL_c, newT_c, wipeS, if_true, bin_mulc, bin_fdivc, bin_mod, OkS_cons, OkS_nil, OkS_nx, OkS_rt, OkS_bk, OkS_ct, OkS_toS, Ok_bind, Ok_bindN, Ok_nx, Ok_ok, evS, evE, evEs, evT_cst, evT_var, evT_glo, evT_bin, evT_neg, evT_fld, evT_ix, evT_rev, evT_slc, evT_lst, evT_tup, evT_call, evT_make, evT_meth, evT_callv, evT_bc, evT_bm, evT_isi, evT_comp, evT_not, evT_and, evT_or, evT_cmp, evT_cmp2, evO, evC, evI, evG, evGs, permW, calN_call, calN_cs, getS_0, getS_s, Ok_ofS, tru_bl, Option.map, Bool.not_true, Bool.not_false, isiW, isOne, tyName, List.contains_cons, List.contains_nil, bin_add, bin_sub, cmp_lt, cmp_le, cmp_gt, cmp_ge, cmp_isN, cmp_isnN, bc_int, bc_abs, bc_max, bc_min, tgsL, List.length_cons, List.length_nil, List.set_cons_zero, List.set_cons_succ, at_0, at_1, at_2, ix_tup, cmp_eq NE, eqD_int]
  by_cases c2 : v = 2
  · subst c2
    simp only [beq_self_eq_true]
    simp (disch := first | assumption | decide | omega | (simp only [List.length_cons, List.length_nil]; omega)) only [newL_c, newT_c, wipeS, if_true, bin_mulc, bin_fdivc, bin_mod, OkS_cons, OkS_nil, OkS_nx, OkS_rt, OkS_bk, OkS_ct, OkS_toS, Ok_bind, Ok_bindN, Ok_nx, Ok_ok, evS, evE, evEs, evT_cst, evT_var, evT_glo, evT_bin, evT_neg, evT_fld, evT_ix, evT_rev, evT_slc, evT_lst, evT_tup, evT_call, evT_make, evT_meth, evT_callv, evT_bc, evT_bm, evT_isi, evT_comp, evT_not, evT_and, evT_or, evT_cmp, evT_cmp2, evO, evC, evI, evG, evGs, permW, calN_call, calN_cs, getS_0, getS_s, Ok_ofS, tru_bl, Option.map, Bool.not_true, Bool.not_false, isiW, isOne, tyName, List.contains_cons, List.contains_nil, bin_add, bin_sub, cmp_lt, cmp_le, cmp_gt, cmp_ge, cmp_isN, cmp_isnN, bc_int, bc_abs, bc_max, bc_min, tgsL, List.length_cons, List.length_nil, List.set_cons_zero, List.set_cons_succ, at_0, at_1, at_2, ix_tup]
    refine St.fin (d := d + 2) S fun h' l' t' ks' S' _ => ?_
    simp (disch := first | assumption | decide | omega | (simp only [List.length_cons, List.length_nil]; omega)) only [newL_c, newT_c, wipeS, if_true, bin_mulc, bin_fdivc, bin_mod, OkS_cons, OkS_nil, OkS_nx, OkS_rt, OkS_bk, OkS_ct, OkS_toS, Ok_bind, Ok_bindN, Ok_nx, Ok_ok, evS, evE, evEs, evT_cst, evT_var, evT_glo, evT_bin, evT_neg, evT_fld, evT_ix, evT_rev, evT_slc, evT_lst, evT_tup, evT_call, evT_make, evT_meth, evT_callv, evT_bc, evT_bm, evT_isi, evT_comp, evT_not, evT_and, evT_or, evT_cmp, evT_cmp2, evO, evC, evI, evG, evGs, permW, calN_call, calN_cs, getS_0, getS_s, Ok_ofS, tru_bl, Option.map, Bool.not_true, Bool.not_false, isiW, isOne, tyName, List.contains_cons, List.contains_nil, bin_add, bin_sub, cmp_lt, cmp_le, cmp_gt, cmp_ge, cmp_isN, cmp_isnN, bc_int, bc_abs, bc_max, bc_min, tgsL, List.length_cons, List.length_nil, List.set_cons_zero, List.set_cons_succ, at_0, at_1, at_2, ix_tup]
    exact stage3 S'
  · rw [beq_eq_false_iff_ne.mpr c2]
    simp (disch := first | assumption | decide | omega | (simp only [List.length_cons, List.length_nil]; omega)) only [newL_c, newT_c, wipeS, if_true, bin_mulc, bin_fdivc, bin_mod, OkS_cons, OkS_nil, OkS_nx, OkS_rt, OkS_bk, OkS_ct, OkS_toS, Ok_bind, Ok_bindN, Ok_nx, Ok_ok, evS, evE, evEs, evT_cst, evT_var, evT_glo, evT_bin, evT_neg, evT_fld, evT_ix, evT_rev, evT_slc, evT_lst, evT_tup, evT_call, evT_make, evT_meth, evT_callv, evT_bc, evT_bm, evT_isi, evT_comp, evT_not, evT_and, evT_or, evT_cmp, evT_cmp2, evO, evC, evI, evG, evGs, permW, calN_call, calN_cs, getS_0, getS_s, Ok_ofS, tru_bl, Option.map, Bool.not_true, Bool.not_false, isiW, isOne, tyName, List.contains_cons, List.contains_nil, bin_add, bin_sub, cmp_lt, cmp_le, cmp_gt, cmp_ge, cmp_isN, cmp_isnN, bc_int, bc_abs, bc_max, bc_min, tgsL, List.length_cons, List.length_nil, List.set_cons_zero, List.set_cons_succ, at_0, at_1, at_2, ix_tup]
    exact stage3 S
theorem stage1 (S : St h p u o l t ks m tm e qf ct c A i) : OkS (evSs (calN pr 0 (d + 6)) T1 [some (.ref p), some (.ref u), some (.ref o), some (.int c), some A, x5, some (.int v), x7, x8, x9, x10, x11] h) { nx := Iv p u o i, rt := R, bk := K, ct := Iv p u o i } := by
  unfold T1
  rw [OkS_cons]
  unfold i1
  rw [if_way NE rfl]
  by_cases c1 : v = 1
  · rw [if_pos c1]
    unfold a1
    simp (disch := first | assumption | decide | omega | (simp only [List.length_cons, List.length_nil]; omega)) only [newL_c, newT_c, wipeS, if_true, bin_mulc, bin_fdivc, bin_mod, OkS_cons, OkS_nil, OkS_nx, OkS_rt, OkS_bk, OkS_ct, OkS_toS, Ok_bind, Ok_bindN, Ok_nx, Ok_ok, evS, evE, evEs, evT_cst, evT_var, evT_glo, evT_bin, evT_neg, evT_fld, evT_ix, evT_rev, evT_slc, evT_lst, evT_tup, evT_call, evT_make, evT_meth, evT_callv, evT_bc, evT_bm, evT_isi, evT_comp, evT_not, evT_and, evT_or, evT_cmp, evT_cmp2, evO, evC, evI, evG, evGs, permW, calN_call, calN_cs, getS_0, getS_s, Ok_ofS, tru_bl, Option.map, Bool.not_true, Bool.not_false, isiW, isOne, tyName, List.contains_cons, List.contains_nil, bin_add, bin_sub, cmp_lt, cmp_le, cmp_gt, cmp_ge, cmp_isN, cmp_isnN, bc_int, bc_abs, bc_max, bc_min, tgsL, List.length_cons, List.length_nil, List.set_cons_zero, List.set_cons_succ, at_0, at_1, at_2, ix_tup, mt8 S.U]
    refine St.aged (d := d + 4) S fun h' m' S' => ?_
    simp (disch := first | assumption | decide | omega | (simp only [List.length_cons, List.length_nil]; omega)) only [newL_c, newT_c, wipeS, if_true, bin_mulc, bin_fdivc, bin_mod, OkS_cons, OkS_nil, OkS_nx, OkS_rt, OkS_bk, OkS_ct, OkS_toS, Ok_bind, Ok_bindN, Ok_nx, Ok_ok, evS, evE, evEs, evT_cst, evT_var, evT_glo, evT_bin, evT_neg, evT_fld, evT_ix, evT_rev, evT_slc, evT_lst, evT_tup, evT_call, evT_make, evT_meth, evT_callv, evT_bc, evT_bm, evT_isi, evT_comp, evT_not, evT_and, evT_or, evT_cmp, evT_cmp2, evO, evC, evI, evG, evGs, permW, calN_call, calN_cs, getS_0, getS_s, Ok_ofS, tru_bl, Option.map, Bool.not_true, Bool.not_false, isiW, isOne, tyName, List.contains_cons, List.contains_nil, bin_add, bin_sub, cmp_lt, cmp_le, cmp_gt, cmp_ge, cmp_isN, cmp_isnN, bc_int, bc_abs, bc_max, bc_min, tgsL, List.length_cons, List.length_nil, List.set_cons_zero, List.set_cons_succ, at_0, at_1, at_2, ix_tup, isNonW]
    exact stage2 S'
  · rw [if_neg c1]
    exact stage2 S
theorem stage0 {tn : Int} (hi : i < 50) (S : St h p u o l t ks m tm e qf ct c A i) : OkS (evSs (calN pr 0 (d + 6)) T0 [some (.ref p), some (.ref u), some (.ref o), some (.int c), some A, some (.int tn), some (.int v), x7, x8, x9, x10, x11] h) { nx := Iv p u o (i + 1), rt := R, bk := K, ct := Iv p u o (i + 1) } := by
  unfold T0
  rw [OkS_cons]
  unfold i0
  rw [if_way NE rfl]
  by_cases c0 : v = 0
  · rw [if_pos c0]
    unfold a0
    simp (disch := first | assumption | decide | omega | (simp only [List.length_cons, List.length_nil]; omega)) only [newL_c, newT_c, wipeS, if_true, bin_mulc, bin_fdivc, bin_mod, OkS_cons, OkS_nil, OkS_nx, OkS_rt, OkS_bk, OkS_ct, OkS_toS, Ok_bind, Ok_bindN, Ok_nx, Ok_ok, evS, evE, evEs, evT_cst, evT_var, evT_glo, evT_bin, evT_neg, evT_fld, evT_ix, evT_rev, evT_slc, evT_lst, evT_tup, evT_call, evT_make, evT_meth, evT_callv, evT_bc, evT_bm, evT_isi, evT_comp, evT_not, evT_and, evT_or, evT_cmp, evT_cmp2, evO, evC, evI, evG, evGs, permW, calN_call, calN_cs, getS_0, getS_s, Ok_ofS, tru_bl, Option.map, Bool.not_true, Bool.not_false, isiW, isOne, tyName, List.contains_cons, List.contains_nil, bin_add, bin_sub, cmp_lt, cmp_le, cmp_gt, cmp_ge, cmp_isN, cmp_isnN, bc_int, bc_abs, bc_max, bc_min, tgsL, List.length_cons, List.length_nil, List.set_cons_zero, List.set_cons_succ, at_0, at_1, at_2, ix_tup]
    refine S.draw (by decide) (by decide) fun r h1 r0 r1 n1 F1 S1 => ?_
    refine S1.draw (by decide) (by decide) fun r' h2 r0' r1' n2 F2 S2 => ?_
    obtain ⟨kvs, os, eO, D⟩ := S2.O.D
    simp (disch := first | assumption | decide | omega | (simp only [List.length_cons, List.length_nil]; omega)) only [newL_c, newT_c, wipeS, if_true, bin_mulc, bin_fdivc, bin_mod, OkS_cons, OkS_nil, OkS_nx, OkS_rt, OkS_bk, OkS_ct, OkS_toS, Ok_bind, Ok_bindN, Ok_nx, Ok_ok, evS, evE, evEs, evT_cst, evT_var, evT_glo, evT_bin, evT_neg, evT_fld, evT_ix, evT_rev, evT_slc, evT_lst, evT_tup, evT_call, evT_make, evT_meth, evT_callv, evT_bc, evT_bm, evT_isi, evT_comp, evT_not, evT_and, evT_or, evT_cmp, evT_cmp2, evO, evC, evI, evG, evGs, permW, calN_call, calN_cs, getS_0, getS_s, Ok_ofS, tru_bl, Option.map, Bool.not_true, Bool.not_false, isiW, isOne, tyName, List.contains_cons, List.contains_nil, bin_add, bin_sub, cmp_lt, cmp_le, cmp_gt, cmp_ge, cmp_isN, cmp_isnN, bc_int, bc_abs, bc_max, bc_min, tgsL, List.length_cons, List.length_nil, List.set_cons_zero, List.set_cons_succ, at_0, at_1, at_2, ix_tup, cmp_nin, in_dic eO D]
    by_cases hn : r ∈ ks
    · simp (disch := first | assumption | decide | omega | (simp only [List.length_cons, List.length_nil]; omega)) only [newL_c, newT_c, wipeS, if_true, bin_mulc, bin_fdivc, bin_mod, OkS_cons, OkS_nil, OkS_nx, OkS_rt, OkS_bk, OkS_ct, OkS_toS, Ok_bind, Ok_bindN, Ok_nx, Ok_ok, evS, evE, evEs, evT_cst, evT_var, evT_glo, evT_bin, evT_neg, evT_fld, evT_ix, evT_rev, evT_slc, evT_lst, evT_tup, evT_call, evT_make, evT_meth, evT_callv, evT_bc, evT_bm, evT_isi, evT_comp, evT_not, evT_and, evT_or, evT_cmp, evT_cmp2, evO, evC, evI, evG, evGs, permW, calN_call, calN_cs, getS_0, getS_s, Ok_ofS, tru_bl, Option.map, Bool.not_true, Bool.not_false, isiW, isOne, tyName, List.contains_cons, List.contains_nil, bin_add, bin_sub, cmp_lt, cmp_le, cmp_gt, cmp_ge, cmp_isN, cmp_isnN, bc_int, bc_abs, bc_max, bc_min, tgsL, List.length_cons, List.length_nil, List.set_cons_zero, List.set_cons_succ, at_0, at_1, at_2, ix_tup, decide_eq_true hn]
      exact stage1 (S2.up (Nat.le_succ _))
    · obtain ⟨p1, p2, p3, p4, p5, p6, p7⟩ := S2.ty
      have lo := S2.O.lo
      have hsz : kvs.length < sizeLine := ln S2.U D
      have eO1 : (h2.push (.lst [.int tn, .int r])).get o = some (.dic kvs) := by rw [get_push_lt lo]; exact eO
      have Fz : Fr h2 ((h2.push (.lst [.int tn, .int r])).put o (.dic (putKW kvs (.inl r) (.tup [.int (c + (1 + r')), .ref h2.n])))) [o] := Fr.push.trans (Fr.put (by simp))
      have U3 := S2.U.fr Fz (by simpa using p5) (by simpa using S2.ol.symm) (by simpa using S2.ot.symm)
      simp (disch := first | assumption | decide | omega | (simp only [List.length_cons, List.length_nil]; omega)) only [newL_c, newT_c, wipeS, if_true, bin_mulc, bin_fdivc, bin_mod, OkS_cons, OkS_nil, OkS_nx, OkS_rt, OkS_bk, OkS_ct, OkS_toS, Ok_bind, Ok_bindN, Ok_nx, Ok_ok, evS, evE, evEs, evT_cst, evT_var, evT_glo, evT_bin, evT_neg, evT_fld, evT_ix, evT_rev, evT_slc, evT_lst, evT_tup, evT_call, evT_make, evT_meth, evT_callv, evT_bc, evT_bm, evT_isi, evT_comp, evT_not, evT_and, evT_or, evT_cmp, evT_cmp2, evO, evC, evI, evG, evGs, permW, calN_call, calN_cs, getS_0, getS_s, Ok_ofS, tru_bl, Option.map, Bool.not_true, Bool.not_false, isiW, isOne, tyName, List.contains_cons, List.contains_nil, bin_add, bin_sub, cmp_lt, cmp_le, cmp_gt, cmp_ge, cmp_isN, cmp_isnN, bc_int, bc_abs, bc_max, bc_min, tgsL, List.length_cons, List.length_nil, List.set_cons_zero, List.set_cons_succ, at_0, at_1, at_2, ix_tup, decide_eq_false hn, set_dic eO1 hsz, mt7 U3]
      refine St.way0 (d := d + 2) S2 r0 hn hi (by omega) (by omega) eO fun h' ks' m' tm' e' qf' ct' S' => ?_
      simp (disch := first | assumption | decide | omega | (simp only [List.length_cons, List.length_nil]; omega)) only [newL_c, newT_c, wipeS, if_true, bin_mulc, bin_fdivc, bin_mod, OkS_cons, OkS_nil, OkS_nx, OkS_rt, OkS_bk, OkS_ct, OkS_toS, Ok_bind, Ok_bindN, Ok_nx, Ok_ok, evS, evE, evEs, evT_cst, evT_var, evT_glo, evT_bin, evT_neg, evT_fld, evT_ix, evT_rev, evT_slc, evT_lst, evT_tup, evT_call, evT_make, evT_meth, evT_callv, evT_bc, evT_bm, evT_isi, evT_comp, evT_not, evT_and, evT_or, evT_cmp, evT_cmp2, evO, evC, evI, evG, evGs, permW, calN_call, calN_cs, getS_0, getS_s, Ok_ofS, tru_bl, Option.map, Bool.not_true, Bool.not_false, isiW, isOne, tyName, List.contains_cons, List.contains_nil, bin_add, bin_sub, cmp_lt, cmp_le, cmp_gt, cmp_ge, cmp_isN, cmp_isnN, bc_int, bc_abs, bc_max, bc_min, tgsL, List.length_cons, List.length_nil, List.set_cons_zero, List.set_cons_succ, at_0, at_1, at_2, ix_tup, isNonW]
      exact stage1 S'
  · rw [if_neg c0]
    exact stage1 (S.up (Nat.le_succ _))
theorem body {tn : Int} {x6 : Option W} (hi : i < 50) (S : St h p u o l t ks m tm e qf ct c A i) : OkS (evSs (calN pr 0 (d + 6)) B [some (.ref p), some (.ref u), some (.ref o), some (.int c), some A, some (.int tn), x6, x7, x8, x9, x10, x11] h) { nx := Iv p u o (i + 1), rt := R, bk := K, ct := Iv p u o (i + 1) } := by
  unfold B w0
  have S1 := S.fr0 (Fr.push (o := .lst (xs.map .int)))
  obtain ⟨a, b, hp, hb⟩ := S1.P
  have lp := S.lp
  simp (disch := first | assumption | decide | omega | (simp only [List.length_cons, List.length_nil]; omega)) only [newL_c, newT_c, wipeS, if_true, bin_mulc, bin_fdivc, bin_mod, OkS_cons, OkS_nil, OkS_nx, OkS_rt, OkS_bk, OkS_ct, OkS_toS, Ok_bind, Ok_bindN, Ok_nx, Ok_ok, evS, evE, evEs, evT_cst, evT_var, evT_glo, evT_bin, evT_neg, evT_fld, evT_ix, evT_rev, evT_slc, evT_lst, evT_tup, evT_call, evT_make, evT_meth, evT_callv, evT_bc, evT_bm, evT_isi, evT_comp, evT_not, evT_and, evT_or, evT_cmp, evT_cmp2, evO, evC, evI, evG, evGs, permW, calN_call, calN_cs, getS_0, getS_s, Ok_ofS, tru_bl, Option.map, Bool.not_true, Bool.not_false, isiW, isOne, tyName, List.contains_cons, List.contains_nil, bin_add, bin_sub, cmp_lt, cmp_le, cmp_gt, cmp_ge, cmp_isN, cmp_isnN, bc_int, bc_abs, bc_max, bc_min, tgsL, List.length_cons, List.length_nil, List.set_cons_zero, List.set_cons_succ, at_0, at_1, at_2, ix_tup]
  refine pick (d := d + 4) (xs := xs) hp get_push_eq (by omega) hb (by decide) (by decide) fun v a' b' hv hb' => ?_
  exact stage0 hi (S1.put hb')
end
end
end Lawk73

set_option Elab.async false
set_option linter.all false
set_option maxRecDepth 100000
set_option maxHeartbeats 4000000
namespace Lawk73
open PySem PySem.Spec Mi
def r1 : Mi.S := .ifS (.andE (.cmp .isn (.var 4) (.cst .non)) (.notE (.call 18 (.cons (.ix (.var 4) (.cst (.int 0))) (.cons (.ix (.var 4) (.cst (.int 1))) (.cons (.ix (.var 4) (.cst (.int 2))) .nil))) []))) (.cons (.ret (.cst (.bl false))) .nil) .nil
def r2 : Mi.S := .forS (.name 5) (.rng1 (.cst (.int 7))) (.cons (.expr (.meth (.var 1) 8 .nil [])) .nil)
def r3 : Mi.S := .asg (.name 11) (.comp (.meth (.var 1) 6 .nil []) (.name 7) (.seq (.bc .sorted1 (.cons (.var 2) .nil))) .none [7])
def r4 : Mi.S := .ret (.andE (.cmp .eq (.var 11) (.comp (.tup (.cons (.var 7) (.cons (.ix (.ix (.var 2) (.var 7)) (.cst (.int 1))) .nil))) (.name 7) (.seq (.bc .sorted1 (.cons (.var 2) .nil))) .none [7])) (.cmp .is (.meth (.var 1) 6 .nil []) (.cst .non)))
def R4 : Ss := .cons r4 .nil
def R3 : Ss := .cons r3 R4
def R2 : Ss := .cons r2 R3
def R1 : Ss := .cons r1 R2
section
variable {d : Nat} {h : Hh} {p u o i l t : Nat} {ks : List Int} {m : Int → Int} {tm : Int → W} {e : Int → Int} {qf : Int → Nat} {ct : Int → Int} {c : Int} {A : W} {x3 x4 x5 x6 x7 x8 x9 x10 x11 : Option W} {nx bk cc : Sl → Hh → Prop} {R : W → Hh → Prop}
theorem rest4 {tw : Nat} {l' t' : Nat} (U : Un h u l' t' [] m tm) (O : Ow h o ks e qf) (nd : ks.Nodup) (srt : ks.Pairwise (· ≤ ·)) (sm : ks.length < 64) (C : Ct h p ks tm qf ct) (ltw : tw < h.n) (et : h.get tw = some (.lst (ks.map fun k => .tup [.int k, tm k]))) (q : ∀ h', R (.bl true) h') :
    OkS (evSs (calN pr 0 (d + 6)) R4 [some (.ref p), some (.ref u), some (.ref o), x3, x4, x5, x6, x7, x8, x9, x10, some (.ref tw)] h) { nx := nx, rt := R, bk := bk, ct := cc } := by
  unfold R4 r4
  obtain ⟨kvs, os, eO, D⟩ := O.D
  have hl := di_len D nd
  have lo := O.lo
  have hz : (ks.map W.int).length ≤ sizeLine := by rw [List.length_map, sizeLine_eq]; omega
  simp (disch := first | assumption | decide | omega | (simp only [List.length_cons, List.length_nil]; omega)) only [newL_c, newT_c, wipeS, if_true, bin_mulc, bin_fdivc, bin_mod, OkS_cons, OkS_nil, OkS_nx, OkS_rt, OkS_bk, OkS_ct, OkS_toS, Ok_bind, Ok_bindN, Ok_nx, Ok_ok, evS, evE, evEs, evT_cst, evT_var, evT_glo, evT_bin, evT_neg, evT_fld, evT_ix, evT_rev, evT_slc, evT_lst, evT_tup, evT_call, evT_make, evT_meth, evT_callv, evT_bc, evT_bm, evT_isi, evT_comp, evT_not, evT_and, evT_or, evT_cmp, evT_cmp2, evO, evC, evI, evG, evGs, permW, calN_call, calN_cs, getS_0, getS_s, Ok_ofS, tru_bl, Option.map, Bool.not_true, Bool.not_false, isiW, isOne, tyName, List.contains_cons, List.contains_nil, bin_add, bin_sub, cmp_lt, cmp_le, cmp_gt, cmp_ge, cmp_isN, cmp_isnN, bc_int, bc_abs, bc_max, bc_min, tgsL, List.length_cons, List.length_nil, List.set_cons_zero, List.set_cons_succ, at_0, at_1, at_2, ix_tup, bc_sortD eO D.keysI (show os.length < 64 by omega)]
  rw [di_sort D nd srt]
  obtain ⟨h1, eh⟩ : ∃ h1, h1 = h.push (.lst (ks.map W.int)) := ⟨_, rfl⟩
  have F1 : Fr h h1 [] := eh ▸ Fr.push
  have g1 : h1.get h.n = some (.lst (ks.map W.int)) := by rw [eh]; exact get_push_eq
  have nn1 : h1.n = h.n + 1 := by rw [eh]; rfl
  rw [← eh]
  simp (disch := first | assumption | decide | omega | (simp only [List.length_cons, List.length_nil]; omega)) only [newL_c, newT_c, wipeS, if_true, bin_mulc, bin_fdivc, bin_mod, OkS_cons, OkS_nil, OkS_nx, OkS_rt, OkS_bk, OkS_ct, OkS_toS, Ok_bind, Ok_bindN, Ok_nx, Ok_ok, evS, evE, evEs, evT_cst, evT_var, evT_glo, evT_bin, evT_neg, evT_fld, evT_ix, evT_rev, evT_slc, evT_lst, evT_tup, evT_call, evT_make, evT_meth, evT_callv, evT_bc, evT_bm, evT_isi, evT_comp, evT_not, evT_and, evT_or, evT_cmp, evT_cmp2, evO, evC, evI, evG, evGs, permW, calN_call, calN_cs, getS_0, getS_s, Ok_ofS, tru_bl, Option.map, Bool.not_true, Bool.not_false, isiW, isOne, tyName, List.contains_cons, List.contains_nil, bin_add, bin_sub, cmp_lt, cmp_le, cmp_gt, cmp_ge, cmp_isN, cmp_isnN, bc_int, bc_abs, bc_max, bc_min, tgsL, List.length_cons, List.length_nil, List.set_cons_zero, List.set_cons_succ, at_0, at_1, at_2, ix_tup, seq_lst g1]
  refine comp_pure (fmM fun k => .tup [.int k, .ref (qf k)]) g1 (by omega) hz (fun w hw h' F => ?_) fun h2 F2 n2 e2 => ?_
  · obtain ⟨k, hk, rfl⟩ := List.mem_map.mp hw
    have eO' := (F1.trans F).get eO lo (by simp)
    simp (disch := first | assumption | decide | omega | (simp only [List.length_cons, List.length_nil]; omega)) only [newL_c, newT_c, wipeS, if_true, bin_mulc, bin_fdivc, bin_mod, OkS_cons, OkS_nil, OkS_nx, OkS_rt, OkS_bk, OkS_ct, OkS_toS, Ok_bind, Ok_bindN, Ok_nx, Ok_ok, evS, evE, evEs, evT_cst, evT_var, evT_glo, evT_bin, evT_neg, evT_fld, evT_ix, evT_rev, evT_slc, evT_lst, evT_tup, evT_call, evT_make, evT_meth, evT_callv, evT_bc, evT_bm, evT_isi, evT_comp, evT_not, evT_and, evT_or, evT_cmp, evT_cmp2, evO, evC, evI, evG, evGs, permW, calN_call, calN_cs, getS_0, getS_s, Ok_ofS, tru_bl, Option.map, Bool.not_true, Bool.not_false, isiW, isOne, tyName, List.contains_cons, List.contains_nil, bin_add, bin_sub, cmp_lt, cmp_le, cmp_gt, cmp_ge, cmp_isN, cmp_isnN, bc_int, bc_abs, bc_max, bc_min, tgsL, List.length_cons, List.length_nil, List.set_cons_zero, List.set_cons_succ, at_0, at_1, at_2, ix_tup, ix_dic eO', D.val, if_pos hk]
    exact ⟨trivial, trivial, trivial, rfl⟩
  · rw [fm_map] at e2
    have Fh : Fr h h2 [] := F1.trans F2
    have et2 := Fh.get et ltw (by simp)
    have C2 := C.fr Fh (by simp) (fun _ z => z)
    have E : eqData (.ref tw) (.ref h1.n) h2 = some true := eqD_pairs (ct := ct) et2 e2 (fun k hk => by
      obtain ⟨_, q2, b0, _, _, b3⟩ := C2 k hk
      exact ⟨q2, by rw [b0], b3⟩) (fun k hk => ⟨qf k, rfl, (C2 k hk).1.2.2⟩)
    have U2 := U.fr Fh (by simp) (by simp) (by simp)
    simp (disch := first | assumption | decide | omega | (simp only [List.length_cons, List.length_nil]; omega)) only [newL_c, newT_c, wipeS, if_true, bin_mulc, bin_fdivc, bin_mod, OkS_cons, OkS_nil, OkS_nx, OkS_rt, OkS_bk, OkS_ct, OkS_toS, Ok_bind, Ok_bindN, Ok_nx, Ok_ok, evS, evE, evEs, evT_cst, evT_var, evT_glo, evT_bin, evT_neg, evT_fld, evT_ix, evT_rev, evT_slc, evT_lst, evT_tup, evT_call, evT_make, evT_meth, evT_callv, evT_bc, evT_bm, evT_isi, evT_comp, evT_not, evT_and, evT_or, evT_cmp, evT_cmp2, evO, evC, evI, evG, evGs, permW, calN_call, calN_cs, getS_0, getS_s, Ok_ofS, tru_bl, Option.map, Bool.not_true, Bool.not_false, isiW, isOne, tyName, List.contains_cons, List.contains_nil, bin_add, bin_sub, cmp_lt, cmp_le, cmp_gt, cmp_ge, cmp_isN, cmp_isnN, bc_int, bc_abs, bc_max, bc_min, tgsL, List.length_cons, List.length_nil, List.set_cons_zero, List.set_cons_succ, at_0, at_1, at_2, ix_tup, cmp_eq NE, E, mt6 U2]
    refine finished0 (d := d + 3) U2 rfl fun h' _ => ?_
    simp (disch := first | assumption | decide | omega | (simp only [List.length_cons, List.length_nil]; omega)) only [newL_c, newT_c, wipeS, if_true, bin_mulc, bin_fdivc, bin_mod, OkS_cons, OkS_nil, OkS_nx, OkS_rt, OkS_bk, OkS_ct, OkS_toS, Ok_bind, Ok_bindN, Ok_nx, Ok_ok, evS, evE, evEs, evT_cst, evT_var, evT_glo, evT_bin, evT_neg, evT_fld, evT_ix, evT_rev, evT_slc, evT_lst, evT_tup, evT_call, evT_make, evT_meth, evT_callv, evT_bc, evT_bm, evT_isi, evT_comp, evT_not, evT_and, evT_or, evT_cmp, evT_cmp2, evO, evC, evI, evG, evGs, permW, calN_call, calN_cs, getS_0, getS_s, Ok_ofS, tru_bl, Option.map, Bool.not_true, Bool.not_false, isiW, isOne, tyName, List.contains_cons, List.contains_nil, bin_add, bin_sub, cmp_lt, cmp_le, cmp_gt, cmp_ge, cmp_isN, cmp_isnN, bc_int, bc_abs, bc_max, bc_min, tgsL, List.length_cons, List.length_nil, List.set_cons_zero, List.set_cons_succ, at_0, at_1, at_2, ix_tup, isNonW]
    exact q h'
theorem rest3 (S : St h p u o l t ks m tm e qf ct c A i) (z : ∀ k ∈ ks, m k = 0) (q : ∀ h', R (.bl true) h') :
    OkS (evSs (calN pr 0 (d + 6)) R3 [some (.ref p), some (.ref u), some (.ref o), x3, x4, x5, x6, x7, x8, x9, x10, x11] h) { nx := nx, rt := R, bk := bk, ct := cc } := by
  obtain ⟨p1, p2, p3, p4, p5, p6, p7⟩ := S.ty
  unfold R3
  rw [OkS_cons]
  unfold r3
  obtain ⟨kvs, os, eO, D⟩ := S.O.D
  have U := S.U
  have hl := di_len D U.nd
  have lo := S.O.lo
  have sm := U.sm
  have lu := U.lu
  have hz : (ks.map W.int).length ≤ sizeLine := by rw [List.length_map, sizeLine_eq]; omega
  simp (disch := first | assumption | decide | omega | (simp only [List.length_cons, List.length_nil]; omega)) only [newL_c, newT_c, wipeS, if_true, bin_mulc, bin_fdivc, bin_mod, OkS_cons, OkS_nil, OkS_nx, OkS_rt, OkS_bk, OkS_ct, OkS_toS, Ok_bind, Ok_bindN, Ok_nx, Ok_ok, evS, evE, evEs, evT_cst, evT_var, evT_glo, evT_bin, evT_neg, evT_fld, evT_ix, evT_rev, evT_slc, evT_lst, evT_tup, evT_call, evT_make, evT_meth, evT_callv, evT_bc, evT_bm, evT_isi, evT_comp, evT_not, evT_and, evT_or, evT_cmp, evT_cmp2, evO, evC, evI, evG, evGs, permW, calN_call, calN_cs, getS_0, getS_s, Ok_ofS, tru_bl, Option.map, Bool.not_true, Bool.not_false, isiW, isOne, tyName, List.contains_cons, List.contains_nil, bin_add, bin_sub, cmp_lt, cmp_le, cmp_gt, cmp_ge, cmp_isN, cmp_isnN, bc_int, bc_abs, bc_max, bc_min, tgsL, List.length_cons, List.length_nil, List.set_cons_zero, List.set_cons_succ, at_0, at_1, at_2, ix_tup, bc_sortD eO D.keysI (show os.length < 64 by omega)]
  rw [di_sort D U.nd U.srt]
  obtain ⟨h1, eh⟩ : ∃ h1, h1 = h.push (.lst (ks.map W.int)) := ⟨_, rfl⟩
  have F1 : Fr h h1 [] := eh ▸ Fr.push
  have g1 : h1.get h.n = some (.lst (ks.map W.int)) := by rw [eh]; exact get_push_eq
  have nn1 : h1.n = h.n + 1 := by rw [eh]; rfl
  rw [← eh]
  simp (disch := first | assumption | decide | omega | (simp only [List.length_cons, List.length_nil]; omega)) only [newL_c, newT_c, wipeS, if_true, bin_mulc, bin_fdivc, bin_mod, OkS_cons, OkS_nil, OkS_nx, OkS_rt, OkS_bk, OkS_ct, OkS_toS, Ok_bind, Ok_bindN, Ok_nx, Ok_ok, evS, evE, evEs, evT_cst, evT_var, evT_glo, evT_bin, evT_neg, evT_fld, evT_ix, evT_rev, evT_slc, evT_lst, evT_tup, evT_call, evT_make, evT_meth, evT_callv, evT_bc, evT_bm, evT_isi, evT_comp, evT_not, evT_and, evT_or, evT_cmp, evT_cmp2, evO, evC, evI, evG, evGs, permW, calN_call, calN_cs, getS_0, getS_s, Ok_ofS, tru_bl, Option.map, Bool.not_true, Bool.not_false, isiW, isOne, tyName, List.contains_cons, List.contains_nil, bin_add, bin_sub, cmp_lt, cmp_le, cmp_gt, cmp_ge, cmp_isN, cmp_isnN, bc_int, bc_abs, bc_max, bc_min, tgsL, List.length_cons, List.length_nil, List.set_cons_zero, List.set_cons_succ, at_0, at_1, at_2, ix_tup, seq_lst g1]
  refine comp_lst (ks.map W.int) (fun j acc h' => Fr h h' [u] ∧ h1.n + 1 ≤ h'.n ∧ h'.get h.n = some (.lst (ks.map W.int)) ∧ h'.get h1.n = some (.lst acc) ∧ acc = (ks.take j).map (fun k => .tup [.int k, tm k]) ∧ ∃ l' t', Un h' u l' t' (ks.drop j) m tm)
    ⟨(F1.mono (by simp)).trans Fr.push, Nat.le_refl _, by rw [get_push_lt (by omega)]; exact g1, get_push_eq, rfl, l, t, (U.fr F1 (by simp) (by simp) (by simp)).fr (Fr.push (S := [])) (by simp) (by simp) (by simp)⟩ (fun j acc h' iv => iv.2.2.1) (fun j acc h' w ew iv => ?_) (fun acc h' iv => ?_) (fuel_seq g1)
  · obtain ⟨F, hn, e2, e3, ha, l', t', U'⟩ := iv
    obtain ⟨k, ek, rfl⟩ := im ew
    have lt : j < ks.length := (List.getElem?_eq_some_iff.mp ek).1
    have dk : ks.drop j = k :: ks.drop (j + 1) := by
      have := List.drop_eq_getElem_cons lt
      rw [this, (List.getElem?_eq_some_iff.mp ek).2]
    have en : ends (ks.drop j) m = k :: ks.drop (j + 1) := by
      unfold ends
      rw [List.filter_eq_self.mpr (fun x hx => by rw [z x (List.mem_of_mem_drop hx)]; rfl)]
      exact dk
    simp (disch := first | assumption | decide | omega | (simp only [List.length_cons, List.length_nil]; omega)) only [newL_c, newT_c, wipeS, if_true, bin_mulc, bin_fdivc, bin_mod, OkS_cons, OkS_nil, OkS_nx, OkS_rt, OkS_bk, OkS_ct, OkS_toS, Ok_bind, Ok_bindN, Ok_nx, Ok_ok, evS, evE, evEs, evT_cst, evT_var, evT_glo, evT_bin, evT_neg, evT_fld, evT_ix, evT_rev, evT_slc, evT_lst, evT_tup, evT_call, evT_make, evT_meth, evT_callv, evT_bc, evT_bm, evT_isi, evT_comp, evT_not, evT_and, evT_or, evT_cmp, evT_cmp2, evO, evC, evI, evG, evGs, permW, calN_call, calN_cs, getS_0, getS_s, Ok_ofS, tru_bl, Option.map, Bool.not_true, Bool.not_false, isiW, isOne, tyName, List.contains_cons, List.contains_nil, bin_add, bin_sub, cmp_lt, cmp_le, cmp_gt, cmp_ge, cmp_isN, cmp_isnN, bc_int, bc_abs, bc_max, bc_min, tgsL, List.length_cons, List.length_nil, List.set_cons_zero, List.set_cons_succ, at_0, at_1, at_2, ix_tup, mt6 U', if_true]
    refine finished1 (d := d + 3) U' en fun h3 l3 t3 F3 hl3 ht3 U3 => ?_
    have le3 := F3.le
    refine ⟨F3.get e3 (by omega) (by simp; omega), ?_, (F.trans F3).putN (by omega), by show h1.n + 1 ≤ h3.n; omega, by rw [get_put_ne (by omega)]; exact F3.get e2 (by omega) (by simp; omega), get_put_eq, by rw [ha, tk ek]; simp, l3, t3, ?_⟩
    · rw [ha, sizeLine_eq]; simp; omega
    · have ff : (ks.drop j).filter (fun x => decide (x ≠ k)) = ks.drop (j + 1) := by
        rw [dk]
        have nd : (k :: ks.drop (j + 1)).Nodup := dk ▸ (U.nd.sublist (List.drop_sublist _ _))
        rw [List.filter_cons, if_neg (by simp)]
        exact List.filter_eq_self.mpr fun x hx => by
          simp; rintro rfl; exact (List.nodup_cons.mp nd).1 hx
      rw [ff] at U3
      have := U'.lu
      exact U3.fr (Fr.put (S := [h1.n]) (by simp)) (by simp; omega) (by simp; omega) (by simp; omega)
  · obtain ⟨F, hn, e2, e3, ha, l', t', U'⟩ := iv
    rw [List.length_map, List.take_length] at ha
    rw [List.length_map, List.drop_length] at U'
    subst ha
    exact rest4 (p := p) U' (S.O.fr F (by simpa using p5.symm)) U.nd U.srt sm (S.C.fr F (fun j hj => by
      simp at hj; subst hj
      right
      intro ws w
      have := S.U.hu
      rw [this] at w; cases w) (fun _ z => z)) (by omega) e3 q
theorem rest2 (S : St h p u o l t ks m tm e qf ct c A i) (q : ∀ h', R (.bl true) h') :
    OkS (evSs (calN pr 0 (d + 6)) R2 [some (.ref p), some (.ref u), some (.ref o), some (.int c), x4, x5, x6, x7, x8, x9, x10, x11] h) { nx := nx, rt := R, bk := bk, ct := cc } := by
  unfold R2
  rw [OkS_cons]
  unfold r2
  have h7 : rngJ 0 7 h = .ok (.rng 0 7) h := rngJ_c (by decide)
  simp (disch := first | assumption | decide | omega | (simp only [List.length_cons, List.length_nil]; omega)) only [newL_c, newT_c, wipeS, if_true, bin_mulc, bin_fdivc, bin_mod, OkS_cons, OkS_nil, OkS_nx, OkS_rt, OkS_bk, OkS_ct, OkS_toS, Ok_bind, Ok_bindN, Ok_nx, Ok_ok, evS, evE, evEs, evT_cst, evT_var, evT_glo, evT_bin, evT_neg, evT_fld, evT_ix, evT_rev, evT_slc, evT_lst, evT_tup, evT_call, evT_make, evT_meth, evT_callv, evT_bc, evT_bm, evT_isi, evT_comp, evT_not, evT_and, evT_or, evT_cmp, evT_cmp2, evO, evC, evI, evG, evGs, permW, calN_call, calN_cs, getS_0, getS_s, Ok_ofS, tru_bl, Option.map, Bool.not_true, Bool.not_false, isiW, isOne, tyName, List.contains_cons, List.contains_nil, bin_add, bin_sub, cmp_lt, cmp_le, cmp_gt, cmp_ge, cmp_isN, cmp_isnN, bc_int, bc_abs, bc_max, bc_min, tgsL, List.length_cons, List.length_nil, List.set_cons_zero, List.set_cons_succ, at_0, at_1, at_2, ix_tup, h7]
  refine for_rng (fun j s h' => (∃ y, s = [some (.ref p), some (.ref u), some (.ref o), some (.int c), x4, y, x6, x7, x8, x9, x10, x11]) ∧ ∃ m', St h' p u o l t ks m' tm e qf ct (c + (j : Nat)) A i) ⟨⟨_, rfl⟩, m, by simpa using S⟩ (fun j s h' lt iv => ?_) (fun s h' iv => ?_)
  · obtain ⟨⟨y, rfl⟩, m', S'⟩ := iv
    simp (disch := first | assumption | decide | omega | (simp only [List.length_cons, List.length_nil]; omega)) only [newL_c, newT_c, wipeS, if_true, bin_mulc, bin_fdivc, bin_mod, OkS_cons, OkS_nil, OkS_nx, OkS_rt, OkS_bk, OkS_ct, OkS_toS, Ok_bind, Ok_bindN, Ok_nx, Ok_ok, evS, evE, evEs, evT_cst, evT_var, evT_glo, evT_bin, evT_neg, evT_fld, evT_ix, evT_rev, evT_slc, evT_lst, evT_tup, evT_call, evT_make, evT_meth, evT_callv, evT_bc, evT_bm, evT_isi, evT_comp, evT_not, evT_and, evT_or, evT_cmp, evT_cmp2, evO, evC, evI, evG, evGs, permW, calN_call, calN_cs, getS_0, getS_s, Ok_ofS, tru_bl, Option.map, Bool.not_true, Bool.not_false, isiW, isOne, tyName, List.contains_cons, List.contains_nil, bin_add, bin_sub, cmp_lt, cmp_le, cmp_gt, cmp_ge, cmp_isN, cmp_isnN, bc_int, bc_abs, bc_max, bc_min, tgsL, List.length_cons, List.length_nil, List.set_cons_zero, List.set_cons_succ, at_0, at_1, at_2, ix_tup, mt8 S'.U]
    refine St.aged (d := d + 4) S' fun h2 m2 S2 => ?_
    refine ⟨⟨_, rfl⟩, m2, ?_⟩
    have : c + ((j : Nat) : Int) + 1 = c + ((j + 1 : Nat) : Int) := by omega
    rw [this] at S2
    exact S2
  · obtain ⟨⟨y, rfl⟩, m', S'⟩ := iv
    have hz : ∀ k ∈ ks, m' k = 0 := fun k hk => by
      rw [S'.rel k hk]
      have := S.bnd k hk
      unfold mx
      split <;> omega
    exact rest3 S' hz q
theorem rest1 (S : St h p u o l t ks m tm e qf ct c A i) (q : ∀ h', R (.bl true) h') :
    OkS (evSs (calN pr 0 (d + 6)) R1 [some (.ref p), some (.ref u), some (.ref o), some (.int c), some A, x5, x6, x7, x8, x9, x10, x11] h) { nx := nx, rt := R, bk := bk, ct := cc } := by
  unfold R1
  rw [OkS_cons]
  unfold r1
  rcases S.A with a | ⟨u2, l2, t2, o2, ks2, m2, tm2, e2, qf2, c2, a, U, O, rel, n1, n2, n3, n4⟩
  · subst a
    simp (disch := first | assumption | decide | omega | (simp only [List.length_cons, List.length_nil]; omega)) only [newL_c, newT_c, wipeS, if_true, bin_mulc, bin_fdivc, bin_mod, OkS_cons, OkS_nil, OkS_nx, OkS_rt, OkS_bk, OkS_ct, OkS_toS, Ok_bind, Ok_bindN, Ok_nx, Ok_ok, evS, evE, evEs, evT_cst, evT_var, evT_glo, evT_bin, evT_neg, evT_fld, evT_ix, evT_rev, evT_slc, evT_lst, evT_tup, evT_call, evT_make, evT_meth, evT_callv, evT_bc, evT_bm, evT_isi, evT_comp, evT_not, evT_and, evT_or, evT_cmp, evT_cmp2, evO, evC, evI, evG, evGs, permW, calN_call, calN_cs, getS_0, getS_s, Ok_ofS, tru_bl, Option.map, Bool.not_true, Bool.not_false, isiW, isOne, tyName, List.contains_cons, List.contains_nil, bin_add, bin_sub, cmp_lt, cmp_le, cmp_gt, cmp_ge, cmp_isN, cmp_isnN, bc_int, bc_abs, bc_max, bc_min, tgsL, List.length_cons, List.length_nil, List.set_cons_zero, List.set_cons_succ, at_0, at_1, at_2, ix_tup, isNonW]
    exact rest2 S q
  · subst a
    simp (disch := first | assumption | decide | omega | (simp only [List.length_cons, List.length_nil]; omega)) only [newL_c, newT_c, wipeS, if_true, bin_mulc, bin_fdivc, bin_mod, OkS_cons, OkS_nil, OkS_nx, OkS_rt, OkS_bk, OkS_ct, OkS_toS, Ok_bind, Ok_bindN, Ok_nx, Ok_ok, evS, evE, evEs, evT_cst, evT_var, evT_glo, evT_bin, evT_neg, evT_fld, evT_ix, evT_rev, evT_slc, evT_lst, evT_tup, evT_call, evT_make, evT_meth, evT_callv, evT_bc, evT_bm, evT_isi, evT_comp, evT_not, evT_and, evT_or, evT_cmp, evT_cmp2, evO, evC, evI, evG, evGs, permW, calN_call, calN_cs, getS_0, getS_s, Ok_ofS, tru_bl, Option.map, Bool.not_true, Bool.not_false, isiW, isOne, tyName, List.contains_cons, List.contains_nil, bin_add, bin_sub, cmp_lt, cmp_le, cmp_gt, cmp_ge, cmp_isN, cmp_isnN, bc_int, bc_abs, bc_max, bc_min, tgsL, List.length_cons, List.length_nil, List.set_cons_zero, List.set_cons_succ, at_0, at_1, at_2, ix_tup, isNonW]
    refine seen (d := d + 1) U O rel fun h' F => ?_
    simp (disch := first | assumption | decide | omega | (simp only [List.length_cons, List.length_nil]; omega)) only [newL_c, newT_c, wipeS, if_true, bin_mulc, bin_fdivc, bin_mod, OkS_cons, OkS_nil, OkS_nx, OkS_rt, OkS_bk, OkS_ct, OkS_toS, Ok_bind, Ok_bindN, Ok_nx, Ok_ok, evS, evE, evEs, evT_cst, evT_var, evT_glo, evT_bin, evT_neg, evT_fld, evT_ix, evT_rev, evT_slc, evT_lst, evT_tup, evT_call, evT_make, evT_meth, evT_callv, evT_bc, evT_bm, evT_isi, evT_comp, evT_not, evT_and, evT_or, evT_cmp, evT_cmp2, evO, evC, evI, evG, evGs, permW, calN_call, calN_cs, getS_0, getS_s, Ok_ofS, tru_bl, Option.map, Bool.not_true, Bool.not_false, isiW, isOne, tyName, List.contains_cons, List.contains_nil, bin_add, bin_sub, cmp_lt, cmp_le, cmp_gt, cmp_ge, cmp_isN, cmp_isnN, bc_int, bc_abs, bc_max, bc_min, tgsL, List.length_cons, List.length_nil, List.set_cons_zero, List.set_cons_succ, at_0, at_1, at_2, ix_tup]
    exact rest2 (S.fr0 F) q
def r0 : Mi.S := .asg (.tup (.cons (.name 1) (.cons (.name 2) (.cons (.name 3) (.cons (.name 4) .nil))))) (.tup (.cons (.make 0 .nil []) (.cons .dic0 (.cons (.cst (.int 0)) (.cons (.cst .non) .nil)))))
def rl : Mi.S := .forS (.name 5) (.rng1 (.bin .add (.cst (.int 14)) (.call 16 (.cons (.var 0) (.cons (.cst (.int 21)) .nil)) []))) B
theorem b20_is : b20 = .cons r0 (.cons rl R1) := rfl
theorem right {a b : Int} (hp : h.get p = some (.lst [.int a, .int b])) (hb : PotB b) (lp : p < h.n) : Ok (callN pr 0 (d + 7) 20 [.ref p] h) fun w _ => w = .bl true := by
  rw [Ok_call ⟨1, 12, b20⟩ [some (.ref p), none, none, none, none, none, none, none, none, none, none, none] rfl rfl rfl]
  show OkS (evSs _ b20 _ _) _
  rw [b20_is, OkS_cons]
  unfold r0
  simp (disch := first | assumption | decide | omega | (simp only [List.length_cons, List.length_nil]; omega)) only [newL_c, newT_c, wipeS, if_true, bin_mulc, bin_fdivc, bin_mod, OkS_cons, OkS_nil, OkS_nx, OkS_rt, OkS_bk, OkS_ct, OkS_toS, Ok_bind, Ok_bindN, Ok_nx, Ok_ok, evS, evE, evEs, evT_cst, evT_var, evT_glo, evT_bin, evT_neg, evT_fld, evT_ix, evT_rev, evT_slc, evT_lst, evT_tup, evT_call, evT_make, evT_meth, evT_callv, evT_bc, evT_bm, evT_isi, evT_comp, evT_not, evT_and, evT_or, evT_cmp, evT_cmp2, evO, evC, evI, evG, evGs, permW, calN_call, calN_cs, getS_0, getS_s, Ok_ofS, tru_bl, Option.map, Bool.not_true, Bool.not_false, isiW, isOne, tyName, List.contains_cons, List.contains_nil, bin_add, bin_sub, cmp_lt, cmp_le, cmp_gt, cmp_ge, cmp_isN, cmp_isnN, bc_int, bc_abs, bc_max, bc_min, tgsL, List.length_cons, List.length_nil, List.set_cons_zero, List.set_cons_succ, at_0, at_1, at_2, ix_tup]
  refine new0 (d := d + 5) (m := fun _ => 0) (tm := fun _ => .non) fun h1 F1 n1 U1 => ?_
  have F2 : Fr h (h1.push (.dic [])) [] := F1.trans Fr.push
  have S0 : St (h1.push (.dic [])) p h.n h1.n (h.n + 1) (h.n + 2) [] (fun _ => 0) (fun _ => .non) (fun _ => 0) (fun _ => 0) (fun _ => 0) 0 .non 0 :=
    ⟨⟨a, b, F2.get hp lp (by simp), hb⟩, by have := F2.le; omega, U1.fr (Fr.push (S := [])) (by simp) (by simp) (by simp), ⟨Nat.lt_succ_self _, [], [], get_push_eq, by simpa using DI.nil⟩, by simp, by simp, fun k hk => (by cases hk), by omega, by omega, Nat.le_refl _, .inl rfl⟩
  unfold rl
  simp (disch := first | assumption | decide | omega | (simp only [List.length_cons, List.length_nil]; omega)) only [newL_c, newT_c, wipeS, if_true, bin_mulc, bin_fdivc, bin_mod, OkS_cons, OkS_nil, OkS_nx, OkS_rt, OkS_bk, OkS_ct, OkS_toS, Ok_bind, Ok_bindN, Ok_nx, Ok_ok, evS, evE, evEs, evT_cst, evT_var, evT_glo, evT_bin, evT_neg, evT_fld, evT_ix, evT_rev, evT_slc, evT_lst, evT_tup, evT_call, evT_make, evT_meth, evT_callv, evT_bc, evT_bm, evT_isi, evT_comp, evT_not, evT_and, evT_or, evT_cmp, evT_cmp2, evO, evC, evI, evG, evGs, permW, calN_call, calN_cs, getS_0, getS_s, Ok_ofS, tru_bl, Option.map, Bool.not_true, Bool.not_false, isiW, isOne, tyName, List.contains_cons, List.contains_nil, bin_add, bin_sub, cmp_lt, cmp_le, cmp_gt, cmp_ge, cmp_isN, cmp_isnN, bc_int, bc_abs, bc_max, bc_min, tgsL, List.length_cons, List.length_nil, List.set_cons_zero, List.set_cons_succ, at_0, at_1, at_2, ix_tup]
  refine S0.draw (by decide) (by decide) fun r h2 r0 r1 n2 F3 S3 => ?_
  have hr : rngJ 0 (14 + r) h2 = .ok (.rng 0 (14 + r - 0).toNat) h2 := rngJ_c (by omega)
  simp (disch := first | assumption | decide | omega | (simp only [List.length_cons, List.length_nil]; omega)) only [newL_c, newT_c, wipeS, if_true, bin_mulc, bin_fdivc, bin_mod, OkS_cons, OkS_nil, OkS_nx, OkS_rt, OkS_bk, OkS_ct, OkS_toS, Ok_bind, Ok_bindN, Ok_nx, Ok_ok, evS, evE, evEs, evT_cst, evT_var, evT_glo, evT_bin, evT_neg, evT_fld, evT_ix, evT_rev, evT_slc, evT_lst, evT_tup, evT_call, evT_make, evT_meth, evT_callv, evT_bc, evT_bm, evT_isi, evT_comp, evT_not, evT_and, evT_or, evT_cmp, evT_cmp2, evO, evC, evI, evG, evGs, permW, calN_call, calN_cs, getS_0, getS_s, Ok_ofS, tru_bl, Option.map, Bool.not_true, Bool.not_false, isiW, isOne, tyName, List.contains_cons, List.contains_nil, bin_add, bin_sub, cmp_lt, cmp_le, cmp_gt, cmp_ge, cmp_isN, cmp_isnN, bc_int, bc_abs, bc_max, bc_min, tgsL, List.length_cons, List.length_nil, List.set_cons_zero, List.set_cons_succ, at_0, at_1, at_2, ix_tup, hr]
  refine for_rng (Iv p h.n h1.n) ⟨_, _, _, _, _, _, _, _, _, _, _, _, _, _, _, _, _, rfl, S3⟩ (fun j s h' lt iv => ?_) (fun s h' iv => ?_)
  · obtain ⟨l, t, ks, m, tm, e, qf, ct, c, A, x5, x6, x7, x8, x9, x10, x11, rfl, S⟩ := iv
    simp (disch := first | assumption | decide | omega | (simp only [List.length_cons, List.length_nil]; omega)) only [newL_c, newT_c, wipeS, if_true, bin_mulc, bin_fdivc, bin_mod, OkS_cons, OkS_nil, OkS_nx, OkS_rt, OkS_bk, OkS_ct, OkS_toS, Ok_bind, Ok_bindN, Ok_nx, Ok_ok, evS, evE, evEs, evT_cst, evT_var, evT_glo, evT_bin, evT_neg, evT_fld, evT_ix, evT_rev, evT_slc, evT_lst, evT_tup, evT_call, evT_make, evT_meth, evT_callv, evT_bc, evT_bm, evT_isi, evT_comp, evT_not, evT_and, evT_or, evT_cmp, evT_cmp2, evO, evC, evI, evG, evGs, permW, calN_call, calN_cs, getS_0, getS_s, Ok_ofS, tru_bl, Option.map, Bool.not_true, Bool.not_false, isiW, isOne, tyName, List.contains_cons, List.contains_nil, bin_add, bin_sub, cmp_lt, cmp_le, cmp_gt, cmp_ge, cmp_isN, cmp_isnN, bc_int, bc_abs, bc_max, bc_min, tgsL, List.length_cons, List.length_nil, List.set_cons_zero, List.set_cons_succ, at_0, at_1, at_2, ix_tup]
    exact body (by omega) S
  · obtain ⟨l, t, ks, m, tm, e, qf, ct, c, A, x5, x6, x7, x8, x9, x10, x11, rfl, S⟩ := iv
    exact rest1 S fun _ => rfl
theorem plain (ns : List Int) (_ : ns.length ≤ 63) : ∃ h', callN lw.pr 0 (7 + 1) 21 [.ref 0] (h0 ns) = .ok (.bl true) h' := by
  have key : Ok (callN pr 0 (7 + 1) 21 [.ref 0] (h0 ns)) fun w _ => w = .bl true := by
    rw [Ok_call ⟨1, 1, b21⟩ [some (.ref 0)] rfl rfl rfl]
    unfold b21
    simp (disch := first | assumption | decide | omega | (simp only [List.length_cons, List.length_nil]; omega)) only [newL_c, newT_c, wipeS, if_true, bin_mulc, bin_fdivc, bin_mod, OkS_cons, OkS_nil, OkS_nx, OkS_rt, OkS_bk, OkS_ct, OkS_toS, Ok_bind, Ok_bindN, Ok_nx, Ok_ok, evS, evE, evEs, evT_cst, evT_var, evT_glo, evT_bin, evT_neg, evT_fld, evT_ix, evT_rev, evT_slc, evT_lst, evT_tup, evT_call, evT_make, evT_meth, evT_callv, evT_bc, evT_bm, evT_isi, evT_comp, evT_not, evT_and, evT_or, evT_cmp, evT_cmp2, evO, evC, evI, evG, evGs, permW, calN_call, calN_cs, getS_0, getS_s, Ok_ofS, tru_bl, Option.map, Bool.not_true, Bool.not_false, isiW, isOne, tyName, List.contains_cons, List.contains_nil, bin_add, bin_sub, cmp_lt, cmp_le, cmp_gt, cmp_ge, cmp_isN, cmp_isnN, bc_int, bc_abs, bc_max, bc_min, tgsL, List.length_cons, List.length_nil, List.set_cons_zero, List.set_cons_succ, at_0, at_1, at_2, ix_tup]
    refine pot (d := 6) (ns := ns) rfl fun a b hb => ?_
    exact right (d := 0) get_push_eq hb (Nat.lt_succ_self _)
  obtain ⟨w, h', e1, e2⟩ := key.out
  subst e2
  exact ⟨h', e1⟩
end
end Lawk73

set_option Elab.async false
set_option linter.all false
set_option maxRecDepth 100000
set_option maxHeartbeats 0
open PySem PySem.W PySem.Calls PyProof.Rows
theorem PySem.Challenge.cw_orderlycore_k73_whole_units_by_the_clock_holds : PySem.Challenge.rw_orderlycore_k73_whole_units_by_the_clock.Holds := by
  w_on; o_law
  refine HandSHeadRun.head_any (r := OpenLaw.row PySem.Challenge.rw_orderlycore_k73_whole_units_by_the_clock) (q := view (OpenLaw.row PySem.Challenge.rw_orderlycore_k73_whole_units_by_the_clock).prog [25]) (H := Mi.hookM 6 Lawk73.lw) (ob := Mi.obT 6 Lawk73.lw) (M := 20000) (loose := Lawk73.names)
    (d := HandSHeadRun.topDef (OpenLaw.row PySem.Challenge.rw_orderlycore_k73_whole_units_by_the_clock).prog 25) (kwd := []) (Mi.obT_eq 6 Lawk73.lw)
    (by kernel_rfl) (fun s => by kernel_rfl) Lawk73.run (by kernel_rfl) (by kernel_rfl) (by kernel_rfl) (by rfl) (by first | assumption | decide +kernel) (by decide +kernel) ⟨rfl, rfl, rfl, rfl, rfl, by decide +kernel⟩ ?hw ?hc
  case hw => w_witness2
  case hc =>
    refine L2.walk_ofE (l := PySem.Challenge.rw_orderlycore_k73_whole_units_by_the_clock) (n := 63) (k := 2 * 7 + 1 + 1) (x := "_law_script") (CX := Mi.CX0) rfl (by decide) (by kernel_rfl) ⟨rfl, by decide, by decide⟩ ?F (fun _ _ _ _ z => z)
    intro w mg fa h Y G hmg0
    obtain ⟨K, KX, c⟩ := Y
    have hmg : mg ("law" : PySem.Str) = some (.ref fa) := by
      have e : (HandSHeadRun.topDef (OpenLaw.row PySem.Challenge.rw_orderlycore_k73_whole_units_by_the_clock).prog 25).name = ("law" : PySem.Str) := by kernel_rfl
      rw [← e]
      exact hmg0
    exact Mi.law_facts (lw := Lawk73.lw) (d := 7) (k := 21) (wf := 0) (x := "_law_script") Lawk73.ck Lawk73.bds rfl rfl rfl rfl Lawk73.plain (by decide +kernel) KX G c hmg
