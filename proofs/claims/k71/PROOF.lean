import PyProof.Rows.All
import Wide.All
import OpenK.AllK
import Wide.FinOn
import HandS.ForMost
import HandS.Exc
import HandS.ExcOwn
import HandS.CallSlots
import HandS.Flow
import HandS.Style
import HandS.Conv
import HandS.Strs
import HandS.Property
import HandS.Defaults
import HandS.IsInst
import HandS.More
import HandS.OwnEq
import HandS.CallLocal
import HandS.Deep
import KE.DataFind
import KE.KStateDown
import HandS.Head0
import HandS.Head1
import HandS.Head2
import HandS.HeadEnd
import HandS.HeadHook1
import HandS.HeadHook2
import PySem.Challenge.RW_orderlycore_k71_whole_orders_by_an_own_l
set_option Elab.async false
set_option linter.all false
set_option maxRecDepth 100000
set_option maxHeartbeats 4000000
/-! A mini interpreter for the part of Python that the linked texts use: values, heap, IR, evaluation. -/
namespace Mi
open PySem
abbrev Key := L2.Key

inductive W where
  | non | bl (b : Bool) | int (i : Int) | str (x : Str) | tup (ws : List W) | ref (n : Nat) | fn (k : Nat) | cl (k : Nat)
inductive O where
  | lst (ws : List W) | dic (kvs : List (Key × W)) | ins (c : Nat) (fs : List (Nat × W)) | frz (ws : List W)

/-! ### the heap, a tree -/
inductive T where
  | e | n (l : T) (o : Option O) (r : T)
def T.get : T → Nat → Option O
  | .e, _ => none
  | .n l o r, k => match k with
    | 0 => o
    | k + 1 => match k % 2 with
      | 0 => l.get (k / 2)
      | _ => r.get (k / 2)
def T.setF : Nat → T → Nat → O → T
  | 0, t, _, _ => t
  | f + 1, t, k, x => match t with
    | .e => match k with
      | 0 => .n .e (some x) .e
      | k + 1 => match k % 2 with
        | 0 => .n (T.setF f .e (k / 2) x) none .e
        | _ => .n .e none (T.setF f .e (k / 2) x)
    | .n l o r => match k with
      | 0 => .n l (some x) r
      | k + 1 => match k % 2 with
        | 0 => .n (T.setF f l (k / 2) x) o r
        | _ => .n l o (T.setF f r (k / 2) x)
def T.set (t : T) (k : Nat) (x : O) : T := T.setF (k + 1) t k x
theorem T.get_e (k : Nat) : T.get .e k = none := by unfold T.get; rfl
theorem T.get_n0 (l : T) (o : Option O) (r : T) : T.get (.n l o r) 0 = o := by simp [T.get]
theorem T.get_nl (l : T) (o : Option O) (r : T) {k : Nat} (h : k % 2 = 0) : T.get (.n l o r) (k + 1) = l.get (k / 2) := by
  simp only [T.get]; rw [h]; rfl
theorem T.get_nr (l : T) (o : Option O) (r : T) {k : Nat} (h : k % 2 = 1) : T.get (.n l o r) (k + 1) = r.get (k / 2) := by
  simp only [T.get]; rw [h]; rfl
theorem T.get_setF : ∀ (f : Nat) (t : T) (k : Nat) (x : O), k < f → ∀ m, T.get (T.setF f t k x) m = if m = k then some x else T.get t m := by
  intro f
  induction f with
  | zero => intro t k x h; omega
  | succ f ih =>
    intro t k x h m
    cases t with
    | e =>
      cases k with
      | zero =>
        simp only [T.setF]
        cases m with
        | zero => simp [T.get]
        | succ m =>
          rw [if_neg (by omega), T.get_e]
          rcases Nat.mod_two_eq_zero_or_one m with q | q
          · rw [T.get_nl _ _ _ q, T.get_e]
          · rw [T.get_nr _ _ _ q, T.get_e]
      | succ k =>
        rcases Nat.mod_two_eq_zero_or_one k with q | q
        · have e1 : T.setF (f + 1) .e (k + 1) x = .n (T.setF f .e (k / 2) x) none .e := by simp only [T.setF]; rw [q]; rfl
          rw [e1]
          cases m with
          | zero => rw [T.get_n0, if_neg (by omega), T.get_e]
          | succ m =>
            rcases Nat.mod_two_eq_zero_or_one m with q2 | q2
            · rw [T.get_nl _ _ _ q2, ih _ _ _ (by omega), T.get_e, T.get_e]
              by_cases c : m = k
              · subst c; simp
              · rw [if_neg (by omega), if_neg (by omega)]
            · rw [T.get_nr _ _ _ q2, T.get_e, T.get_e, if_neg (by omega)]
        · have e1 : T.setF (f + 1) .e (k + 1) x = .n .e none (T.setF f .e (k / 2) x) := by simp only [T.setF]; rw [q]; rfl
          rw [e1]
          cases m with
          | zero => rw [T.get_n0, if_neg (by omega), T.get_e]
          | succ m =>
            rcases Nat.mod_two_eq_zero_or_one m with q2 | q2
            · rw [T.get_nl _ _ _ q2, T.get_e, T.get_e, if_neg (by omega)]
            · rw [T.get_nr _ _ _ q2, ih _ _ _ (by omega), T.get_e, T.get_e]
              by_cases c : m = k
              · subst c; simp
              · rw [if_neg (by omega), if_neg (by omega)]
    | n l o r =>
      cases k with
      | zero =>
        simp only [T.setF]
        cases m with
        | zero => simp [T.get]
        | succ m =>
          rw [if_neg (by omega)]
          rcases Nat.mod_two_eq_zero_or_one m with q | q
          · rw [T.get_nl _ _ _ q, T.get_nl _ _ _ q]
          · rw [T.get_nr _ _ _ q, T.get_nr _ _ _ q]
      | succ k =>
        rcases Nat.mod_two_eq_zero_or_one k with q | q
        · have e1 : T.setF (f + 1) (.n l o r) (k + 1) x = .n (T.setF f l (k / 2) x) o r := by simp only [T.setF]; rw [q]; rfl
          rw [e1]
          cases m with
          | zero => rw [T.get_n0, if_neg (by omega), T.get_n0]
          | succ m =>
            rcases Nat.mod_two_eq_zero_or_one m with q2 | q2
            · rw [T.get_nl _ _ _ q2, ih _ _ _ (by omega), T.get_nl _ _ _ q2]
              by_cases c : m = k
              · subst c; simp
              · rw [if_neg (by omega), if_neg (by omega)]
            · rw [T.get_nr _ _ _ q2, T.get_nr _ _ _ q2, if_neg (by omega)]
        · have e1 : T.setF (f + 1) (.n l o r) (k + 1) x = .n l o (T.setF f r (k / 2) x) := by simp only [T.setF]; rw [q]; rfl
          rw [e1]
          cases m with
          | zero => rw [T.get_n0, if_neg (by omega), T.get_n0]
          | succ m =>
            rcases Nat.mod_two_eq_zero_or_one m with q2 | q2
            · rw [T.get_nl _ _ _ q2, T.get_nl _ _ _ q2, if_neg (by omega)]
            · rw [T.get_nr _ _ _ q2, ih _ _ _ (by omega), T.get_nr _ _ _ q2]
              by_cases c : m = k
              · subst c; simp
              · rw [if_neg (by omega), if_neg (by omega)]
theorem T.get_set (t : T) (k : Nat) (x : O) (m : Nat) : T.get (T.set t k x) m = if m = k then some x else T.get t m :=
  T.get_setF _ _ _ _ (by omega) _

structure Hh where
  t : T
  n : Nat
def Hh.get (h : Hh) (i : Nat) : Option O := h.t.get i
def Hh.push (h : Hh) (o : O) : Hh := ⟨h.t.set h.n o, h.n + 1⟩
def Hh.put (h : Hh) (i : Nat) (o : O) : Hh := ⟨h.t.set i o, h.n⟩
theorem Hh.get_push (h : Hh) (o : O) (j : Nat) : (h.push o).get j = if j = h.n then some o else h.get j := T.get_set _ _ _ _
theorem Hh.get_put (h : Hh) (i : Nat) (o : O) (j : Nat) : (h.put i o).get j = if j = i then some o else h.get j := T.get_set _ _ _ _
theorem Hh.n_push (h : Hh) (o : O) : (h.push o).n = h.n + 1 := rfl
theorem Hh.n_put (h : Hh) (i : Nat) (o : O) : (h.put i o).n = h.n := rfl

/-! ### results -/
abbrev Fs := List (Nat × W)
inductive R (α : Type) where
  | ok (a : α) (h : Hh) | ex (c : Nat) (fs : Fs) (h : Hh) | no
def R.bind {α β : Type} (r : R α) (f : α → Hh → R β) : R β := match r with
  | .ok a h => f a h
  | .ex c fs h => .ex c fs h
  | .no => .no
def R.of {α : Type} (h : Hh) : Option α → R α
  | some a => .ok a h
  | none => .no
abbrev Sl := List (Option W)
inductive RS where
  | nx (s : Sl) (h : Hh) | rt (w : W) (h : Hh) | bk (s : Sl) (h : Hh) | ct (s : Sl) (h : Hh) | ex (c : Nat) (fs : Fs) (s : Sl) (h : Hh) | no
def R.toS {α : Type} (r : R α) (s : Sl) (f : α → Hh → RS) : RS := match r with
  | .ok a h => f a h
  | .ex c fs h => .ex c fs s h
  | .no => .no

/-! ### the text -/
inductive Bop where | add | sub | mul | fdiv | mod | pow | shl | shr | band | bor | bxor
  deriving DecidableEq
inductive Cop where | eq | ne | lt | le | gt | ge | is | isn | isin | nin
  deriving DecidableEq
inductive Bc where | len1 | abs1 | int1 | list1 | tuple1 | sorted1 | dict1 | repr1 | any1 | all1 | sum1 | min1 | max1 | max2 | min2 | divmod2
  deriving DecidableEq
inductive Bm where | append1 | insert2 | pop0 | pop1 | remove1
  deriving DecidableEq
inductive Bt where | int | bool | str | list | tuple | dict
  deriving DecidableEq
inductive Ty where | own (k : Nat) | bi (b : Bt)
mutual
inductive E where
  | cst (w : W) | var (i : Nat) | glo (w : W) | mut (e : E)
  | bin (op : Bop) (a b : E) | neg (a : E) | notE (a : E) | andE (a b : E) | orE (a b : E)
  | cmp (op : Cop) (a b : E) | cmp2 (op op' : Cop) (a b c : E) | ife (c a b : E)
  | fld (o : E) (f : Nat) | ix (o i : E) | rev (o : E) | slc (o : E) (lo hi : Eo)
  | lst (es : Es) | tup (es : Es) | dic0 | dic (ks vs : Es)
  | call (k : Nat) (es : Es) (pm : List Nat) | make (c : Nat) (es : Es) (pm : List Nat) | meth (o : E) (m : Nat) (es : Es) (pm : List Nat) | callv (i : Nat) (es : Es)
  | bc (b : Bc) (es : Es) | bm (b : Bm) (o : E) (es : Es) | isi (a : E) (tup : Bool) (ts : List Ty) | rngL (istup : Bool) (es : Es) | sset (a : E)
  | comp (elt : E) (tg : Tg) (it : It) (cond : Eo) (own : List Nat)
inductive Es where
  | nil | cons (e : E) (es : Es)
inductive Eo where
  | none | some (e : E)
inductive It where
  | seq (e : E) | rng1 (a : E) | rng2 (a b : E) | enm (e : E) | zip (a b : E)
inductive Tg where
  | name (i : Nat) | tup (ts : Tgs) | fld (o : E) (f : Nat) | sub (o i : E) | slc (o : E) (lo hi : Eo)
inductive Tgs where
  | nil | cons (t : Tg) (ts : Tgs)
end
mutual
inductive S where
  | expr (e : E) | asg (t : Tg) (e : E) | par (is : List Nat) (es : Es) | ret (e : E) | retN | pass | brk | cont | never
  | ifS (c : E) (a b : Ss) | whl (c : E) (b : Ss) | forS (t : Tg) (it : It) (b : Ss)
inductive Ss where
  | nil | cons (s : S) (ss : Ss)
end
end Mi

set_option Elab.async false
set_option linter.all false
set_option maxRecDepth 100000
set_option maxHeartbeats 4000000
/-! Evaluation. -/
namespace Mi
open PySem

structure ClsI where
  ms : List (Nat × Nat)
  ps : List (Nat × Nat)
  ini : Nat
  eqm : Option Nat
structure FunI where
  np : Nat
  ns : Nat
  body : Ss
structure Pr where
  fs : List FunI
  cs : List ClsI
structure Cal where
  call : Nat → List W → Hh → R W
  cs : List ClsI
  wf : Nat

def R.nx {α : Type} (r : R α) : R α := match r with
  | .ok a h => .ok a h
  | _ => .no
def R.bindN {α β : Type} (r : R α) (f : α → Hh → R β) : R β := match r with
  | .ok a h => f a h
  | _ => .no

/-! ### values -/
def keyW : W → Option Key
  | .int i => some (.inl i)
  | .str x => some (.inr x)
  | _ => none
def kW : Key → W
  | .inl i => .int i
  | .inr x => .str x
def seqAt (h : Hh) : W → Option (List W)
  | .tup ws => some ws
  | .ref n => match h.get n with
    | some (.lst ws) => some ws
    | some (.frz ws) => some ws
    | _ => none
  | _ => none
def dat : Nat → Hh → W → Option PyData
  | 0, _, _ => none
  | n + 1, h, w => match w with
    | .non => some .none
    | .bl b => some (.bool b)
    | .int i => some (.int i)
    | .str x => if PyData.canLay0 (.str x) = true then some (.str x) else none
    | .tup ws => (ws.mapM fun w => dat n h w).map .tuple
    | .ref k => match h.get k with
      | some (.lst ws) => (ws.mapM fun w => dat n h w).map .list
      | some (.frz ws) => (ws.mapM fun w => dat n h w).map .list
      | _ => none
    | _ => none
def dataD : Nat := 12
def tru (h : Hh) : W → Option Bool
  | .non => some false
  | .bl b => some b
  | .int i => some (i != 0)
  | .str x => if x.length ≤ sizeLine then some ((x.length : Int) != 0) else none
  | .tup ws => some (!ws.isEmpty)
  | .ref n => match h.get n with
    | some (.lst ws) => some (!ws.isEmpty)
    | some (.frz ws) => some (!ws.isEmpty)
    | some (.dic kvs) => some (!kvs.isEmpty)
    | _ => none
  | _ => none
def newL (h : Hh) (ws : List W) : R W := if ws.length ≤ sizeLine then .ok (.ref h.n) (h.push (.lst ws)) else .no
def newT (h : Hh) (ws : List W) : R W := if ws.length ≤ sizeLine then .ok (.tup ws) h else .no

def intI (h : Hh) (x y : W) (f : Int → Int → Option W) : R W := match x, y with
  | .int i, .int j => .of h (f i j)
  | _, _ => .no
instance (i j : Int) : Decidable (L2.CMul i j) := inferInstanceAs (Decidable (_ ∨ _))
instance (i j : Int) : Decidable (L2.CDiv i j) := inferInstanceAs (Decidable (_ ∧ _))
instance (i j : Int) : Decidable (L2.CPow i j) := inferInstanceAs (Decidable (_ ∧ _ ∧ _))
def addW (x y : W) (h : Hh) : R W := match x, y with
  | .int i, .int j => .ok (.int (i + j)) h
  | .str a, .str b => if a.length + b.length ≤ sizeLine then .ok (.str (a ++ b)) h else .no
  | .tup xs, .tup ys => if xs.isEmpty then .no else newT h (xs ++ ys)
  | .ref m, .ref n => match h.get m, h.get n with
    | some (.lst xs), some (.lst ys) => newL h (xs ++ ys)
    | _, _ => .no
  | _, _ => .no
def mulW (x y : W) (h : Hh) : R W := match x, y with
  | .int i, .int j => if L2.CMul i j then .ok (.int (i * j)) h else .no
  | .ref m, .int k => match h.get m with
    | some (.lst xs) => if -(2 ^ 63) ≤ k ∧ k < 2 ^ 63 ∧ xs.length * k.toNat ≤ sizeLine then .ok (.ref h.n) (h.push (.lst (List.replicate k.toNat xs).flatten)) else .no
    | _ => .no
  | _, _ => .no
def binW (op : Bop) (x y : W) (h : Hh) : R W := match op with
  | .add => addW x y h
  | .mul => mulW x y h
  | .sub => intI h x y fun i j => some (.int (i - j))
  | .fdiv => intI h x y fun i j => if L2.CDiv i j then some (.int (i / j)) else none
  | .mod => intI h x y fun i j => if 0 < j then some (.int (i % j)) else none
  | .pow => intI h x y fun i j => if L2.CPow i j then some (.int (i ^ j.toNat)) else none
  | .shl => intI h x y fun i j => if L2.CPow i j then some (.int (i * 2 ^ j.toNat)) else none
  | .shr => intI h x y fun i j => if 0 ≤ j then some (.int (i / 2 ^ j.toNat)) else none
  | .band => intI h x y fun i j => some (.int (Builtin.bitAnd i j))
  | .bor => intI h x y fun i j => some (.int (Builtin.bitOr i j))
  | .bxor => intI h x y fun i j => some (.int (Builtin.bitXor i j))

def flatW : W → Bool
  | .non => true | .bl _ => true | .int _ => true | .str _ => true | _ => false
def eqF : W → W → Bool
  | .non, .non => true
  | .bl a, .bl b => a == b
  | .bl a, .int b => (if a then 1 else 0) == b
  | .int a, .bl b => a == (if b then 1 else 0)
  | .int a, .int b => a == b
  | .str a, .str b => a == b
  | _, _ => false
def isNonW : W → Bool
  | .non => true | _ => false
def valK (kvs : List (Key × W)) (k : Key) : Option W := (kvs.find? fun kv => decide (kv.1 = k)).map (·.2)
def putKW (kvs : List (Key × W)) (k : Key) (v : W) : List (Key × W) :=
  if (kvs.any fun kv => decide (kv.1 = k)) = true then kvs.map (fun kv => if kv.1 = k then (kv.1, v) else kv) else kvs ++ [(k, v)]
def dropKW (kvs : List (Key × W)) (k : Key) : List (Key × W) := kvs.filter fun kv => decide (kv.1 ≠ k)
/-- x in y -/
def inW (x y : W) (h : Hh) : Option Bool := match seqAt h y with
  | some ws => if flatW x && ws.all flatW then some (ws.any fun z => eqF z x) else none
  | none => match y with
    | .ref n => match h.get n, keyW x with
      | some (.dic kvs), some k => some (valK kvs k).isSome
      | _, _ => none
    | _ => none
def eqData (x y : W) (h : Hh) : Option Bool := match dat dataD h x, dat dataD h y with
  | some d, some e => some (PyData.eqv d e)
  | _, _ => none
def ownEq (C : Cal) (x : W) (h : Hh) : Option Nat := match x with
  | .ref n => match h.get n with
    | some (.ins c _) => (C.cs[c]?).bind fun q => q.eqm
    | _ => none
  | _ => none
def cmpW (C : Cal) (op : Cop) (x y : W) (h : Hh) : R W := match op with
  | .eq => match ownEq C x h with
    | some k => (C.call k [x, y] h).bindN fun r h1 => match r with
      | .bl b => .ok (.bl b) h1
      | _ => .no
    | none => .of h ((eqData x y h).map .bl)
  | .ne => match ownEq C x h with
    | some k => (C.call k [x, y] h).bindN fun r h1 => match r with
      | .bl b => .ok (.bl (!b)) h1
      | _ => .no
    | none => .of h ((eqData x y h).map fun b => .bl (!b))
  | .is => match y with
    | .non => .ok (.bl (isNonW x)) h
    | .bl b => match x with
      | .bl a => .ok (.bl (decide (a = b))) h
      | _ => .no
    | _ => .no
  | .isn => match y with
    | .non => .ok (.bl (!isNonW x)) h
    | .bl b => match x with
      | .bl a => .ok (.bl (!decide (a = b))) h
      | _ => .no
    | _ => .no
  | .lt => intI h x y fun i j => some (.bl (decide (i < j)))
  | .le => intI h x y fun i j => some (.bl (decide (i ≤ j)))
  | .gt => intI h x y fun i j => some (.bl (decide (j < i)))
  | .ge => intI h x y fun i j => some (.bl (decide (j ≤ i)))
  | .isin => .of h ((inW x y h).map .bl)
  | .nin => .of h ((inW x y h).map fun b => .bl (!b))

/-! ### built-ins -/
def intsW : List W → Option (List Int)
  | [] => some []
  | .int i :: r => (intsW r).map (i :: ·)
  | _ :: _ => none
def boolsW : List W → Option (List Bool)
  | [] => some []
  | .bl i :: r => (boolsW r).map (i :: ·)
  | _ :: _ => none
def insI (i : Int) : List Int → List Int
  | [] => [i]
  | j :: r => if i ≤ j then i :: j :: r else j :: insI i r
def sortI : List Int → List Int
  | [] => []
  | i :: r => insI i (sortI r)
def dedI : List Int → List Int
  | [] => []
  | [i] => [i]
  | i :: j :: r => if i = j then dedI (j :: r) else i :: dedI (j :: r)
def minI : Int → List Int → Int
  | m, [] => m
  | m, i :: r => minI (if i < m then i else m) r
def maxI : Int → List Int → Int
  | m, [] => m
  | m, i :: r => maxI (if m < i then i else m) r
def lenW (h : Hh) : W → Option Nat
  | .str x => if x.length ≤ sizeLine then some x.length else none
  | .tup ws => some ws.length
  | .ref n => match h.get n with
    | some (.lst ws) => some ws.length
    | some (.frz ws) => some ws.length
    | some (.dic kvs) => some kvs.length
    | _ => none
  | _ => none
def sorted1 (h : Hh) (ns : List Int) : R W := if ns.length < 64 then .ok (.ref h.n) (h.push (.lst ((sortI ns).map .int))) else .no
def keysI : List (Key × W) → Option (List Int)
  | [] => some []
  | (.inl i, _) :: r => (keysI r).map (i :: ·)
  | _ :: _ => none
def reprW (x : W) (h : Hh) : Option Str := match x with
  | .non => some "None"
  | .bl b => some (if b then "True" else "False")
  | .int i => if i.natAbs.log2 < 1920 then some (toString i) else none
  | .str x => if (reprText x).length ≤ sizeLine then some (reprText x) else none
  | _ => none
def bcW (b : Bc) (xs : List W) (h : Hh) : R W := match b, xs with
  | .len1, [x] => .of h ((lenW h x).map fun n => .int n)
  | .abs1, [.int i] => .ok (.int (if i < 0 then -i else i)) h
  | .int1, [.int i] => .ok (.int i) h
  | .int1, [.bl k] => .ok (.int (if k then 1 else 0)) h
  | .list1, [x] => match seqAt h x with
    | some ws => .ok (.ref h.n) (h.push (.lst ws))
    | none => match x with
      | .ref n => match h.get n with
        | some (.dic kvs) => .ok (.ref h.n) (h.push (.lst (kvs.map fun kv => kW kv.1)))
        | _ => .no
      | _ => .no
  | .tuple1, [x] => match seqAt h x with
    | some ws => .ok (.tup ws) h
    | none => .no
  | .sorted1, [.ref n] => match seqAt h (.ref n) with
    | some ws => match intsW ws with
      | some ns => sorted1 h ns
      | none => .no
    | none => match h.get n with
      | some (.dic kvs) => match keysI kvs with
        | some ns => sorted1 h ns
        | none => .no
      | _ => .no
  | .dict1, [.ref n] => match h.get n with
    | some (.dic kvs) => .ok (.ref h.n) (h.push (.dic kvs))
    | _ => .no
  | .repr1, [x] => .of h ((reprW x h).map .str)
  | .any1, [.ref n] => match (seqAt h (.ref n)).bind boolsW with
    | some bs => .ok (.bl (bs.any id)) h
    | none => .no
  | .all1, [.ref n] => match (seqAt h (.ref n)).bind boolsW with
    | some bs => .ok (.bl (bs.all id)) h
    | none => .no
  | .sum1, [.ref n] => match (seqAt h (.ref n)).bind intsW with
    | some ns => .ok (.int ns.sum) h
    | none => .no
  | .min1, [.ref n] => match (seqAt h (.ref n)).bind intsW with
    | some (n :: ns) => .ok (.int (minI n ns)) h
    | _ => .no
  | .max1, [.ref n] => match (seqAt h (.ref n)).bind intsW with
    | some (n :: ns) => .ok (.int (maxI n ns)) h
    | _ => .no
  | .max2, [.int i, .int j] => .ok (.int (if j > i then j else i)) h
  | .min2, [.int i, .int j] => .ok (.int (if j < i then j else i)) h
  | .divmod2, [.int i, .int j] => if L2.CDiv i j then .ok (.tup [.int (i / j), .int (i % j)]) h else .no
  | _, _ => .no
def remAt (x : W) (h : Hh) (ws : List W) : Option Nat := match ws.mapM (fun w => dat dataD h w), dat dataD h x with
  | some ds, some d => ds.findIdx? fun z => PyData.eqv z d
  | _, _ => none
def bmW (b : Bm) (o : W) (xs : List W) (h : Hh) : R W := match o with
  | .ref n => match h.get n with
    | some (.lst ws) => match b, xs with
      | .append1, [y] => if ws.length < sizeLine then .ok .non (h.put n (.lst (ws ++ [y]))) else .no
      | .insert2, [.int i, y] => if i = 0 ∧ ws.length < sizeLine then .ok .non (h.put n (.lst (y :: ws))) else .no
      | .pop0, [] => match ws[ws.length - 1]? with
        | some y => .ok y (h.put n (.lst ws.dropLast))
        | none => .no
      | .pop1, [.int i] => if -(2 ^ 63) ≤ i ∧ i < 2 ^ 63 then match L2.ixN ws.length i with
        | some k => match ws[k]? with
          | some y => .ok y (h.put n (.lst (ws.eraseIdx k)))
          | none => .no
        | none => .no else .no
      | .remove1, [x] => match remAt x h ws with
        | some k => .ok .non (h.put n (.lst (ws.eraseIdx k)))
        | none => .no
      | _, _ => .no
    | some (.dic kvs) => match b, xs with
      | .pop1, [x] => match keyW x with
        | some k => match valK kvs k with
          | some v => .ok v (h.put n (.dic (dropKW kvs k)))
          | none => .no
        | none => .no
      | _, _ => .no
    | _ => .no
  | _ => .no

/-- the receiver is a list -/
def isL (h : Hh) (w : W) : Bool := match w with
  | .ref n => match h.get n with
    | some (.lst _) => true
    | _ => false
  | _ => false
/-- the receiver is a dict -/
def isD (h : Hh) (w : W) : Bool := match w with
  | .ref n => match h.get n with
    | some (.dic _) => true
    | _ => false
  | _ => false
def kindW (h : Hh) (w : W) : Option Bool := if isL h w then some true else if isD h w then some false else none
/-- isinstance: own classes ts, built-in ones by name bs -/
def tyName (h : Hh) : W → Option (Sum Nat (List Bt))
  | .non => some (.inr [])
  | .bl _ => some (.inr [.bool, .int])
  | .int _ => some (.inr [.int])
  | .str _ => some (.inr [.str])
  | .tup _ => some (.inr [.tuple])
  | .ref n => match h.get n with
    | some (.lst _) => some (.inr [.list])
    | some (.frz _) => some (.inr [.list])
    | some (.dic _) => some (.inr [.dict])
    | some (.ins c _) => some (.inl c)
    | none => none
  | _ => none
def isOne (h : Hh) (x : W) (t : Ty) : Option Bool := match tyName h x, t with
  | some (.inl c), .own d => if c = d then some true else none
  | some (.inr _), .own _ => some false
  | some (.inr ns), .bi b => some (ns.contains b)
  | _, _ => none
def isiW (h : Hh) (x : W) : List Ty → Option Bool
  | [] => some false
  | t :: ts => match isOne h x t with
    | some true => some true
    | some false => isiW h x ts
    | none => none
def rngW (istup : Bool) (xs : List W) (h : Hh) : R W :=
  let go := fun (a b : Int) => if -(2 ^ 62) ≤ a ∧ a < 2 ^ 62 ∧ -(2 ^ 62) ≤ b ∧ b < 2 ^ 62 ∧ (b - a).toNat ≤ 2 ^ 24 then
      let ws := (List.range (b - a).toNat).map fun i => W.int (a + (i : Nat))
      if istup then .ok (.tup ws) h else .ok (.ref h.n) (h.push (.lst ws))
    else .no
  match xs with
  | [.int b] => go 0 b
  | [.int a, .int b] => go a b
  | _ => .no
def ssetW (x : W) (h : Hh) : R W := match (seqAt h x).bind intsW with
  | some ns => if ns.length < 64 then .ok (.ref h.n) (h.push (.lst ((dedI (sortI ns)).map .int))) else .no
  | none => .no

/-! ### subscripts, slices, fields -/
def ixW (x i : W) (h : Hh) : Option W := match seqAt h x with
  | some ws => match i with
    | .int j => L2.atI ws j
    | _ => none
  | none => match x with
    | .ref n => match h.get n, keyW i with
      | some (.dic kvs), some k => valK kvs k
      | _, _ => none
    | _ => none
def cutW (ws : List W) (lo hi : Option Int) : List W := (ws.drop (HT.sIx ws.length 0 lo)).take (HT.sIx ws.length ws.length hi - HT.sIx ws.length 0 lo)
def slcW (x : W) (lo hi : Option Int) (h : Hh) : R W := match x with
  | .tup ws => if HT.sIx ws.length 0 lo = 0 ∧ HT.sIx ws.length ws.length hi = ws.length then .no else .ok (.tup (cutW ws lo hi)) h
  | _ => match seqAt h x with
    | some ws => .ok (.ref h.n) (h.push (.lst (cutW ws lo hi)))
    | none => .no
def revW (x : W) (h : Hh) : R W := match x with
  | .ref _ => match seqAt h x with
    | some ws => .ok (.ref h.n) (h.push (.lst ws.reverse))
    | none => .no
  | _ => .no
def fldW (C : Cal) (x : W) (f : Nat) (h : Hh) : R W := match x with
  | .ref n => match h.get n with
    | some (.ins c fs) => match C.cs[c]? with
      | some q => match q.ps.lookup f with
        | some k => C.call k [x] h
        | none => match q.ms.lookup f with
          | some _ => .no
          | none => .of h (fs.lookup f)
      | none => .no
    | _ => .no
  | _ => .no
def putFW (f : Nat) (v : W) : Fs → Fs
  | [] => [(f, v)]
  | (g, x) :: r => if g = f then (g, v) :: r else (g, x) :: putFW f v r
def setFld (C : Cal) (x : W) (f : Nat) (v : W) (h : Hh) : Option Hh := match x with
  | .ref n => match h.get n with
    | some (.ins c fs) => match C.cs[c]? with
      | some q => match q.ps.lookup f, q.ms.lookup f with
        | none, none => if fs.length < 1000 then some (h.put n (.ins c (putFW f v fs))) else none
        | _, _ => none
      | none => none
    | _ => none
  | _ => none
def setIx (x i v : W) (h : Hh) : Option Hh := match x with
  | .ref n => match h.get n with
    | some (.lst ws) => match i with
      | .int k => match L2.ixN ws.length k with
        | some j => some (h.put n (.lst (ws.set j v)))
        | none => none
      | _ => none
    | some (.dic kvs) => match keyW i with
      | some k => if kvs.length < sizeLine then some (h.put n (.dic (putKW kvs k v))) else none
      | none => none
    | _ => none
  | _ => none
/-- x[:] = v -/
def setAll (x v : W) (h : Hh) : Option Hh := match x, v with
  | .ref n, .ref m => match h.get n, h.get m with
    | some (.lst _), some (.lst vs) => if n = m then none else some (h.put n (.lst vs))
    | _, _ => none
  | _, _ => none
def methOf (C : Cal) (x : W) (m : Nat) (h : Hh) : Option Nat := match x with
  | .ref n => match h.get n with
    | some (.ins c fs) => match C.cs[c]?, fs.lookup m with
      | some q, none => q.ms.lookup m
      | _, _ => none
    | _ => none
  | _ => none
def permW (pm : List Nat) (ws : List W) : Option (List W) := match pm with
  | [] => some ws
  | _ => pm.mapM fun i => ws[i]?
def makeW (C : Cal) (c : Nat) (ws : List W) (h : Hh) : R W := match C.cs[c]? with
  | some q => (C.call q.ini (.ref h.n :: ws) (h.push (.ins c []))).bind fun r h1 => match r with
    | .non => .ok (.ref h.n) h1
    | _ => .no
  | none => .no

/-! ### what is walked -/
inductive J where
  | seq (w : W) | rng (lo : Int) (n : Nat) | enm (n : Nat) | zip (a b : Nat)
def lstAt (h : Hh) (n : Nat) : Option (List W) := match h.get n with
  | some (.lst ws) => some ws
  | some (.frz ws) => some ws
  | _ => none
def J.next (j : J) (i : Nat) (h : Hh) : Option (Option W) := match j with
  | .seq w => (seqAt h w).map fun ws => ws[i]?
  | .rng lo n => some (if i < n then some (.int (lo + (i : Nat))) else none)
  | .enm n => (lstAt h n).map fun ws => (ws[i]?).map fun w => .tup [.int (i : Nat), w]
  | .zip a b => match lstAt h a, lstAt h b with
    | some xs, some ys => match xs[i]?, ys[i]? with
      | some x, some y => some (some (.tup [x, y]))
      | _, _ => some none
    | _, _ => none
def J.fuel (j : J) (h : Hh) : Nat := match j with
  | .seq w => match seqAt h w with
    | some ws => ws.length + 1
    | none => 0
  | .rng _ n => n + 1
  | .enm n => match lstAt h n with
    | some ws => ws.length + 1
    | none => 0
  | .zip a b => match lstAt h a with
    | some xs => xs.length + 1
    | none => 0
def rngJ (a b : Int) (h : Hh) : R J := if -(2 ^ 62) ≤ a ∧ a < 2 ^ 62 ∧ -(2 ^ 62) ≤ b ∧ b < 2 ^ 62 then .ok (.rng a (b - a).toNat) h else .no
def wipeS (s : Sl) : List Nat → Sl
  | [] => s
  | v :: vs => (wipeS s vs).set v none

def compL (asg : W → Sl → Hh → R Sl) (tst : Sl → Hh → R Bool) (elt : Sl → Hh → R W) (j : J) (D : Nat) (s : Sl) : Nat → Nat → Hh → R Unit
  | 0, _, _ => .no
  | k + 1, i, h => match j.next i h with
    | none => .no
    | some none => .ok () h
    | some (some w) => (asg w s h).bindN fun s1 h1 => (tst s1 h1).bindN fun b h2 => match b with
      | true => (elt s1 h2).bindN fun y h3 => match h3.get D with
        | some (.lst acc) => if acc.length < sizeLine then compL asg tst elt j D s k (i + 1) (h3.put D (.lst (acc ++ [y]))) else .no
        | _ => .no
      | false => compL asg tst elt j D s k (i + 1) h2
def forL (asg : W → Sl → Hh → R Sl) (body : Sl → Hh → RS) (j : J) : Nat → Nat → Sl → Hh → RS
  | 0, _, _, _ => .no
  | k + 1, i, s, h => match j.next i h with
    | none => .no
    | some none => .nx s h
    | some (some w) => (asg w s h).toS s fun s1 h1 => match body s1 h1 with
      | .nx s2 h2 => forL asg body j k (i + 1) s2 h2
      | .ct s2 h2 => forL asg body j k (i + 1) s2 h2
      | .bk s2 h2 => .nx s2 h2
      | r => r
def whlL (tst : Sl → Hh → R Bool) (body : Sl → Hh → RS) : Nat → Sl → Hh → RS
  | 0, _, _ => .no
  | k + 1, s, h => (tst s h).toS s fun b h1 => match b with
    | false => .nx s h1
    | true => match body s h1 with
      | .nx s2 h2 => whlL tst body k s2 h2
      | .ct s2 h2 => whlL tst body k s2 h2
      | .bk s2 h2 => .nx s2 h2
      | r => r
def getS (s : Sl) (i : Nat) : Option W := match s[i]? with
  | some (some w) => some w
  | _ => none

/-! ### evaluation -/
def tgsL : Tgs → Nat
  | .nil => 0
  | .cons _ ts => tgsL ts + 1
mutual
def evE (C : Cal) : E → Sl → Hh → R W
  | .cst w, _, h => .ok w h
  | .glo w, _, h => .ok w h
  | .var i, s, h => .of h (getS s i)
  | .mut e, s, h => evE C e s h
  | .bin op a b, s, h => (evE C a s h).bind fun x h1 => (evE C b s h1).bind fun y h2 => (binW op x y h2).nx
  | .neg a, s, h => (evE C a s h).bind fun x h1 => match x with
    | .int i => .ok (.int (-i)) h1
    | _ => .no
  | .notE a, s, h => (evE C a s h).bind fun x h1 => .of h1 ((tru h1 x).map fun k => .bl (!k))
  | .andE a b, s, h => (evE C a s h).bind fun x h1 => match tru h1 x with
    | some true => evE C b s h1
    | some false => .ok x h1
    | none => .no
  | .orE a b, s, h => (evE C a s h).bind fun x h1 => match tru h1 x with
    | some true => .ok x h1
    | some false => evE C b s h1
    | none => .no
  | .cmp op a b, s, h => (evE C a s h).bind fun x h1 => (evE C b s h1).bind fun y h2 => (cmpW C op x y h2).nx
  | .cmp2 op op' a b c, s, h => (evE C a s h).bind fun x h1 => (evE C b s h1).bind fun y h2 => (cmpW C op x y h2).bindN fun r h3 => match r with
    | .bl true => (evE C c s h3).bind fun z h4 => (cmpW C op' y z h4).nx
    | .bl false => .ok (.bl false) h3
    | _ => .no
  | .ife c a b, s, h => (evT C c s h).bind fun k h1 => match k with
    | true => evE C a s h1
    | false => evE C b s h1
  | .fld o f, s, h => (evE C o s h).bind fun x h1 => (fldW C x f h1).nx
  | .ix o i, s, h => (evE C o s h).bind fun x h1 => (evE C i s h1).bind fun y h2 => .of h2 (ixW x y h2)
  | .rev o, s, h => (evE C o s h).bind fun x h1 => (revW x h1).nx
  | .slc o lo hi, s, h => (evE C o s h).bind fun x h1 => (evO C lo s h1).bind fun a h2 => (evO C hi s h2).bind fun b h3 => (slcW x a b h3).nx
  | .lst es, s, h => (evEs C es s h).bind fun ws h1 => (newL h1 ws).nx
  | .tup es, s, h => (evEs C es s h).bind fun ws h1 => (newT h1 ws).nx
  | .dic0, _, h => .ok (.ref h.n) (h.push (.dic []))
  | .dic _ _, _, _ => .no
  | .call k es pm, s, h => (evEs C es s h).bind fun ws h1 => match permW pm ws with
    | some vs => C.call k vs h1
    | none => .no
  | .make c es pm, s, h => (evEs C es s h).bind fun ws h1 => match permW pm ws with
    | some vs => makeW C c vs h1
    | none => .no
  | .meth o m es pm, s, h => (evE C o s h).bind fun x h1 => match methOf C x m h1 with
    | some k => (evEs C es s h1).bind fun ws h2 => match permW pm ws with
      | some vs => C.call k (x :: vs) h2
      | none => .no
    | none => .no
  | .callv i es, s, h => match getS s i with
    | some (.fn k) => (evEs C es s h).bind fun ws h1 => C.call k ws h1
    | _ => .no
  | .bc b es, s, h => (evEs C es s h).bind fun ws h1 => (bcW b ws h1).nx
  | .bm b o es, s, h => (evE C o s h).bind fun x h1 => match kindW h1 x with
    | some k => if (k || decide (b = .pop1)) = true then (evEs C es s h1).bind fun ws h2 => if kindW h2 x = some k then (bmW b x ws h2).nx else .no else .no
    | none => .no
  | .isi a _ ts, s, h => (evE C a s h).bind fun x h1 => .of h1 ((isiW h1 x ts).map .bl)
  | .rngL tp es, s, h => (evEs C es s h).bind fun ws h1 => (rngW tp ws h1).nx
  | .sset a, s, h => (evE C a s h).bind fun x h1 => (ssetW x h1).nx
  | .comp elt tg it cond own, s, h => (evI C it s h).bind fun j h1 =>
    (compL (evG C tg) (evC C cond) (evE C elt) j h1.n (wipeS s own) (j.fuel h1) 0 (h1.push (.lst []))).bindN fun _ h2 => .ok (.ref h1.n) h2
def evEs (C : Cal) : Es → Sl → Hh → R (List W)
  | .nil, _, h => .ok [] h
  | .cons e es, s, h => (evE C e s h).bind fun x h1 => (evEs C es s h1).bind fun xs h2 => .ok (x :: xs) h2
def evO (C : Cal) : Eo → Sl → Hh → R (Option Int)
  | .none, _, h => .ok none h
  | .some e, s, h => (evE C e s h).bind fun x h1 => match x with
    | .int i => .ok (some i) h1
    | _ => .no
def evC (C : Cal) : Eo → Sl → Hh → R Bool
  | .none, _, h => .ok true h
  | .some e, s, h => evT C e s h
def evT (C : Cal) : E → Sl → Hh → R Bool
  | .notE a, s, h => (evT C a s h).bind fun k h1 => .ok (!k) h1
  | .andE a b, s, h => (evT C a s h).bind fun k h1 => match k with
    | true => evT C b s h1
    | false => .ok false h1
  | .orE a b, s, h => (evT C a s h).bind fun k h1 => match k with
    | true => .ok true h1
    | false => evT C b s h1
  | .ife c a b, s, h => (evT C c s h).bind fun k h1 => match k with
    | true => evT C a s h1
    | false => evT C b s h1
  | .cmp op a b, s, h => (evE C a s h).bind fun x h1 => (evE C b s h1).bind fun y h2 => (cmpW C op x y h2).bindN fun r h3 => match r with
    | .bl k => .ok k h3
    | _ => .no
  | .cmp2 op op' a b c, s, h => (evE C a s h).bind fun x h1 => (evE C b s h1).bind fun y h2 => (cmpW C op x y h2).bindN fun r h3 => match r with
    | .bl true => (evE C c s h3).bind fun z h4 => (cmpW C op' y z h4).bindN fun r h5 => match r with
      | .bl k => .ok k h5
      | _ => .no
    | .bl false => .ok false h3
    | _ => .no
  | e, s, h => (evE C e s h).bind fun x h1 => .of h1 (tru h1 x)
def evI (C : Cal) : It → Sl → Hh → R J
  | .seq e, s, h => (evE C e s h).bind fun x h1 => match seqAt h1 x with
    | some _ => .ok (.seq x) h1
    | none => .no
  | .rng1 a, s, h => (evE C a s h).bind fun x h1 => match x with
    | .int b => rngJ 0 b h1
    | _ => .no
  | .rng2 a b, s, h => (evE C a s h).bind fun x h1 => (evE C b s h1).bind fun y h2 => match x, y with
    | .int a, .int b => rngJ a b h2
    | _, _ => .no
  | .enm e, s, h => (evE C e s h).bind fun x h1 => match x with
    | .ref n => match lstAt h1 n with
      | some _ => .ok (.enm n) h1
      | none => .no
    | _ => .no
  | .zip a b, s, h => (evE C a s h).bind fun x h1 => (evE C b s h1).bind fun y h2 => match x, y with
    | .ref m, .ref n => match lstAt h2 m, lstAt h2 n with
      | some _, some _ => .ok (.zip m n) h2
      | _, _ => .no
    | _, _ => .no
def evG (C : Cal) : Tg → W → Sl → Hh → R Sl
  | .name i, w, s, h => .ok (s.set i (some w)) h
  | .tup ts, w, s, h => match w with
    | .tup ws => if ws.length = tgsL ts then evGs C ts ws s h else .no
    | _ => .no
  | .fld o f, w, s, h => (evE C o s h).bind fun x h1 => match setFld C x f w h1 with
    | some h2 => .ok s h2
    | none => .no
  | .sub o i, w, s, h => (evE C o s h).bind fun x h1 => (evE C i s h1).bind fun y h2 => match setIx x y w h2 with
    | some h3 => .ok s h3
    | none => .no
  | .slc o lo hi, w, s, h => match lo, hi with
    | .none, .none => (evE C o s h).bind fun x h1 => match setAll x w h1 with
      | some h2 => .ok s h2
      | none => .no
    | _, _ => .no
def evGs (C : Cal) : Tgs → List W → Sl → Hh → R Sl
  | .nil, ws, s, h => match ws with
    | [] => .ok s h
    | _ => .no
  | .cons t ts, ws, s, h => match ws with
    | w :: ws => (evG C t w s h).bind fun s1 h1 => evGs C ts ws s1 h1
    | [] => .no
end
def setPar : List Nat → List W → Sl → Option Sl
  | [], [], s => some s
  | i :: is, w :: ws, s => setPar is ws (s.set i (some w))
  | _, _, _ => none
mutual
def evS (C : Cal) : S → Sl → Hh → RS
  | .expr e, s, h => (evE C e s h).toS s fun _ h1 => .nx s h1
  | .asg t e, s, h => (evE C e s h).toS s fun x h1 => (evG C t x s h1).toS s fun s1 h2 => .nx s1 h2
  | .par is es, s, h => (evEs C es s h).toS s fun ws h1 => match setPar is ws s with
    | some s1 => .nx s1 h1
    | none => .no
  | .ret e, s, h => (evE C e s h).toS s fun x h1 => .rt x h1
  | .retN, _, h => .rt .non h
  | .pass, s, h => .nx s h
  | .brk, s, h => .bk s h
  | .cont, s, h => .ct s h
  | .never, _, _ => .no
  | .ifS c a b, s, h => (evT C c s h).toS s fun k h1 => match k with
    | true => evSs C a s h1
    | false => evSs C b s h1
  | .whl c b, s, h => whlL (evT C c) (evSs C b) C.wf s h
  | .forS t it b, s, h => (evI C it s h).toS s fun j h1 => forL (evG C t) (evSs C b) j (j.fuel h1) 0 s h1
def evSs (C : Cal) : Ss → Sl → Hh → RS
  | .nil, s, h => .nx s h
  | .cons a r, s, h => match evS C a s h with
    | .nx s1 h1 => evSs C r s1 h1
    | x => x
end
def startS (ns : Nat) (ws : List W) : Sl := ws.map some ++ List.replicate (ns - ws.length) none
def callN (P : Pr) (wf : Nat) : Nat → Nat → List W → Hh → R W
  | 0, _, _, _ => .no
  | d + 1, k, ws, h => match P.fs[k]? with
    | some f => if ws.length = f.np then (match evSs ⟨callN P wf d, P.cs, wf⟩ f.body (startS f.ns ws) h with
      | .nx _ h1 => .ok .non h1
      | .rt w h1 => .ok w h1
      | .ex c fs _ h1 => .ex c fs h1
      | _ => .no) else .no
    | none => .no
def calN (P : Pr) (wf d : Nat) : Cal := ⟨callN P wf d, P.cs, wf⟩
end Mi

set_option Elab.async false
set_option linter.all false
set_option maxRecDepth 100000
set_option maxHeartbeats 4000000
/-! How the interpreter's state lies in the abstract heap. -/
namespace Mi
open PySem PySem.Spec PyProof.Rows L2

structure Gx where
  P : Program
  w : World
  K : PySem.W.Frag
  mg : Str → Option Value
  base : Heap
  nm : List Str
  fa : Nat → Addr
  ca : Nat → Addr
abbrev Rho := List Addr
abbrev St := L2.St

mutual
inductive RelW (G : Gx) (r : Rho) (H : Hp) : W → V → Prop
  | non : RelW G r H .non .non
  | bl (b : Bool) : RelW G r H (.bl b) (.bl b)
  | int (i : Int) : RelW G r H (.int i) (.int i)
  | str (x : Str) : RelW G r H (.str x) (.str x)
  | tup {a : Addr} {ws : List W} {vs : List V} : SqT G.K H a vs → RelWs G r H ws vs → RelW G r H (.tup ws) (.ref a)
  | ref {n : Nat} {a : Addr} : r[n]? = some a → RelW G r H (.ref n) (.ref a)
  | fn (k : Nat) : RelW G r H (.fn k) (.ref (G.fa k))
  | cl (k : Nat) : RelW G r H (.cl k) (.ref (G.ca k))
inductive RelWs (G : Gx) (r : Rho) (H : Hp) : List W → List V → Prop
  | nil : RelWs G r H [] []
  | cons {w : W} {v : V} {ws : List W} {vs : List V} : RelW G r H w v → RelWs G r H ws vs → RelWs G r H (w :: ws) (v :: vs)
end
inductive RelK (G : Gx) (r : Rho) (H : Hp) : List (Key × W) → List (Key × V) → Prop
  | nil : RelK G r H [] []
  | cons {k : Key} {w : W} {v : V} {ws : List (Key × W)} {vs : List (Key × V)} : RelW G r H w v → RelK G r H ws vs → RelK G r H ((k, w) :: ws) ((k, v) :: vs)
inductive RelF (G : Gx) (r : Rho) (H : Hp) : Fs → List (Str × V) → Prop
  | nil : RelF G r H [] []
  | cons {k : Nat} {x : Str} {w : W} {v : V} {ws : Fs} {vs : List (Str × V)} : G.nm[k]? = some x → RelW G r H w v → RelF G r H ws vs → RelF G r H ((k, w) :: ws) ((x, v) :: vs)

structure Step (G : Gx) (r : Rho) (H : Hp) (r' : Rho) (H' : Hp) : Prop where
  pre : ∃ l, r' = r ++ l
  tup : ∀ a vs, SqT G.K H a vs → SqT G.K H' a vs
theorem Step.refl {G : Gx} {r : Rho} {H : Hp} : Step G r H r H := ⟨⟨[], by simp⟩, fun _ _ h => h⟩
theorem Step.trans {G : Gx} {r r1 r2 : Rho} {H H1 H2 : Hp} (a : Step G r H r1 H1) (b : Step G r1 H1 r2 H2) : Step G r H r2 H2 := by
  obtain ⟨⟨l, e⟩, t⟩ := a
  obtain ⟨⟨l', e'⟩, t'⟩ := b
  exact ⟨⟨l ++ l', by rw [e', e, List.append_assoc]⟩, fun a vs h => t' _ _ (t _ _ h)⟩
theorem Step.get {G : Gx} {r r' : Rho} {H H' : Hp} (s : Step G r H r' H') {n : Nat} {a : Addr} (h : r[n]? = some a) : r'[n]? = some a := by
  obtain ⟨⟨l, rfl⟩, _⟩ := s
  have q := (List.getElem?_eq_some_iff.mp h).1
  rw [List.getElem?_append_left q]; exact h
mutual
theorem RelW.step {G : Gx} {r r' : Rho} {H H' : Hp} (s : Step G r H r' H') : ∀ {w : W} {v : V}, RelW G r H w v → RelW G r' H' w v
  | _, _, .non => .non
  | _, _, .bl b => .bl b
  | _, _, .int i => .int i
  | _, _, .str x => .str x
  | _, _, .tup h t => .tup (s.tup _ _ h) (RelWs.step s t)
  | _, _, .ref h => .ref (s.get h)
  | _, _, .fn k => .fn k
  | _, _, .cl k => .cl k
theorem RelWs.step {G : Gx} {r r' : Rho} {H H' : Hp} (s : Step G r H r' H') : ∀ {ws : List W} {vs : List V}, RelWs G r H ws vs → RelWs G r' H' ws vs
  | _, _, .nil => .nil
  | _, _, .cons h t => .cons (RelW.step s h) (RelWs.step s t)
end
theorem RelK.step {G : Gx} {r r' : Rho} {H H' : Hp} (s : Step G r H r' H') : ∀ {ws : List (Key × W)} {vs : List (Key × V)}, RelK G r H ws vs → RelK G r' H' ws vs
  | _, _, .nil => .nil
  | _, _, .cons h t => .cons (h.step s) (RelK.step s t)
theorem RelF.step {G : Gx} {r r' : Rho} {H H' : Hp} (s : Step G r H r' H') : ∀ {ws : Fs} {vs : List (Str × V)}, RelF G r H ws vs → RelF G r' H' ws vs
  | _, _, .nil => .nil
  | _, _, .cons e h t => .cons e (h.step s) (RelF.step s t)

/-! ### lists of related values -/
section
variable {G : Gx} {r : Rho} {H : Hp}
theorem RelWs.length : ∀ {ws : List W} {vs : List V}, RelWs G r H ws vs → ws.length = vs.length
  | _, _, .nil => rfl
  | _, _, .cons _ t => by simp [RelWs.length t]
theorem RelWs.append : ∀ {ws ws' : List W} {vs vs' : List V}, RelWs G r H ws vs → RelWs G r H ws' vs' → RelWs G r H (ws ++ ws') (vs ++ vs')
  | _, _, _, _, .nil, q => q
  | _, _, _, _, .cons h t, q => .cons h (RelWs.append t q)
theorem RelWs.get : ∀ {ws : List W} {vs : List V} {i : Nat} {w : W}, RelWs G r H ws vs → ws[i]? = some w → ∃ v, vs[i]? = some v ∧ RelW G r H w v
  | _, _, _, _, .nil, e => by simp at e
  | _, _, 0, _, .cons h _, e => by simp at e; subst e; exact ⟨_, rfl, h⟩
  | _, _, i + 1, _, .cons _ t, e => by
    obtain ⟨v, a, b⟩ := RelWs.get (i := i) t (by simpa using e)
    exact ⟨v, by simpa using a, b⟩
theorem RelWs.none : ∀ {ws : List W} {vs : List V} {i : Nat}, RelWs G r H ws vs → ws[i]? = Option.none → vs[i]? = Option.none := by
  intro ws vs i q e
  have := q.length
  rw [List.getElem?_eq_none_iff] at e ⊢
  omega
theorem RelWs.set : ∀ {ws : List W} {vs : List V} {w : W} {v : V} (i : Nat), RelWs G r H ws vs → RelW G r H w v → RelWs G r H (ws.set i w) (vs.set i v)
  | _, _, _, _, _, .nil, _ => .nil
  | _, _, _, _, 0, .cons _ t, q => .cons q t
  | _, _, _, _, i + 1, .cons h t, q => .cons h (RelWs.set i t q)
theorem RelWs.drop : ∀ {ws : List W} {vs : List V} (n : Nat), RelWs G r H ws vs → RelWs G r H (ws.drop n) (vs.drop n)
  | _, _, 0, q => q
  | _, _, _ + 1, .nil => .nil
  | _, _, n + 1, .cons _ t => RelWs.drop n t
theorem RelWs.take : ∀ {ws : List W} {vs : List V} (n : Nat), RelWs G r H ws vs → RelWs G r H (ws.take n) (vs.take n)
  | _, _, 0, _ => .nil
  | _, _, _ + 1, .nil => .nil
  | _, _, n + 1, .cons h t => .cons h (RelWs.take n t)
theorem RelWs.eraseIdx : ∀ {ws : List W} {vs : List V} (n : Nat), RelWs G r H ws vs → RelWs G r H (ws.eraseIdx n) (vs.eraseIdx n)
  | _, _, _, .nil => .nil
  | _, _, 0, .cons _ t => t
  | _, _, n + 1, .cons h t => .cons h (RelWs.eraseIdx n t)
theorem RelWs.dropLast : ∀ {ws : List W} {vs : List V}, RelWs G r H ws vs → RelWs G r H ws.dropLast vs.dropLast
  | _, _, .nil => .nil
  | _, _, .cons _ .nil => .nil
  | _, _, .cons h (.cons h' t) => .cons h (RelWs.dropLast (.cons h' t))
theorem RelWs.reverse : ∀ {ws : List W} {vs : List V}, RelWs G r H ws vs → RelWs G r H ws.reverse vs.reverse
  | _, _, .nil => .nil
  | _, _, .cons h t => by rw [List.reverse_cons, List.reverse_cons]; exact (RelWs.reverse t).append (.cons h .nil)
theorem RelWs.rep {ws : List W} {vs : List V} (q : RelWs G r H ws vs) : ∀ k : Nat, RelWs G r H (List.replicate k ws).flatten (List.replicate k vs).flatten
  | 0 => .nil
  | k + 1 => by simp only [List.replicate_succ, List.flatten_cons]; exact q.append (RelWs.rep q k)
theorem RelWs.ints : ∀ {ws : List W} {vs : List V} {ns : List Int}, RelWs G r H ws vs → intsW ws = some ns → vs = ns.map V.int
  | _, _, ns, .nil, e => by simp [intsW] at e; subst e; rfl
  | _, _, ns, .cons (w := w) (ws := ws) h t, e => by
    cases w <;> simp [intsW] at e
    cases h
    obtain ⟨ms, e1, rfl⟩ := e
    rw [RelWs.ints t e1]; rfl
theorem RelWs.bools : ∀ {ws : List W} {vs : List V} {ns : List Bool}, RelWs G r H ws vs → boolsW ws = some ns → vs = ns.map V.bl
  | _, _, ns, .nil, e => by simp [boolsW] at e; subst e; rfl
  | _, _, ns, .cons (w := w) (ws := ws) h t, e => by
    cases w <;> simp [boolsW] at e
    cases h
    obtain ⟨ms, e1, rfl⟩ := e
    rw [RelWs.bools t e1]; rfl
theorem RelWs.ofInts : ∀ (ns : List Int), RelWs G r H (ns.map W.int) (ns.map V.int)
  | [] => .nil
  | n :: ns => .cons (.int n) (RelWs.ofInts ns)
/-! ### dicts -/
theorem RelK.val : ∀ {kvs : List (Key × W)} {vs : List (Key × V)} (k : Key), RelK G r H kvs vs → (valK kvs k = none ∧ valV vs k = none) ∨ ∃ w v, valK kvs k = some w ∧ valV vs k = some v ∧ RelW G r H w v
  | _, _, k, .nil => .inl ⟨rfl, rfl⟩
  | _, _, k, .cons (k := k') (w := w) (v := v) (ws := ws) (vs := vs) h t => by
    by_cases c : k' = k
    · subst c
      exact .inr ⟨w, v, by simp [valK], valV_pos rfl, h⟩
    · have e1 : valK ((k', w) :: ws) k = valK ws k := by simp [valK, c]
      rw [e1, valV_neg c]
      exact RelK.val k t
theorem RelK.any : ∀ {kvs : List (Key × W)} {vs : List (Key × V)} (k : Key), RelK G r H kvs vs → (kvs.any fun kv => decide (kv.1 = k)) = (vs.any fun kv => decide (kv.1 = k))
  | _, _, k, .nil => rfl
  | _, _, k, .cons h t => by simp only [List.any_cons]; rw [RelK.any k t]
theorem RelK.append : ∀ {ws ws' : List (Key × W)} {vs vs' : List (Key × V)}, RelK G r H ws vs → RelK G r H ws' vs' → RelK G r H (ws ++ ws') (vs ++ vs')
  | _, _, _, _, .nil, q => q
  | _, _, _, _, .cons h t, q => .cons h (RelK.append t q)
theorem RelK.repl : ∀ {kvs : List (Key × W)} {vs : List (Key × V)} (k : Key) {w : W} {v : V}, RelK G r H kvs vs → RelW G r H w v →
    RelK G r H (kvs.map fun kv => if kv.1 = k then (kv.1, w) else kv) (vs.map fun kv => if kv.1 = k then (kv.1, v) else kv)
  | _, _, k, _, _, .nil, _ => .nil
  | _, _, k, _, _, .cons (k := k') h t, q => by
    simp only [List.map_cons]
    by_cases c : k' = k
    · rw [if_pos c, if_pos c]; exact .cons q (RelK.repl k t q)
    · rw [if_neg c, if_neg c]; exact .cons h (RelK.repl k t q)
theorem RelK.put {kvs : List (Key × W)} {vs : List (Key × V)} (k : Key) {w : W} {v : V} (q : RelK G r H kvs vs) (p : RelW G r H w v) : RelK G r H (putKW kvs k w) (putK vs k v) := by
  unfold putKW putK
  rw [RelK.any k q]
  split
  · exact RelK.repl k q p
  · exact q.append (.cons p .nil)
theorem RelK.drop : ∀ {kvs : List (Key × W)} {vs : List (Key × V)} (k : Key), RelK G r H kvs vs → RelK G r H (dropKW kvs k) (dropK vs k)
  | _, _, k, .nil => .nil
  | _, _, k, .cons (k := k') (w := w) (v := v) (ws := ws) (vs := vs) h t => by
    have ih := RelK.drop k t
    by_cases c : k' = k
    · have e1 : dropKW ((k', w) :: ws) k = dropKW ws k := by simp [dropKW, c]
      have e2 : dropK ((k', v) :: vs) k = dropK vs k := by simp [dropK, c]
      rw [e1, e2]; exact ih
    · have e1 : dropKW ((k', w) :: ws) k = (k', w) :: dropKW ws k := by simp [dropKW, c]
      have e2 : dropK ((k', v) :: vs) k = (k', v) :: dropK vs k := by simp [dropK, c]
      rw [e1, e2]; exact .cons h ih
theorem RelK.length : ∀ {ws : List (Key × W)} {vs : List (Key × V)}, RelK G r H ws vs → ws.length = vs.length
  | _, _, .nil => rfl
  | _, _, .cons _ t => by simp [RelK.length t]
theorem relW_key {k : Key} : RelW G r H (kW k) (kV k) := by cases k <;> constructor
theorem keyW_rel {w : W} {v : V} {k : Key} (e : keyW w = some k) (q : RelW G r H w v) : v = kV k := by
  cases w <;> simp [keyW] at e <;> cases q <;> subst e <;> rfl
theorem RelK.keys : ∀ {ws : List (Key × W)} {vs : List (Key × V)}, RelK G r H ws vs → RelWs G r H (ws.map fun kv => kW kv.1) (vs.map fun kv => kV kv.1)
  | _, _, .nil => .nil
  | _, _, .cons _ t => .cons relW_key (RelK.keys t)
/-! ### fields -/
theorem RelF.lookup (nd : G.nm.Nodup) : ∀ {fs : Fs} {fv : List (Str × V)} {k : Nat} {x : Str}, RelF G r H fs fv → G.nm[k]? = some x → (fs.lookup k = none ∧ fv.lookup x = none) ∨ ∃ w v, fs.lookup k = some w ∧ fv.lookup x = some v ∧ RelW G r H w v
  | _, _, k, x, .nil, _ => .inl ⟨rfl, rfl⟩
  | _, _, k, x, .cons (k := k') (x := x') (w := w) (v := v) (ws := ws) (vs := vs) e h t, ek => by
    by_cases c : k = k'
    · subst c
      rw [ek] at e; cases e
      exact .inr ⟨w, v, by simp [List.lookup], by simp [List.lookup], h⟩
    · have cx : x ≠ x' := fun q => c (nodup_ix nd ek (q ▸ e))
      have e1 : List.lookup k ((k', w) :: ws) = List.lookup k ws := by
        have q : (k == k') = false := by simpa using c
        simp [List.lookup, q]
      have e2 : List.lookup x ((x', v) :: vs) = List.lookup x vs := by
        have q : (x == x') = false := by simpa using cx
        simp [List.lookup, q]
      rw [e1, e2]; exact RelF.lookup nd t ek
theorem RelF.put (nd : G.nm.Nodup) : ∀ {fs : Fs} {fv : List (Str × V)} {k : Nat} {x : Str} {w : W} {v : V}, RelF G r H fs fv → G.nm[k]? = some x → RelW G r H w v → RelF G r H (putFW k w fs) (putF x v fv)
  | _, _, k, x, _, _, .nil, ek, q => .cons ek q .nil
  | _, _, k, x, w0, v0, .cons (k := k') (x := x') (w := w) (v := v) (ws := ws) (vs := vs) e h t, ek, q => by
    unfold putFW putF
    by_cases c : k' = k
    · subst c
      rw [ek] at e; cases e
      rw [if_pos rfl, if_pos rfl]; exact .cons ek q t
    · have cx : x' ≠ x := fun z => c (nodup_ix nd e (z ▸ ek))
      rw [if_neg c, if_neg cx]; exact .cons e h (RelF.put nd t ek q)
theorem RelF.length : ∀ {ws : Fs} {vs : List (Str × V)}, RelF G r H ws vs → ws.length = vs.length
  | _, _, .nil => rfl
  | _, _, .cons _ _ t => by simp [RelF.length t]
end

/-! ### objects, heaps -/
def SqF (K : PySem.W.Frag) (H : Hp) (a : Addr) (xs : List V) : Prop :=
  (∃ o, H a = some (.frz o (.lst xs))) ∨
    ∃ (o : Obj) (its : Array Value) (n : Nat), K.lookup a = some o ∧ o.cls = .type "list" ∧ o.dict = none ∧ o.data = .seq its n ∧ its.size ≤ sizeLine ∧ Vals xs its.toList
theorem SqF.seq {K : PySem.W.Frag} {H : Hp} {a : Addr} {xs : List V} (h : SqF K H a xs) : SqL K H a xs := by
  rcases h with ⟨o, h⟩ | h
  · exact .inl (.inr ⟨o, h⟩)
  · exact .inr h
def OkO (G : Gx) (r : Rho) (H : Hp) (a : Addr) : O → Prop
  | .lst ws => ∃ vs, H a = some (.lst vs) ∧ RelWs G r H ws vs
  | .dic kvs => ∃ vs, H a = some (.dK vs) ∧ RelK G r H kvs vs
  | .ins c fs => ∃ dx fv, H a = some (.ins (G.ca c) dx fv) ∧ RelF G r H fs fv
  | .frz ws => ∃ vs, SqF G.K H a vs ∧ RelWs G r H ws vs
def isFrz : O → Bool
  | .frz _ => true
  | _ => false
theorem OkO.keep {G : Gx} {r r' : Rho} {H H' : Hp} {a : Addr} {o : O} (s : Step G r H r' H') (k : ∀ u, H a = some u → H' a = some u) (h : OkO G r H a o) : OkO G r' H' a o := by
  cases o with
  | lst ws => obtain ⟨vs, e, q⟩ := h; exact ⟨vs, k _ e, q.step s⟩
  | dic ws => obtain ⟨vs, e, q⟩ := h; exact ⟨vs, k _ e, q.step s⟩
  | ins c fs => obtain ⟨dx, fv, e, q⟩ := h; exact ⟨dx, fv, k _ e, q.step s⟩
  | frz ws =>
    obtain ⟨vs, e, q⟩ := h
    refine ⟨vs, ?_, q.step s⟩
    rcases e with ⟨o, e⟩ | e
    · exact .inl ⟨o, k _ e⟩
    · exact .inr e
theorem OkO.mut {G : Gx} {r : Rho} {H : Hp} {a : Addr} {o : O} (h : OkO G r H a o) (f : isFrz o = false) : ∃ u, H a = some u ∧ Mut (some u) := by
  cases o with
  | lst ws => obtain ⟨vs, e, q⟩ := h; exact ⟨_, e, trivial⟩
  | dic ws => obtain ⟨vs, e, q⟩ := h; exact ⟨_, e, trivial⟩
  | ins c fs => obtain ⟨dx, fv, e, q⟩ := h; exact ⟨_, e, trivial⟩
  | frz ws => cases f
structure Sim (G : Gx) (r : Rho) (h : Hh) (H : Hp) : Prop where
  len : r.length = h.n
  ok : ∀ n a, r[n]? = some a → ∃ o, h.get n = some o ∧ OkO G r H a o
  inj : ∀ n m a o o', r[n]? = some a → r[m]? = some a → h.get n = some o → h.get m = some o' → isFrz o = false → isFrz o' = false → n = m
theorem mut_tup {H : Hp} {a b : Addr} {u : HO} {vs : List V} (ha : H a = some u) (m : Mut (some u)) {K : PySem.W.Frag} {ho : HO} (h : SqT K H b vs) : SqT K (upd H a ho) b vs := by
  rcases h with h | h
  · refine .inl ?_
    rcases h with h | ⟨o, h⟩
    · have ne : b ≠ a := by rintro rfl; rw [ha] at h; cases h; exact m
      exact .inl (by rw [upd_ne ne]; exact h)
    · have ne : b ≠ a := by rintro rfl; rw [ha] at h; cases h; exact m
      exact .inr ⟨o, by rw [upd_ne ne]; exact h⟩
  · exact .inr h
theorem new_tup {H : Hp} {a b : Addr} {vs : List V} (ha : H a = none) {K : PySem.W.Frag} {ho : HO} (h : SqT K H b vs) : SqT K (upd H a ho) b vs := by
  rcases h with h | h
  · refine .inl ?_
    rcases h with h | ⟨o, h⟩
    · exact .inl (by rw [upd_ne (ne_of_none h ha)]; exact h)
    · exact .inr ⟨o, by rw [upd_ne (ne_of_none h ha)]; exact h⟩
  · exact .inr h
section
variable {G : Gx} {r : Rho} {h : Hh} {H : Hp} {a p : Addr} {n : Nat} {o : O} {ho : HO}
theorem Step.fresh (hp : H p = none) : Step G r H r (upd H p ho) := ⟨⟨[], by simp⟩, fun _ _ q => new_tup hp q⟩
theorem Step.more {l : Rho} (s : Step G r H r (upd H p ho)) : Step G r H (r ++ l) (upd H p ho) := ⟨⟨l, rfl⟩, s.tup⟩
/-- a new object that we do not follow -/
theorem Sim.fresh (S : Sim G r h H) (hp : H p = none) : Sim G r h (upd H p ho) := by
  refine ⟨S.len, fun n a e => ?_, S.inj⟩
  obtain ⟨o, eo, q⟩ := S.ok n a e
  exact ⟨o, eo, q.keep (Step.fresh hp) fun u eu => by rw [upd_ne (ne_of_none eu hp)]; exact eu⟩
/-- a new object -/
theorem Sim.push (S : Sim G r h H) (hp : H p = none) (q : OkO G (r ++ [p]) (upd H p ho) p o) : Sim G (r ++ [p]) (h.push o) (upd H p ho) ∧ Step G r H (r ++ [p]) (upd H p ho) := by
  have st : Step G r H (r ++ [p]) (upd H p ho) := (Step.fresh hp).more
  have hl : (r ++ [p])[h.n]? = some p := by rw [← S.len]; simp
  have old : ∀ n a, (r ++ [p])[n]? = some a → n ≠ h.n → r[n]? = some a ∧ n < h.n := by
    intro n a e ne
    have q := (List.getElem?_eq_some_iff.mp e).1
    simp at q
    have l := S.len
    have lt : n < r.length := by omega
    rw [List.getElem?_append_left lt] at e
    exact ⟨e, by omega⟩
  refine ⟨⟨by simp [Hh.n_push, S.len], fun n a e => ?_, fun n m a o1 o2 e1 e2 g1 g2 f1 f2 => ?_⟩, st⟩
  · rw [Hh.get_push]
    by_cases c : n = h.n
    · subst c
      rw [hl] at e; cases e
      exact ⟨o, by simp, q⟩
    · obtain ⟨e', _⟩ := old n a e c
      obtain ⟨u, eu, qu⟩ := S.ok n a e'
      rw [if_neg c]
      exact ⟨u, eu, qu.keep st fun v ev => by rw [upd_ne (ne_of_none ev hp)]; exact ev⟩
  · rw [Hh.get_push] at g1 g2
    by_cases c1 : n = h.n
    · by_cases c2 : m = h.n
      · omega
      · subst c1
        rw [hl] at e1; cases e1
        obtain ⟨e', _⟩ := old m _ e2 c2
        rw [if_neg c2] at g2
        obtain ⟨u, eu, qu⟩ := S.ok m _ e'
        rw [g2] at eu; cases eu
        obtain ⟨v, ev, _⟩ := qu.mut f2
        rw [hp] at ev; cases ev
    · by_cases c2 : m = h.n
      · subst c2
        rw [hl] at e2; cases e2
        obtain ⟨e', _⟩ := old n _ e1 c1
        rw [if_neg c1] at g1
        obtain ⟨u, eu, qu⟩ := S.ok n _ e'
        rw [g1] at eu; cases eu
        obtain ⟨v, ev, _⟩ := qu.mut f1
        rw [hp] at ev; cases ev
      · rw [if_neg c1] at g1
        rw [if_neg c2] at g2
        exact S.inj n m a o1 o2 (old n a e1 c1).1 (old m a e2 c2).1 g1 g2 f1 f2
/-- an object is changed -/
theorem Sim.put {o0 : O} (S : Sim G r h H) (e : r[n]? = some a) (g : h.get n = some o0) (f : isFrz o0 = false) (f' : isFrz o = false) (q : Step G r H r (upd H a ho) → OkO G r (upd H a ho) a o) : Sim G r (h.put n o) (upd H a ho) ∧ Step G r H r (upd H a ho) := by
  obtain ⟨o1, e1, q1⟩ := S.ok n a e
  rw [g] at e1; cases e1
  obtain ⟨u, eu, mu⟩ := q1.mut f
  have st : Step G r H r (upd H a ho) := ⟨⟨[], by simp⟩, fun _ _ q => mut_tup eu mu q⟩
  refine ⟨⟨S.len, fun m b eb => ?_, fun m k b o1 o2 e1 e2 g1 g2 f1 f2 => ?_⟩, st⟩
  · rw [Hh.get_put]
    by_cases c : m = n
    · subst c
      rw [e] at eb; cases eb
      exact ⟨o, by simp, q st⟩
    · rw [if_neg c]
      obtain ⟨o2, e2, q2⟩ := S.ok m b eb
      refine ⟨o2, e2, ?_⟩
      cases z : isFrz o2 with
      | false =>
        refine q2.keep st fun v ev => ?_
        have ne : b ≠ a := by
          rintro rfl
          exact c (S.inj m n _ _ _ eb e e2 g z f)
        rw [upd_ne ne]; exact ev
      | true =>
        cases o2 with
        | frz ws =>
          obtain ⟨vs, sq, qw⟩ := q2
          refine ⟨vs, ?_, qw.step st⟩
          rcases sq with ⟨ob, sq⟩ | sq
          · have ne : b ≠ a := by
              rintro rfl
              rw [eu] at sq; cases sq; exact mu
            exact .inl ⟨ob, by rw [upd_ne ne]; exact sq⟩
          · exact .inr sq
        | lst _ => cases z
        | dic _ => cases z
        | ins _ _ => cases z
  · rw [Hh.get_put] at g1 g2
    by_cases c1 : m = n
    · by_cases c2 : k = n
      · omega
      · subst c1
        rw [if_neg c2] at g2
        rw [if_pos rfl] at g1
        rw [e] at e1; cases e1
        exact S.inj _ _ _ _ _ e e2 g g2 f f2
    · by_cases c2 : k = n
      · subst c2
        rw [if_neg c1] at g1
        rw [e] at e2; cases e2
        exact S.inj _ _ _ _ _ e1 e g1 g f1 f
      · rw [if_neg c1] at g1
        rw [if_neg c2] at g2
        exact S.inj _ _ _ _ _ e1 e2 g1 g2 f1 f2
end
end Mi

set_option Elab.async false
set_option linter.all false
set_option maxRecDepth 100000
set_option maxHeartbeats 4000000
/-! What is wanted behind an evaluation; operations by values. -/
namespace Mi
open PySem PySem.Spec PyProof.Rows L2

def Post {α β : Type} (G : Gx) (r : Rho) (H : Hp) (rel : Rho → Hp → α → β → Prop) (Q : β → Hp → Prop) (EX : XK) : R α → Prop
  | .ok a h' => ∀ r' H' b, Step G r H r' H' → Sim G r' h' H' → rel r' H' a b → Q b H'
  | .ex c fs h' => ∀ r' H' d fv, Step G r H r' H' → Sim G r' h' H' → H' d = some (.xd fv) → RelF G r' H' fs fv → EX (.ref (G.ca c)) (some d) H'
  | .no => False
abbrev relE {α : Type} : Rho → Hp → α → α → Prop := fun _ _ a b => a = b
section
variable {G : Gx} {r r1 : Rho} {H H1 : Hp} {α β γ δ : Type} {rel : Rho → Hp → α → β → Prop} {rel' : Rho → Hp → γ → δ → Prop} {Q : β → Hp → Prop} {EX : XK}
theorem Post.step {x : R α} (p : Post G r H rel Q EX x) (s : Step G r H r1 H1) : Post G r1 H1 rel Q EX x := by
  cases x with
  | ok a h => intro r' H' b st; exact p r' H' b (s.trans st)
  | ex c fs h => intro r' H' d fv st; exact p r' H' d fv (s.trans st)
  | no => exact p
theorem Post.of_bind {x : R γ} {f : γ → Hh → R α} {K : δ → Hp → Prop} (p : Post G r H rel Q EX (x.bind f))
    (k : ∀ r1 H1 h1 a b, Step G r H r1 H1 → Sim G r1 h1 H1 → rel' r1 H1 a b → Post G r1 H1 rel Q EX (f a h1) → K b H1) : Post G r H rel' K EX x := by
  cases x with
  | ok a h => intro r' H' b st S q; exact k r' H' h a b st S q (Post.step (x := f a h) p st)
  | ex c fs h => exact p
  | no => exact p
theorem Post.of_bindN {x : R γ} {f : γ → Hh → R α} {K : δ → Hp → Prop} {E' : XK} (p : Post G r H rel Q EX (x.bindN f))
    (k : ∀ r1 H1 h1 a b, Step G r H r1 H1 → Sim G r1 h1 H1 → rel' r1 H1 a b → Post G r1 H1 rel Q EX (f a h1) → K b H1) : Post G r H rel' K E' x := by
  cases x with
  | ok a h => intro r' H' b st S q; exact k r' H' h a b st S q (Post.step (x := f a h) p st)
  | ex c fs h => exact False.elim p
  | no => exact False.elim p
theorem Post.nx {x : R α} {E' : XK} (p : Post G r H rel Q EX x.nx) : Post G r H rel Q E' x := by
  cases x with
  | ok a h => exact p
  | ex c fs h => exact False.elim p
  | no => exact False.elim p
theorem Post.ok {a : α} {b : β} {h : Hh} (p : Post G r H rel Q EX (.ok a h)) (S : Sim G r h H) (q : rel r H a b) : Q b H := p _ _ _ Step.refl S q
theorem Post.of {h : Hh} {o : Option α} {b : α → β} (p : Post G r H rel Q EX (R.of h o)) (S : Sim G r h H) (q : ∀ a, o = some a → rel r H a (b a)) : ∃ a, o = some a ∧ Q (b a) H := by
  cases o with
  | none => exact False.elim p
  | some a => exact ⟨a, rfl, Post.ok (h := h) p S (q a rfl)⟩
end

/-! ### slots -/
def SlR (G : Gx) (r : Rho) (H : Hp) (s : Sl) (σ : St) : Prop := s.length = σ.length ∧ ∀ (i : Nat) (w : W), s[i]? = some (some w) → ∃ v, σ[i]? = some (some v) ∧ RelW G r H w v
theorem SlR.step {G : Gx} {r r' : Rho} {H H' : Hp} {s : Sl} {σ : St} (q : SlR G r H s σ) (st : Step G r H r' H') : SlR G r' H' s σ :=
  ⟨q.1, fun i w e => let ⟨v, a, b⟩ := q.2 i w e; ⟨v, a, b.step st⟩⟩
theorem SlR.get {G : Gx} {r : Rho} {H : Hp} {s : Sl} {σ : St} (q : SlR G r H s σ) {i : Nat} {w : W} (e : getS s i = some w) : ∃ v, σ[i]? = some (some v) ∧ RelW G r H w v := by
  refine q.2 i w ?_
  unfold getS at e
  split at e
  · rename_i u eu; rw [eu]; cases e; rfl
  · cases e
theorem SlR.set {G : Gx} {r : Rho} {H : Hp} {s : Sl} {σ : St} (q : SlR G r H s σ) {i : Nat} {w : W} {v : V} (p : RelW G r H w v) : SlR G r H (s.set i (some w)) (σ.set i (some v)) := by
  refine ⟨by simp [q.1], fun j u e => ?_⟩
  by_cases c : i = j
  · subst c
    have lt : i < s.length := by
      have := (List.getElem?_eq_some_iff.mp e).1
      simpa using this
    rw [List.getElem?_set_self lt] at e
    cases e
    exact ⟨v, by rw [List.getElem?_set_self (by rw [← q.1]; exact lt)], p⟩
  · rw [List.getElem?_set_ne c] at e
    rw [List.getElem?_set_ne c]
    exact q.2 j u e
theorem SlR.wipe {G : Gx} {r : Rho} {H : Hp} {s : Sl} {σ : St} (q : SlR G r H s σ) : ∀ l : List Nat, SlR G r H (wipeS s l) (L2.wipe σ l)
  | [] => q
  | i :: l => by
    have ih := SlR.wipe q l
    refine ⟨by simp [wipeS, L2.wipe, ih.1], fun j u e => ?_⟩
    unfold wipeS at e
    unfold L2.wipe
    by_cases c : i = j
    · subst c
      have lt : i < (wipeS s l).length := by
        have := (List.getElem?_eq_some_iff.mp e).1
        simpa using this
      rw [List.getElem?_set_self lt] at e
      cases e
    · rw [List.getElem?_set_ne c] at e
      rw [List.getElem?_set_ne c]
      exact ih.2 j u e

/-! ### the universal reading -/
def U {α β : Type} (G : Gx) (Wx : WX) (rel : Rho → Hp → α → β → Prop) (f : Sl → Hh → R α) : St → Hp → (β → Hp → Prop) → Prop := fun σ H Q =>
  ∃ r s h, Sim G r h H ∧ SlR G r H s σ ∧ Post G r H rel Q (WE Wx σ) (f s h)
/-- by values -/
def u2 (G : Gx) (f : W → W → Hh → R W) : R2 := fun x y H Q => ∃ r h a b, Sim G r h H ∧ RelW G r H a x ∧ RelW G r H b y ∧ Post G r H (RelW G) Q (fun _ _ _ => False) (f a b h)
def uC (G : Gx) (f : List W → Hh → R W) : List V → Hp → VK → Prop := fun xs H Q => ∃ r h ws, Sim G r h H ∧ RelWs G r H ws xs ∧ Post G r H (RelW G) Q (fun _ _ _ => False) (f ws h)
def uM (G : Gx) (f : W → List W → Hh → R W) : V → List V → Hp → VK → Prop := fun x xs H Q => ∃ r h a ws, Sim G r h H ∧ RelW G r H a x ∧ RelWs G r H ws xs ∧ Post G r H (RelW G) Q (fun _ _ _ => False) (f a ws h)

section
variable {G : Gx} {r : Rho} {h : Hh} {H : Hp} {Q : VK} {EX : XK}
/-! ### what stands where -/
theorem Sim.at (S : Sim G r h H) {n : Nat} {a : Addr} {o : O} (e : r[n]? = some a) (g : h.get n = some o) : OkO G r H a o := by
  obtain ⟨o', e', q⟩ := S.ok n a e
  rw [g] at e'; cases e'; exact q
theorem Sim.lst (S : Sim G r h H) {n : Nat} {a : Addr} {ws : List W} (e : r[n]? = some a) (g : h.get n = some (.lst ws)) : ∃ vs, H a = some (.lst vs) ∧ RelWs G r H ws vs := S.at e g
theorem Sim.dic (S : Sim G r h H) {n : Nat} {a : Addr} {ws : List (Key × W)} (e : r[n]? = some a) (g : h.get n = some (.dic ws)) : ∃ vs, H a = some (.dK vs) ∧ RelK G r H ws vs := S.at e g
theorem Sim.ins (S : Sim G r h H) {n : Nat} {a : Addr} {c : Nat} {fs : Fs} (e : r[n]? = some a) (g : h.get n = some (.ins c fs)) : ∃ dx fv, H a = some (.ins (G.ca c) dx fv) ∧ RelF G r H fs fv := S.at e g
/-- a list, a tuple that is read -/
theorem Sim.seq (S : Sim G r h H) {w : W} {v : V} {ws : List W} (q : RelW G r H w v) (e : seqAt h w = some ws) : ∃ p vs, v = .ref p ∧ (SqL G.K H p vs ∨ SqT G.K H p vs) ∧ RelWs G r H ws vs := by
  cases q with
  | tup t rs => simp [seqAt] at e; subst e; exact ⟨_, _, rfl, .inr t, rs⟩
  | ref q =>
    simp only [seqAt] at e
    split at e
    · rename_i g; cases e
      obtain ⟨vs, a, b⟩ := S.lst q g
      exact ⟨_, _, rfl, .inl (SqL.of a), b⟩
    · rename_i g; cases e
      obtain ⟨vs, a, b⟩ : OkO G r H _ (.frz _) := S.at q g
      exact ⟨_, _, rfl, .inl a.seq, b⟩
    · cases e
  | _ => simp [seqAt] at e
theorem Sim.lstL (S : Sim G r h H) {n : Nat} {a : Addr} {ws : List W} (e : r[n]? = some a) (g : lstAt h n = some ws) : ∃ vs, SqL G.K H a vs ∧ RelWs G r H ws vs := by
  unfold lstAt at g
  split at g
  · rename_i z; cases g
    obtain ⟨vs, p, q⟩ := S.lst e z
    exact ⟨vs, SqL.of p, q⟩
  · rename_i z; cases g
    obtain ⟨vs, p, q⟩ : OkO G r H _ (.frz _) := S.at e z
    exact ⟨vs, p.seq, q⟩
  · cases g
theorem Sim.last (S : Sim G r h H) (p : Addr) : (r ++ [p])[h.n]? = some p := by rw [← S.len]; simp
/-! ### new objects, changed objects -/
theorem Post.newL (S : Sim G r h H) {ws : List W} {vs : List V} (q : RelWs G r H ws vs) (p : Post G r H (RelW G) Q EX (.ok (.ref h.n) (h.push (.lst ws)))) : ∀ a, H a = none → Q (.ref a) (upd H a (.lst vs)) := by
  intro a ha
  obtain ⟨S', st⟩ := S.push (o := .lst ws) (ho := .lst vs) ha ⟨vs, upd_same, q.step (Step.fresh ha).more⟩
  exact p _ _ _ st S' (.ref (S.last a))
theorem Post.newD (S : Sim G r h H) {ws : List (Key × W)} {vs : List (Key × V)} (q : RelK G r H ws vs) (p : Post G r H (RelW G) Q EX (.ok (.ref h.n) (h.push (.dic ws)))) : ∀ a, H a = none → Q (.ref a) (upd H a (.dK vs)) := by
  intro a ha
  obtain ⟨S', st⟩ := S.push (o := .dic ws) (ho := .dK vs) ha ⟨vs, upd_same, q.step (Step.fresh ha).more⟩
  exact p _ _ _ st S' (.ref (S.last a))
theorem Post.newT (S : Sim G r h H) {ws : List W} {vs : List V} (q : RelWs G r H ws vs) (p : Post G r H (RelW G) Q EX (.ok (.tup ws) h)) : ∀ a, H a = none → Q (.ref a) (upd H a (.tup vs)) := by
  intro a ha
  exact p _ _ _ (Step.fresh ha) (S.fresh ha) (.tup (SqT.of upd_same) (q.step (Step.fresh ha)))
theorem Post.putL (S : Sim G r h H) {n : Nat} {a : Addr} {ws ws' : List W} {vs' : List V} {w : W} {v : V} (e : r[n]? = some a) (g : h.get n = some (.lst ws)) (q : RelWs G r H ws' vs') (qw : RelW G r H w v)
    (p : Post G r H (RelW G) Q EX (.ok w (h.put n (.lst ws')))) : Q v (upd H a (.lst vs')) := by
  obtain ⟨S', st⟩ := S.put (o := .lst ws') (ho := .lst vs') e g rfl rfl fun st => ⟨vs', upd_same, q.step st⟩
  exact p _ _ _ st S' (qw.step st)
theorem Post.putD (S : Sim G r h H) {n : Nat} {a : Addr} {ws ws' : List (Key × W)} {vs' : List (Key × V)} {w : W} {v : V} (e : r[n]? = some a) (g : h.get n = some (.dic ws)) (q : RelK G r H ws' vs') (qw : RelW G r H w v)
    (p : Post G r H (RelW G) Q EX (.ok w (h.put n (.dic ws')))) : Q v (upd H a (.dK vs')) := by
  obtain ⟨S', st⟩ := S.put (o := .dic ws') (ho := .dK vs') e g rfl rfl fun st => ⟨vs', upd_same, q.step st⟩
  exact p _ _ _ st S' (qw.step st)
end

/-! ### binary operations -/
section
variable {G : Gx} {X : Cx}
theorem or_int {f : Value → Value → Sem Value} {g : Int → Int → Option W} {C : Int → Int → Prop} {gv : Int → Int → V} (o : OpR X f (rI C gv))
    (hc : ∀ i j w, g i j = some w → C i j ∧ ∀ r H, RelW G r H w (gv i j)) : OpR X f (u2 G fun x y h => intI h x y g) := by
  intro pins s σ H x y v u Q I rx ry ⟨r, h, a, b, S, q1, q2, p⟩
  cases a <;> cases b <;> (try exact False.elim p)
  cases q1; cases q2
  rename_i i j
  obtain ⟨w, e, q⟩ := Post.of (b := fun _ => gv i j) (p : Post G r H (RelW G) Q _ (R.of h (g i j))) S (fun w e => (hc i j w e).2 _ _)
  exact o pins s σ H _ _ v u Q I rx ry ⟨i, j, rfl, rfl, (hc i j w e).1, q⟩
theorem or_int0 {f : Value → Value → Sem Value} {g : Int → Int → Option W} {gv : Int → Int → V} (o : OpR X f (rI0 gv))
    (hc : ∀ i j w, g i j = some w → ∀ r H, RelW G r H w (gv i j)) : OpR X f (u2 G fun x y h => intI h x y g) := by
  intro pins s σ H x y v u Q I rx ry ⟨r, h, a, b, S, q1, q2, p⟩
  cases a <;> cases b <;> (try exact False.elim p)
  cases q1; cases q2
  rename_i i j
  obtain ⟨w, e, q⟩ := Post.of (b := fun _ => gv i j) (p : Post G r H (RelW G) Q _ (R.of h (g i j))) S (fun w e => hc i j w e _ _)
  exact o pins s σ H _ _ v u Q I rx ry ⟨i, j, rfl, rfl, q⟩
theorem or_add (hK : X.K = G.K) : OpR X (binaryOp .Add) (u2 G addW) := by
  intro pins s σ H x y v u Q I rx ry ⟨r, h, a, b, S, q1, q2, p⟩
  cases a <;> cases b <;> (try exact False.elim p)
  · cases q1; cases q2
    exact op_add pins s σ H _ _ v u Q I rx ry ⟨_, _, rfl, rfl, Post.ok p S (.int _)⟩
  · cases q1; cases q2
    simp only [addW] at p
    split at p
    · rename_i hl
      exact op_add_str pins s σ H _ _ v u Q I rx ry ⟨_, _, rfl, rfl, hl, Post.ok p S (.str _)⟩
    · exact False.elim p
  · cases q1 with
    | tup t1 w1 =>
    cases q2 with
    | tup t2 w2 =>
    simp only [addW] at p
    split at p
    · exact False.elim p
    · rename_i hne
      unfold newT at p
      split at p
      · rename_i hl
        have l1 := w1.length
        have l2 := w2.length
        rw [List.length_append] at hl
        refine op_catT pins s σ H _ _ v u Q I rx ry ⟨_, _, _, _, rfl, rfl, hK ▸ t1, hK ▸ t2, ?_, by omega, fun e => ?_, fun e => Post.newT S (w1.append w2) p⟩
        · rintro rfl; cases w1; exact hne rfl
        · subst e; cases w2
          rw [List.append_nil] at p
          exact Post.ok p S (.tup t1 w1)
      · exact False.elim p
  · cases q1 with
    | ref e1 =>
    cases q2 with
    | ref e2 =>
    simp only [addW] at p
    split at p
    · rename_i g1 g2
      obtain ⟨vs, a1, b1⟩ := S.lst e1 g1
      obtain ⟨us, a2, b2⟩ := S.lst e2 g2
      unfold newL at p
      split at p
      · rename_i hl
        rw [List.length_append, b1.length, b2.length] at hl
        exact op_cat pins s σ H _ _ v u Q I rx ry ⟨_, _, _, _, rfl, rfl, a1, a2, hl, Post.newL S (b1.append b2) p⟩
      · exact False.elim p
    · exact False.elim p
theorem or_mul : OpR X (binaryOp .Mult) (u2 G mulW) := by
  intro pins s σ H x y v u Q I rx ry ⟨r, h, a, b, S, q1, q2, p⟩
  cases a <;> cases b <;> (try exact False.elim p)
  · cases q1; cases q2
    simp only [mulW] at p
    split at p
    · rename_i hc
      exact op_mul pins s σ H _ _ v u Q I rx ry ⟨_, _, rfl, rfl, hc, Post.ok p S (.int _)⟩
    · exact False.elim p
  · cases q1 with
    | ref e1 =>
    cases q2
    simp only [mulW] at p
    split at p
    · rename_i g1
      obtain ⟨vs, a1, b1⟩ := S.lst e1 g1
      split at p
      · rename_i hc
        rw [b1.length] at hc
        exact op_rep pins s σ H _ _ v u Q I rx ry ⟨_, _, _, rfl, rfl, a1, hc.1, hc.2.1, hc.2.2, Post.newL S (b1.rep _) p⟩
      · exact False.elim p
    · exact False.elim p
def bopA : Bop → Operator
  | .add => .Add | .sub => .Sub | .mul => .Mult | .fdiv => .FloorDiv | .mod => .Mod | .pow => .Pow | .shl => .LShift | .shr => .RShift | .band => .BitAnd | .bor => .BitOr | .bxor => .BitXor
theorem ite_some {p : Prop} [Decidable p] {a w : W} (e : (if p then some a else none) = some w) : p ∧ w = a := by
  split at e
  · cases e; exact ⟨by assumption, rfl⟩
  · cases e
theorem ite_int {p : Prop} [Decidable p] {i : Int} {w : W} (e : (if p then some (W.int i) else none) = some w) : p ∧ ∀ r H, RelW G r H w (.int i) := by
  obtain ⟨a, rfl⟩ := ite_some e
  exact ⟨a, fun _ _ => .int _⟩
theorem or_bin (hK : X.K = G.K) (op : Bop) : OpR X (binaryOp (bopA op)) (u2 G (binW op)) := by
  cases op with
  | add => exact or_add hK
  | mul => exact or_mul
  | sub => exact or_int0 op_sub (fun i j w e r H => by cases e; exact .int _)
  | fdiv => exact or_int op_fdiv (fun i j w e => ite_int e)
  | mod => exact or_int op_mod (fun i j w e => ite_int e)
  | pow => exact or_int op_pow (fun i j w e => ite_int e)
  | shl => exact or_int op_shl (fun i j w e => ite_int e)
  | shr => exact or_int op_shr (fun i j w e => ite_int e)
  | band => exact or_int0 op_and (fun i j w e r H => by cases e; exact .int _)
  | bor => exact or_int0 op_or (fun i j w e r H => by cases e; exact .int _)
  | bxor => exact or_int0 op_xor (fun i j w e r H => by cases e; exact .int _)
end

/-! ### data -/
section
variable {G : Gx} {r : Rho} {h : Hh} {H : Hp}
mutual
theorem Sim.dp (S : Sim G r h H) : ∀ (n : Nat) {w : W} {v : V} {d : PyData}, RelW G r H w v → dat n h w = some d → Dp G.K H v d ∧ d.canLay0 = true ∧ d.depth ≤ n
  | 0, _, _, _, _, e => by simp [dat] at e
  | n + 1, w, v, d, q, e => by
    cases q with
    | non => simp [dat] at e; subst e; exact ⟨.non, rfl, Nat.zero_le _⟩
    | bl b => simp [dat] at e; subst e; exact ⟨.bl b, rfl, Nat.zero_le _⟩
    | int i => simp [dat] at e; subst e; exact ⟨.int i, rfl, Nat.zero_le _⟩
    | str x => simp [dat] at e; obtain ⟨c, rfl⟩ := e; exact ⟨.str x, c, Nat.zero_le _⟩
    | tup t ws =>
      simp only [dat, Option.map_eq_some_iff] at e
      obtain ⟨ds, e, rfl⟩ := e
      obtain ⟨a, b, c⟩ := Sim.dpAll S n ws e
      exact ⟨.tup t a, b, by simp only [PyData.depth]; omega⟩
    | ref q =>
      simp only [dat] at e
      split at e
      · rename_i g
        simp only [Option.map_eq_some_iff] at e
        obtain ⟨ds, e, rfl⟩ := e
        obtain ⟨vs, p, ws⟩ := S.lst q g
        obtain ⟨a, b, c⟩ := Sim.dpAll S n ws e
        exact ⟨.lst (SqL.of p) a, b, by simp only [PyData.depth]; omega⟩
      · rename_i g
        simp only [Option.map_eq_some_iff] at e
        obtain ⟨ds, e, rfl⟩ := e
        obtain ⟨vs, p, ws⟩ : OkO G r H _ (.frz _) := S.at q g
        obtain ⟨a, b, c⟩ := Sim.dpAll S n ws e
        exact ⟨.lst p.seq a, b, by simp only [PyData.depth]; omega⟩
      · cases e
    | fn k => simp [dat] at e
    | cl k => simp [dat] at e
theorem Sim.dpAll (S : Sim G r h H) : ∀ (n : Nat) {ws : List W} {vs : List V} {ds : List PyData}, RelWs G r H ws vs → (ws.mapM fun w => dat n h w) = some ds → DpAll G.K H vs ds ∧ PyData.canLayAll0 ds = true ∧ PyData.depthAll ds ≤ n
  | n, _, _, ds, .nil, e => by simp at e; subst e; exact ⟨.nil, rfl, Nat.zero_le _⟩
  | n, _, _, ds, .cons q t, e => by
    simp only [List.mapM_cons, Option.bind_eq_bind, Option.bind_eq_some_iff] at e
    obtain ⟨d, e1, ds', e2, e3⟩ := e
    cases e3
    obtain ⟨a, b, c⟩ := Sim.dp S n q e1
    obtain ⟨a', b', c'⟩ := Sim.dpAll S n t e2
    exact ⟨.cons a a', by simp [PyData.canLayAll0, b, b'], by simp only [PyData.depthAll]; omega⟩
end
end
end Mi

set_option Elab.async false
set_option linter.all false
set_option maxRecDepth 100000
set_option maxHeartbeats 4000000
/-! Comparisons, subscripts, slices, built-ins, by values. -/
namespace Mi
open PySem PySem.Spec PyProof.Rows L2

section
variable {G : Gx} {X : Cx} {r : Rho} {h : Hh} {H : Hp}
theorem RelW.inv {n : Nat} {v : V} (q : RelW G r H (.ref n) v) : ∃ a, v = .ref a ∧ r[n]? = some a := by
  cases q with
  | ref q => exact ⟨_, rfl, q⟩
theorem Sim.seqRef (S : Sim G r h H) {n : Nat} {v : V} {ws : List W} (q : RelW G r H (.ref n) v) (e : seqAt h (.ref n) = some ws) : ∃ p vs, v = .ref p ∧ SqL G.K H p vs ∧ RelWs G r H ws vs := by
  cases q with
  | ref q =>
    simp only [seqAt] at e
    split at e
    · rename_i g; cases e
      obtain ⟨vs, a, b⟩ := S.lst q g
      exact ⟨_, _, rfl, SqL.of a, b⟩
    · rename_i g; cases e
      obtain ⟨vs, a, b⟩ : OkO G r H _ (.frz _) := S.at q g
      exact ⟨_, _, rfl, a.seq, b⟩
    · cases e
def copA : Cop → CmpOp
  | .eq => .Eq | .ne => .NotEq | .lt => .Lt | .le => .LtE | .gt => .Gt | .ge => .GtE | .is => .Is | .isn => .IsNot | .isin => .In | .nin => .NotIn
def NoEq (C : Cal) : Prop := ∀ (c : Nat) (q : ClsI), C.cs[c]? = some q → q.eqm = none
theorem ownEq_none {C : Cal} (hc : NoEq C) (x : W) (h : Hh) : ownEq C x h = none := by
  unfold ownEq
  split
  · split
    · rename_i c _ _
      cases e : C.cs[c]? with
      | none => rfl
      | some q => simp [hc c q e]
    · rfl
  · rfl
theorem Sim.eqd (S : Sim G r h H) {x y : W} {a b : V} {k : Bool} (q1 : RelW G r H x a) (q2 : RelW G r H y b) (e : eqData x y h = some k) :
    ∃ d e, Dp G.K H a d ∧ Dp G.K H b e ∧ SeqAt.shaped d = true ∧ SeqAt.shaped e = true ∧ k = PyData.eqv d e := by
  unfold eqData at e
  split at e
  · rename_i d d' e1 e2
    cases e
    obtain ⟨a1, b1, c1⟩ := S.dp _ q1 e1
    obtain ⟨a2, b2, c2⟩ := S.dp _ q2 e2
    unfold dataD at c1 c2
    exact ⟨d, d', a1, a2, by simp [SeqAt.shaped, b1]; omega, by simp [SeqAt.shaped, b2]; omega, rfl⟩
  · cases e
theorem isNonW_rel {w : W} {v : V} (q : RelW G r H w v) : isNonW w = decide (v = .non) := by
  cases q <;> simp [isNonW]
theorem flatW_rel {w : W} {v : V} (q : RelW G r H w v) (f : flatW w = true) : flatV v = true := by
  cases q <;> first | rfl | cases f
theorem eqF_rel {w w' : W} {v v' : V} (q : RelW G r H w v) (q' : RelW G r H w' v') (f : flatW w = true) (f' : flatW w' = true) : eqF w w' = eqV v v' := by
  cases q <;> first | (cases f; done) | (cases q' <;> first | rfl | (cases f'; done))
theorem any_rel {x : W} {vx : V} (qx : RelW G r H x vx) (fx : flatW x = true) : ∀ {ws : List W} {vs : List V}, RelWs G r H ws vs → ws.all flatW = true → vs.all flatV = true ∧ (ws.any fun z => eqF z x) = inV vx vs
  | _, _, .nil, _ => ⟨rfl, rfl⟩
  | _, _, .cons q t, f => by
    simp only [List.all_cons, Bool.and_eq_true] at f
    obtain ⟨a, b⟩ := any_rel qx fx t f.2
    refine ⟨by simp only [List.all_cons, Bool.and_eq_true]; exact ⟨flatW_rel q f.1, a⟩, ?_⟩
    simp only [List.any_cons, inV] at b ⊢
    rw [b, eqF_rel q qx f.1 fx]
theorem or_in_core {f : Value → Value → Sem Value} (hK : X.K = G.K) (neg : Bool) (o1 : OpR X f (rIn X.K neg))
    (o2 : ∀ (pins : List (Addr × Obj)) (s : Shared) (σ : St) (H : Hp) (a : Addr) (y : V) (o : Option V) (u : Value) (Q : VK), Inv X pins σ H s → DGet H a y o → RelV y u → Q (.bl (if neg then !o.isSome else o.isSome)) H → wpAny (model X.prog X.w) X.A (f u (.ref a)) (EP X pins σ Q) X.xe s) :
    OpR X f (u2 G fun x y h => .of h ((inW x y h).map fun b => .bl (if neg then !b else b))) := by
  intro pins s σ H x y v u Q I rx ry ⟨r, h, a, b, S, q1, q2, p⟩
  dsimp only at p
  cases ei : inW a b h with
  | none => rw [ei] at p; exact False.elim p
  | some k =>
    rw [ei] at p
    unfold inW at ei
    split at ei
    · rename_i ws e
      obtain ⟨pa, vs, rfl, sq, rs⟩ := S.seq q2 e
      split at ei
      · rename_i hf
        simp only [Bool.and_eq_true] at hf
        obtain ⟨f2, e2⟩ := any_rel q1 hf.1 rs hf.2
        rw [e2] at ei; cases ei
        have q := Post.ok (h := h) (b := V.bl (if neg then !inV x vs else inV x vs)) p S (.bl _)
        exact o1 pins s σ H _ _ v u Q I rx ry ⟨pa, vs, rfl, hK ▸ sq, flatW_rel q1 hf.1, f2, q⟩
      · cases ei
    · split at ei
      · obtain ⟨pa, rfl, e2⟩ := q2.inv
        split at ei
        · rename_i kvs k g ek
          obtain ⟨vs, a1, b1⟩ := S.dic e2 g
          have ex := keyW_rel ek q1
          have hg : DGet H pa x (valV vs k) := by rw [ex]; exact DGet.k a1
          have eq : (valK kvs k).isSome = (valV vs k).isSome := by
            rcases b1.val k with ⟨z1, z2⟩ | ⟨w, v, z1, z2, _⟩ <;> rw [z1, z2] <;> rfl
          rw [eq] at ei; cases ei
          have q := Post.ok (h := h) (b := V.bl (if neg then !(valV vs k).isSome else (valV vs k).isSome)) p S (.bl _)
          cases ry
          exact o2 pins s σ H _ _ _ v Q I hg rx q
        · cases ei
      · cases ei
theorem or_isin (hK : X.K = G.K) (hu : X.A.units + 64 < cLine) : OpR X (compareOp .In) (u2 G fun x y h => .of h ((inW x y h).map .bl)) :=
  or_in_core hK false op_in_seq fun pins s σ H a y o u Q I hg ry q => d_in (by omega) I hg ry fun s' I' => ⟨.bl _, H, I', rfl, q⟩
theorem or_nin (hK : X.K = G.K) (hu : X.A.units + 64 < cLine) : OpR X (compareOp .NotIn) (u2 G fun x y h => .of h ((inW x y h).map fun b => .bl (!b))) :=
  or_in_core hK true op_notIn_seq fun pins s σ H a y o u Q I hg ry q => d_notIn (by omega) I hg ry fun s' I' => ⟨.bl _, H, I', rfl, q⟩
theorem or_cmp {C : Cal} (hK : X.K = G.K) (hu : X.A.units + 64 < cLine) (hc : NoEq C) (op : Cop) : OpR X (compareOp (copA op)) (u2 G (cmpW C op)) := by
  cases op with
  | eq =>
    intro pins s σ H x y v u Q I rx ry ⟨r, h, a, b, S, q1, q2, p⟩
    simp only [cmpW, ownEq_none hc] at p
    cases e : eqData a b h with
    | none => rw [e] at p; exact False.elim p
    | some k =>
      rw [e] at p
      obtain ⟨d, d', z1, z2, z3, z4, rfl⟩ := S.eqd q1 q2 e
      exact op_eqD hu pins s σ H _ _ v u Q I rx ry ⟨d, d', hK ▸ z1, hK ▸ z2, z3, z4, Post.ok (h := h) p S (.bl _)⟩
  | ne =>
    intro pins s σ H x y v u Q I rx ry ⟨r, h, a, b, S, q1, q2, p⟩
    simp only [cmpW, ownEq_none hc] at p
    cases e : eqData a b h with
    | none => rw [e] at p; exact False.elim p
    | some k =>
      rw [e] at p
      obtain ⟨d, d', z1, z2, z3, z4, rfl⟩ := S.eqd q1 q2 e
      exact op_neD hu pins s σ H _ _ v u Q I rx ry ⟨d, d', hK ▸ z1, hK ▸ z2, z3, z4, Post.ok (h := h) p S (.bl _)⟩
  | lt => exact or_int0 op_lt (fun i j w e r H => by cases e; exact .bl _)
  | le => exact or_int0 op_le (fun i j w e r H => by cases e; exact .bl _)
  | gt => exact or_int0 op_gt (fun i j w e r H => by cases e; exact .bl _)
  | ge => exact or_int0 op_ge (fun i j w e r H => by cases e; exact .bl _)
  | is =>
    intro pins s σ H x y v u Q I rx ry ⟨r, h, a, b, S, q1, q2, p⟩
    cases b <;> (try exact False.elim p)
    · cases q2
      refine op_isN pins s σ H _ _ v u Q I rx ry ⟨rfl, ?_⟩
      exact Post.ok (h := h) p S (by rw [isNonW_rel q1]; exact .bl _)
    · cases q2
      cases a <;> (try exact False.elim p)
      cases q1
      exact op_isBl pins s σ H _ _ v u Q I rx ry ⟨_, _, rfl, rfl, Post.ok (h := h) p S (.bl _)⟩
  | isn =>
    intro pins s σ H x y v u Q I rx ry ⟨r, h, a, b, S, q1, q2, p⟩
    cases b <;> (try exact False.elim p)
    · cases q2
      refine op_notN pins s σ H _ _ v u Q I rx ry ⟨rfl, ?_⟩
      exact Post.ok (h := h) p S (by rw [isNonW_rel q1]; exact .bl _)
    · cases q2
      cases a <;> (try exact False.elim p)
      cases q1
      exact op_notBl pins s σ H _ _ v u Q I rx ry ⟨_, _, rfl, rfl, Post.ok (h := h) p S (.bl _)⟩
  | isin => exact or_isin hK hu
  | nin => exact or_nin hK hu

/-! ### truth, length -/
theorem Sim.tru (S : Sim G r h H) {w : W} {v : V} {k : Bool} (q : RelW G r H w v) (e : tru h w = some k) : TruV G.K v H k := by
  cases q with
  | non => simp [Mi.tru] at e; exact e.symm ▸ rfl
  | bl b => simp [Mi.tru] at e; exact e.symm
  | int i => simp only [Mi.tru, Option.some.injEq] at e; exact e.symm
  | str x =>
    simp only [Mi.tru] at e
    split at e
    · rename_i hl; cases e; exact ⟨hl, rfl⟩
    · cases e
  | tup t ws =>
    simp only [Mi.tru, Option.some.injEq] at e
    refine .inr (.inl ⟨_, t, ?_⟩)
    rw [← e]
    cases ws <;> rfl
  | ref q =>
    simp only [Mi.tru] at e
    split at e
    · rename_i g; cases e
      obtain ⟨vs, a, b⟩ := S.lst q g
      exact .inl ⟨vs, SqL.of a, by cases b <;> rfl⟩
    · rename_i g; cases e
      obtain ⟨vs, a, b⟩ : OkO G r H _ (.frz _) := S.at q g
      exact .inl ⟨vs, a.seq, by cases b <;> rfl⟩
    · rename_i g; cases e
      obtain ⟨vs, a, b⟩ := S.dic q g
      exact .inr (.inr ⟨vs, a, by cases b <;> rfl⟩)
    · cases e
  | fn k => simp [Mi.tru] at e
  | cl k => simp [Mi.tru] at e

/-! ### subscripts -/
theorem ix_dK (hu : X.A.units + 1 < cLine) : IxR X (fun x y H Q => ∃ a v, x = .ref a ∧ DGet H a y (some v) ∧ Q v H) := by
  intro value slice pins s σ H x y v u Q I rx ry ⟨a, w, hx, hg, q⟩ hs
  subst hx
  cases rx
  exact tail_any (dict_typeIs I hg) slot_dict_getitem.lookup (d_getItem hu I hg ry fun w' s' I' rw => ⟨w, H, I', rw, q⟩) hs
theorem atI_rel {ws : List W} {vs : List V} (q : RelWs G r H ws vs) {i : Int} {w : W} (e : atI ws i = some w) : ∃ v, atI vs i = some v ∧ RelW G r H w v := by
  unfold atI at e ⊢
  rw [← q.length]
  cases z : ixN ws.length i with
  | none => rw [z] at e; cases e
  | some j =>
    rw [z] at e
    exact q.get (by simpa using e)
theorem or_ix (hK : X.K = G.K) (hu : X.A.units + 64 < cLine) : IxR X (u2 G fun x i h => .of h (ixW x i h)) := by
  intro value slice pins s σ H x y v u Q I rx ry ⟨r, h, a, b, S, q1, q2, p⟩ hs
  dsimp only at p
  unfold ixW at p
  split at p
  · rename_i ws e
    obtain ⟨pa, vs, rfl, sq, rs⟩ := S.seq q1 e
    split at p
    · rename_i j
      cases q2
      cases z : atI ws j with
      | none => rw [z] at p; exact False.elim p
      | some w =>
        rw [z] at p
        obtain ⟨v', z', rw'⟩ := atI_rel rs z
        have q := Post.ok (h := h) p S rw'
        rcases sq with sq | sq
        · exact ix_list value slice pins s σ H _ _ v u Q I rx ry ⟨pa, vs, j, v', rfl, rfl, hK ▸ sq, z', q⟩ hs
        · exact ix_tup value slice pins s σ H _ _ v u Q I rx ry ⟨pa, vs, j, v', rfl, rfl, hK ▸ sq, z', q⟩ hs
    · exact False.elim p
  · split at p
    · obtain ⟨pa, rfl, e2⟩ := q1.inv
      split at p
      · rename_i kvs k g ek
        obtain ⟨vs, a1, b1⟩ := S.dic e2 g
        have ex := keyW_rel ek q2
        rcases b1.val k with ⟨z1, z2⟩ | ⟨w, v', z1, z2, rw'⟩
        · rw [z1] at p; exact False.elim p
        · rw [z1] at p
          have hg : DGet H pa y (some v') := by rw [ex, ← z2]; exact DGet.k a1
          exact ix_dK (by omega) value slice pins s σ H _ _ v u Q I rx ry ⟨_, v', rfl, hg, Post.ok (h := h) p S rw'⟩ hs
      · exact False.elim p
    · exact False.elim p
/-! ### slices -/
theorem cutW_rel {ws : List W} {vs : List V} (q : RelWs G r H ws vs) (lo hi : Option Int) : RelWs G r H (cutW ws lo hi) (cutV vs lo hi) := by
  unfold cutW cutV
  rw [← q.length]
  exact (q.drop _).take _
def uSl (G : Gx) : V → Option Int → Option Int → Hp → VK → Prop := fun x lo hi H Q => ∃ r h a, Sim G r h H ∧ RelW G r H a x ∧ Post G r H (RelW G) Q (fun _ _ _ => False) (slcW a lo hi h)
theorem or_slc (hK : X.K = G.K) : L2.SlR X (uSl G) := by
  intro pins s σ H x v vl vu lo hi sl Q I rx hsl p1 p2 ⟨r, h, a, S, q1, p⟩
  cases q1 with
  | tup t ws =>
    simp only [slcW] at p
    split at p
    · exact False.elim p
    · rename_i hn
      rw [ws.length] at hn
      exact sl_tup pins s σ H _ v vl vu lo hi sl Q I rx hsl p1 p2 ⟨_, _, rfl, hK ▸ t, hn, Post.newT S (cutW_rel ws lo hi) p⟩
  | ref q =>
    simp only [slcW] at p
    split at p
    · rename_i ws e
      obtain ⟨pa, vs, e2, sl', rs⟩ := S.seqRef (.ref q) e
      cases e2
      exact sl_list pins s σ H _ v vl vu lo hi sl Q I rx hsl p1 p2 ⟨_, _, rfl, hK ▸ sl', Post.newL S (cutW_rel rs lo hi) p⟩
    · exact False.elim p
  | non => exact False.elim p
  | bl b => exact False.elim p
  | int b => exact False.elim p
  | str b => exact False.elim p
  | fn b => exact False.elim p
  | cl b => exact False.elim p
end
end Mi

set_option Elab.async false
set_option linter.all false
set_option maxRecDepth 100000
set_option maxHeartbeats 4000000
/-! Built-in functions, methods of built-in types, by values. -/
namespace Mi
open PySem PySem.Spec PyProof.Rows L2

section
variable {G : Gx} {X : Cx} {r : Rho} {h : Hh} {H : Hp}
/-! ### sorting -/
theorem insI_perm (i : Int) : ∀ l : List Int, (insI i l).Perm (i :: l)
  | [] => List.Perm.refl _
  | j :: l => by
    unfold insI
    split
    · exact List.Perm.refl _
    · exact ((insI_perm i l).cons j).trans (List.Perm.swap i j l)
theorem sortI_perm : ∀ l : List Int, (sortI l).Perm l
  | [] => List.Perm.refl _
  | i :: l => (insI_perm i (sortI l)).trans ((sortI_perm l).cons i)
theorem insI_pw (i : Int) : ∀ l : List Int, l.Pairwise (· ≤ ·) → (insI i l).Pairwise (· ≤ ·)
  | [], _ => by simp [insI]
  | j :: l, p => by
    unfold insI
    have p' := List.pairwise_cons.mp p
    split
    · rename_i hij
      exact List.pairwise_cons.mpr ⟨fun k hk => by
        rcases List.mem_cons.mp hk with rfl | hk
        · exact hij
        · exact Int.le_trans hij (p'.1 k hk), p⟩
    · rename_i hij
      refine List.pairwise_cons.mpr ⟨fun k hk => ?_, insI_pw i l p'.2⟩
      rcases List.mem_cons.mp ((insI_perm i l).mem_iff.mp hk) with rfl | hk
      · omega
      · exact p'.1 k hk
theorem sortI_pw : ∀ l : List Int, (sortI l).Pairwise (· ≤ ·)
  | [] => .nil
  | i :: l => insI_pw i _ (sortI_pw l)
theorem sort_is {ns ms : List Int} (p : ms.Perm ns) (q : ms.Pairwise (· ≤ ·)) : ms = sortI ns :=
  List.Perm.eq_of_pairwise (fun _ _ _ _ a b => Int.le_antisymm a b) q (sortI_pw ns) (p.trans (sortI_perm ns).symm)
theorem minI_mem : ∀ (m : Int) (l : List Int), minI m l ∈ m :: l ∧ ∀ y ∈ m :: l, minI m l ≤ y
  | m, [] => by simp [minI]
  | m, i :: l => by
    unfold minI
    obtain ⟨a, b⟩ := minI_mem (if i < m then i else m) l
    split at a <;> rename_i c
    · rw [if_pos c] at b ⊢
      refine ⟨?_, fun y hy => ?_⟩
      · rcases List.mem_cons.mp a with a | a
        · rw [a]; simp
        · exact List.mem_cons_of_mem _ (List.mem_cons_of_mem _ a)
      · have b0 := b i (by simp)
        rcases List.mem_cons.mp hy with rfl | hy
        · omega
        · rcases List.mem_cons.mp hy with rfl | hy
          · exact b0
          · exact b y (List.mem_cons_of_mem _ hy)
    · rw [if_neg c] at b ⊢
      refine ⟨?_, fun y hy => ?_⟩
      · rcases List.mem_cons.mp a with a | a
        · rw [a]; simp
        · exact List.mem_cons_of_mem _ (List.mem_cons_of_mem _ a)
      · have b0 := b m (by simp)
        rcases List.mem_cons.mp hy with rfl | hy
        · exact b0
        · rcases List.mem_cons.mp hy with rfl | hy
          · omega
          · exact b y (List.mem_cons_of_mem _ hy)
theorem maxI_mem : ∀ (m : Int) (l : List Int), maxI m l ∈ m :: l ∧ ∀ y ∈ m :: l, y ≤ maxI m l
  | m, [] => by simp [maxI]
  | m, i :: l => by
    unfold maxI
    obtain ⟨a, b⟩ := maxI_mem (if m < i then i else m) l
    split at a <;> rename_i c
    · rw [if_pos c] at b ⊢
      refine ⟨?_, fun y hy => ?_⟩
      · rcases List.mem_cons.mp a with a | a
        · rw [a]; simp
        · exact List.mem_cons_of_mem _ (List.mem_cons_of_mem _ a)
      · have b0 := b i (by simp)
        rcases List.mem_cons.mp hy with rfl | hy
        · omega
        · rcases List.mem_cons.mp hy with rfl | hy
          · exact b0
          · exact b y (List.mem_cons_of_mem _ hy)
    · rw [if_neg c] at b ⊢
      refine ⟨?_, fun y hy => ?_⟩
      · rcases List.mem_cons.mp a with a | a
        · rw [a]; simp
        · exact List.mem_cons_of_mem _ (List.mem_cons_of_mem _ a)
      · have b0 := b m (by simp)
        rcases List.mem_cons.mp hy with rfl | hy
        · exact b0
        · rcases List.mem_cons.mp hy with rfl | hy
          · omega
          · exact b y (List.mem_cons_of_mem _ hy)

/-! ### calls of built-ins -/
def bcA : Bc → Value
  | .len1 => .builtin "len" | .abs1 => .builtin "abs" | .int1 => .type "int" | .list1 => .type "list" | .tuple1 => .type "tuple" | .sorted1 => .builtin "sorted" | .dict1 => .type "dict" | .repr1 => .builtin "repr"
  | .any1 => .builtin "any" | .all1 => .builtin "all" | .sum1 => .builtin "sum" | .min1 => .builtin "min" | .max1 => .builtin "max" | .max2 => .builtin "max" | .min2 => .builtin "min" | .divmod2 => .builtin "divmod"
theorem RelWs.one {w : W} {xs : List V} (q : RelWs G r H [w] xs) : ∃ v, xs = [v] ∧ RelW G r H w v := by
  cases q with
  | cons q t => cases t; exact ⟨_, rfl, q⟩
theorem RelWs.two {w w' : W} {xs : List V} (q : RelWs G r H [w, w'] xs) : ∃ v v', xs = [v, v'] ∧ RelW G r H w v ∧ RelW G r H w' v' := by
  cases q with
  | cons q t =>
    obtain ⟨v', rfl, q'⟩ := t.one
    exact ⟨_, _, rfl, q, q'⟩
theorem seqB {K : PySem.W.Frag} {p : Addr} {vs : List V} {w : W} (S : Sim G r h H) (q : RelW G r H w (.ref p)) {ws : List W} (e : seqAt h w = some ws) (n : ∀ l, w ≠ .tup l) : ∃ vs, SqL G.K H p vs ∧ RelWs G r H ws vs := by
  cases w <;> first | exact absurd rfl (n _) | (simp [seqAt] at e; done) | skip
  obtain ⟨p', vs, e1, s1, q1⟩ := S.seqRef q e
  cases e1
  exact ⟨vs, s1, q1⟩
theorem keysI_map : ∀ {kvs : List (Key × W)} {vs : List (Key × V)} {ks : List Int}, RelK G r H kvs vs → keysI kvs = some ks → vs.map (·.1) = ks.map Sum.inl
  | _, _, ks, .nil, e => by simp [keysI] at e; subst e; rfl
  | _, _, ks, .cons (k := k) h t, e => by
    cases k <;> simp [keysI] at e
    obtain ⟨ms, e1, rfl⟩ := e
    simp [keysI_map t e1]
theorem Sim.seqVals (S : Sim G r h H) {n : Nat} {v : V} {α : Type} {f : List W → Option α} {x : α} (q : RelW G r H (.ref n) v) (e : (seqAt h (.ref n)).bind f = some x) :
    ∃ ws p vs, v = .ref p ∧ SqL G.K H p vs ∧ RelWs G r H ws vs ∧ f ws = some x := by
  obtain ⟨ws, e1, e2⟩ := Option.bind_eq_some_iff.mp e
  obtain ⟨p, vs, rfl, a, b⟩ := S.seqRef q e1
  exact ⟨ws, p, vs, rfl, a, b, e2⟩
theorem one_cases {P : List W → Prop} {ws : List W} (h0 : P ws) (h : ∀ w, P [w] → False) (h1 : P [] → False) (h2 : ∀ a b t, P (a :: b :: t) → False) : False := by
  rcases ws with _ | ⟨w, _ | ⟨w2, t⟩⟩
  · exact h1 h0
  · exact h _ h0
  · exact h2 _ _ _ h0
theorem isNone_no {Q : VK} {EX : XK} (p : Post G r H (RelW G) Q EX (.no : R W)) : False := p
theorem or_repr : CallR X (.builtin "repr") (uC G fun ws h => match ws with
    | [x] => .of h ((reprW x h).map .str)
    | _ => .no) := by
  intro pins s σ H xs us Q I rv ⟨r, h, ws, S, q, p⟩
  rcases ws with _ | ⟨w, _ | ⟨w2, t⟩⟩ <;> (try exact False.elim p)
  obtain ⟨v, rfl, q1⟩ := q.one
  dsimp only at p
  obtain ⟨u, rfl, ru⟩ := vals1 rv
  have fin : ∀ x, reprW w h = some x → Q (.str x) H := fun x e => by
    rw [e] at p
    exact Post.ok (h := h) p S (.str x)
  have bump : Inv X pins σ H { s with toks := s.toks + 1 } := I.kept (fun _ _ e => e)
  cases q1 with
  | non => cases ru; exact P.repr_of_none ⟨.str "None", H, bump, ⟨_, rfl⟩, fin _ rfl⟩
  | bl b => cases ru; exact P.repr_of_bool ⟨.str (if b then "True" else "False"), H, bump, ⟨_, rfl⟩, fin _ rfl⟩
  | int i =>
    obtain ⟨t, rfl⟩ := ru
    cases e : reprW (.int i) h with
    | none => rw [e] at p; exact False.elim p
    | some x =>
      have f := fin x e
      unfold reprW at e
      dsimp only at e
      split at e
      · rename_i hl; cases e
        exact P.repr_of_int hl ⟨.str (toString i), H, bump, ⟨_, rfl⟩, f⟩
      · cases e
  | str y =>
    obtain ⟨t, rfl⟩ := ru
    cases e : reprW (.str y) h with
    | none => rw [e] at p; exact False.elim p
    | some x =>
      have f := fin x e
      unfold reprW at e
      dsimp only at e
      split at e
      · rename_i hl; cases e
        exact P.repr_of_str ⟨.str (reprText y), H, bump, ⟨_, rfl⟩, f⟩ hl
      · cases e
  | tup t ws => exact False.elim p
  | ref z => exact False.elim p
  | fn k => exact False.elim p
  | cl k => exact False.elim p
theorem or_bc (hK : X.K = G.K) (hc : X.calm = true) (b : Bc) : CallR X (bcA b) (uC G (bcW b)) := by
  intro pins s σ H xs us Q I rv ⟨r, h, ws, S, q, p⟩
  cases b with
  | len1 =>
    rcases ws with _ | ⟨w, _ | ⟨w2, t⟩⟩ <;> (try exact False.elim p)
    obtain ⟨v, rfl, q1⟩ := q.one
    have fin : ∀ n, lenW h w = some n → Q (.int n) H := fun n e => by
      simp only [bcW, e] at p
      exact Post.ok (h := h) p S (.int (n : Int))
    cases e : lenW h w with
    | none => simp only [bcW, e] at p; exact False.elim p
    | some n =>
      have fin := fin n e
      cases q1 with
      | str x =>
        simp only [lenW] at e
        split at e
        · rename_i hl; cases e
          exact call_len pins s σ H _ us Q I rv ⟨_, _, rfl, ⟨hl, rfl⟩, fin⟩
        · cases e
      | tup t ws =>
        simp only [lenW, Option.some.injEq] at e; subst e
        exact call_len pins s σ H _ us Q I rv ⟨_, _, rfl, .inr ⟨_, hK ▸ t, ws.length⟩, fin⟩
      | ref e2 =>
        simp only [lenW] at e
        split at e
        · rename_i g; cases e
          obtain ⟨vs, a1, b1⟩ := S.lst e2 g
          exact call_len pins s σ H _ us Q I rv ⟨_, _, rfl, .inl ⟨_, SqL.of a1, b1.length⟩, fin⟩
        · rename_i g; cases e
          obtain ⟨vs, a1, b1⟩ : OkO G r H _ (.frz _) := S.at e2 g
          exact call_len pins s σ H _ us Q I rv ⟨_, _, rfl, .inl ⟨_, hK ▸ a1.seq, b1.length⟩, fin⟩
        · rename_i g; cases e
          obtain ⟨vs, a1, b1⟩ := S.dic e2 g
          obtain ⟨u, rfl, ru⟩ := vals1 rv
          cases ru
          rw [b1.length] at fin
          exact d_len I (.inl a1) fun t s' I' => ⟨.int (vs.length : Nat), H, I', ⟨t, rfl⟩, fin⟩
        · cases e
      | _ => simp [lenW] at e
  | abs1 =>
    rcases ws with _ | ⟨w, _ | ⟨w2, t⟩⟩ <;> (try exact False.elim p)
    · cases w <;> (try exact False.elim p)
      obtain ⟨v, rfl, q1⟩ := q.one
      cases q1
      exact call_abs pins s σ H _ us Q I rv ⟨_, rfl, Post.ok p S (.int _)⟩
    · cases w <;> exact False.elim p
  | int1 =>
    rcases ws with _ | ⟨w, _ | ⟨w2, t⟩⟩ <;> (try exact False.elim p)
    · cases w <;> (try exact False.elim p)
      · obtain ⟨v, rfl, q1⟩ := q.one
        cases q1
        exact call_int1 pins s σ H _ us Q I rv (.inr ⟨_, rfl, Post.ok p S (.int _)⟩)
      · obtain ⟨v, rfl, q1⟩ := q.one
        cases q1
        exact call_int1 pins s σ H _ us Q I rv (.inl ⟨_, rfl, Post.ok p S (.int _)⟩)
    · cases w <;> exact False.elim p
  | list1 =>
    rcases ws with _ | ⟨w, _ | ⟨w2, t⟩⟩ <;> (try exact False.elim p)
    obtain ⟨v, rfl, q1⟩ := q.one
    simp only [bcW] at p
    split at p
    · rename_i ws e
      obtain ⟨pa, vs, rfl, sq, rs⟩ := S.seq q1 e
      exact call_list_of pins s σ H _ us Q I rv ⟨pa, vs, rfl, hK ▸ sq, Post.newL S rs p⟩
    · split at p
      · obtain ⟨pa, rfl, e2⟩ := q1.inv
        split at p
        · rename_i g
          obtain ⟨vs, a1, b1⟩ := S.dic e2 g
          exact call_list_dK hc pins s σ H _ us Q I rv ⟨pa, vs, rfl, a1, Post.newL S b1.keys p⟩
        · exact False.elim p
      · exact False.elim p
  | tuple1 =>
    rcases ws with _ | ⟨w, _ | ⟨w2, t⟩⟩ <;> (try exact False.elim p)
    obtain ⟨v, rfl, q1⟩ := q.one
    simp only [bcW] at p
    split at p
    · rename_i ws e
      cases w with
      | tup l =>
        simp only [seqAt, Option.some.injEq] at e; subst e
        cases q1 with
        | tup t ws =>
        exact call_tuple_of pins s σ H _ us Q I rv ⟨_, _, rfl, .inr ⟨hK ▸ t, Post.ok p S (.tup t ws)⟩⟩
      | ref n =>
        obtain ⟨pa, vs, rfl, sq, rs⟩ := S.seqRef q1 e
        exact call_tuple_of pins s σ H _ us Q I rv ⟨pa, vs, rfl, .inl ⟨hK ▸ sq, Post.newT S rs p⟩⟩
      | _ => simp [seqAt] at e
    · exact False.elim p
  | sorted1 =>
    rcases ws with _ | ⟨w, _ | ⟨w2, t⟩⟩ <;> (try exact False.elim p)
    · cases w <;> (try exact False.elim p)
      obtain ⟨v, rfl, q1⟩ := q.one
      simp only [bcW] at p
      split at p
      · rename_i ws e
        split at p
        · rename_i ns en
          unfold sorted1 at p
          split at p
          · rename_i hl
            obtain ⟨pa, vs, rfl, sq, rs⟩ := S.seqRef q1 e
            have ev := rs.ints en
            subst ev
            refine cr_sorted pins s σ H _ us Q I rv ⟨pa, ns, rfl, hK ▸ sq, hl, fun ms a pm pw ha => ?_⟩
            rw [sort_is pm pw]
            exact Post.newL S (RelWs.ofInts _) p a ha
          · exact False.elim p
        · exact False.elim p
      · obtain ⟨pa, rfl, e2⟩ := q1.inv
        split at p
        · rename_i g
          split at p
          · rename_i ns en
            unfold sorted1 at p
            split at p
            · rename_i hl
              obtain ⟨vs, a1, b1⟩ := S.dic e2 g
              refine call_sortedDI hc pins s σ H _ us Q I rv ⟨pa, vs, ns, rfl, .inl a1, keysI_map b1 en, hl, fun ms a pm pw ha => ?_⟩
              rw [sort_is pm pw]
              exact Post.newL S (RelWs.ofInts _) p a ha
            · exact False.elim p
          · exact False.elim p
        · exact False.elim p
    · cases w <;> exact False.elim p
  | dict1 =>
    rcases ws with _ | ⟨w, _ | ⟨w2, t⟩⟩ <;> (try exact False.elim p)
    · cases w <;> (try exact False.elim p)
      obtain ⟨v, rfl, q1⟩ := q.one
      obtain ⟨pa, rfl, e2⟩ := q1.inv
      simp only [bcW] at p
      split at p
      · rename_i g
        obtain ⟨vs, a1, b1⟩ := S.dic e2 g
        obtain ⟨u, rfl, ru⟩ := vals1 rv
        cases ru
        exact d_copyOf I (.inl a1) fun z s' hz I' => ⟨.ref z, _, I', rfl, Post.newD S b1 p z hz⟩
      · exact False.elim p
    · cases w <;> exact False.elim p
  | repr1 =>
    refine or_repr pins s σ H xs us Q I rv ⟨r, h, ws, S, q, ?_⟩
    rcases ws with _ | ⟨w, _ | ⟨w2, t⟩⟩ <;> (try exact False.elim p)
    exact p
  | any1 =>
    rcases ws with _ | ⟨w, _ | ⟨w2, t⟩⟩ <;> (try exact False.elim p)
    · cases w <;> (try exact False.elim p)
      obtain ⟨v, rfl, q1⟩ := q.one
      simp only [bcW] at p
      split at p
      · rename_i e
        obtain ⟨ws, pa, vs, rfl, sq, rs, en⟩ := S.seqVals q1 e
        have ev := rs.bools en
        subst ev
        exact cr_any hc pins s σ H _ us Q I rv ⟨pa, _, rfl, hK ▸ sq, Post.ok p S (.bl _)⟩
      · exact False.elim p
    · cases w <;> exact False.elim p
  | all1 =>
    rcases ws with _ | ⟨w, _ | ⟨w2, t⟩⟩ <;> (try exact False.elim p)
    · cases w <;> (try exact False.elim p)
      obtain ⟨v, rfl, q1⟩ := q.one
      simp only [bcW] at p
      split at p
      · rename_i e
        obtain ⟨ws, pa, vs, rfl, sq, rs, en⟩ := S.seqVals q1 e
        have ev := rs.bools en
        subst ev
        exact cr_all hc pins s σ H _ us Q I rv ⟨pa, _, rfl, hK ▸ sq, Post.ok p S (.bl _)⟩
      · exact False.elim p
    · cases w <;> exact False.elim p
  | sum1 =>
    rcases ws with _ | ⟨w, _ | ⟨w2, t⟩⟩ <;> (try exact False.elim p)
    · cases w <;> (try exact False.elim p)
      obtain ⟨v, rfl, q1⟩ := q.one
      simp only [bcW] at p
      split at p
      · rename_i e
        obtain ⟨ws, pa, vs, rfl, sq, rs, en⟩ := S.seqVals q1 e
        have ev := rs.ints en
        subst ev
        exact cr_sum hc pins s σ H _ us Q I rv ⟨pa, _, rfl, hK ▸ sq, Post.ok p S (.int _)⟩
      · exact False.elim p
    · cases w <;> exact False.elim p
  | min1 =>
    rcases ws with _ | ⟨w, _ | ⟨w2, t⟩⟩ <;> (try exact False.elim p)
    · cases w <;> (try exact False.elim p)
      obtain ⟨v, rfl, q1⟩ := q.one
      simp only [bcW] at p
      split at p
      · rename_i n ns e
        obtain ⟨ws, pa, vs, rfl, sq, rs, en⟩ := S.seqVals q1 e
        have ev := rs.ints en
        subst ev
        refine cr_min hc pins s σ H _ us Q I rv ⟨pa, _, rfl, hK ▸ sq, by simp, fun m h1 h2 => ?_⟩
        obtain ⟨z1, z2⟩ := minI_mem n ns
        have : m = minI n ns := Int.le_antisymm (h2 _ z1) (z2 _ h1)
        subst this
        exact Post.ok p S (.int _)
      · exact False.elim p
    · cases w <;> exact False.elim p
  | max1 =>
    rcases ws with _ | ⟨w, _ | ⟨w2, t⟩⟩ <;> (try exact False.elim p)
    · cases w <;> (try exact False.elim p)
      obtain ⟨v, rfl, q1⟩ := q.one
      simp only [bcW] at p
      split at p
      · rename_i n ns e
        obtain ⟨ws, pa, vs, rfl, sq, rs, en⟩ := S.seqVals q1 e
        have ev := rs.ints en
        subst ev
        refine cr_max hc pins s σ H _ us Q I rv ⟨pa, _, rfl, hK ▸ sq, by simp, fun m h1 h2 => ?_⟩
        obtain ⟨z1, z2⟩ := maxI_mem n ns
        have : m = maxI n ns := Int.le_antisymm (z2 _ h1) (h2 _ z1)
        subst this
        exact Post.ok p S (.int _)
      · exact False.elim p
    · cases w <;> exact False.elim p
  | max2 =>
    rcases ws with _ | ⟨w, _ | ⟨w2, _ | ⟨w3, t⟩⟩⟩ <;> (try exact False.elim p)
    · cases w <;> exact False.elim p
    · cases w <;> (try exact False.elim p)
      cases w2 <;> (try exact False.elim p)
      obtain ⟨v, v', rfl, q1, q2⟩ := q.two
      cases q1; cases q2
      exact call_max2 hc pins s σ H _ us Q I rv ⟨_, _, rfl, Post.ok p S (.int _)⟩
    · cases w <;> cases w2 <;> exact False.elim p
  | min2 =>
    rcases ws with _ | ⟨w, _ | ⟨w2, _ | ⟨w3, t⟩⟩⟩ <;> (try exact False.elim p)
    · cases w <;> exact False.elim p
    · cases w <;> (try exact False.elim p)
      cases w2 <;> (try exact False.elim p)
      obtain ⟨v, v', rfl, q1, q2⟩ := q.two
      cases q1; cases q2
      exact call_min2 hc pins s σ H _ us Q I rv ⟨_, _, rfl, Post.ok p S (.int _)⟩
    · cases w <;> cases w2 <;> exact False.elim p
  | divmod2 =>
    rcases ws with _ | ⟨w, _ | ⟨w2, _ | ⟨w3, t⟩⟩⟩ <;> (try exact False.elim p)
    · cases w <;> exact False.elim p
    · cases w <;> (try exact False.elim p)
      cases w2 <;> (try exact False.elim p)
      obtain ⟨v, v', rfl, q1, q2⟩ := q.two
      cases q1; cases q2
      simp only [bcW] at p
      split at p
      · rename_i hd
        exact call_divmod pins s σ H _ us Q I rv ⟨_, _, rfl, hd, Post.newT S (.cons (.int _) (.cons (.int _) .nil)) p⟩
      · exact False.elim p
    · cases w <;> cases w2 <;> exact False.elim p

/-! ### methods of lists and dicts -/
theorem ixN_seqIx {n : Nat} {i : Int} {k : Nat} (h : ixN n i = some k) : seqIndex? i n = some k := (ixN_seq h).1
/-- the receiver is a list -/
def bmL : Bm → Str × String
  | .append1 => ("append", "list.append") | .insert2 => ("insert", "list.insert") | .pop0 => ("pop", "list.pop") | .pop1 => ("pop", "list.pop") | .remove1 => ("remove", "list.remove")
def uMl (G : Gx) (b : Bm) : V → List V → Hp → VK → Prop := fun x xs H Q => ∃ r h a ws, Sim G r h H ∧ isL h a = true ∧ RelW G r H a x ∧ RelWs G r H ws xs ∧ Post G r H (RelW G) Q (fun _ _ _ => False) (bmW b a ws h)
theorem isL_inv {w : W} (e : isL h w = true) : ∃ n ws, w = .ref n ∧ h.get n = some (.lst ws) := by
  unfold isL at e
  split at e
  · split at e
    · rename_i g; exact ⟨_, _, rfl, g⟩
    · cases e
  · cases e
theorem or_append : MtR X "list.append" (uMl G .append1) := by
  intro pins s σ H x xs v us Q I rx rv ⟨r, h, a, ws, S, ia, q1, q, p⟩
  obtain ⟨n, l, rfl, g⟩ := isL_inv ia
  obtain ⟨pa, rfl, e2⟩ := q1.inv
  obtain ⟨vs, a1, b1⟩ := S.lst e2 g
  simp only [bmW, g] at p
  rcases ws with _ | ⟨w, _ | ⟨w2, t⟩⟩ <;> (try exact False.elim p)
  obtain ⟨y, rfl, qy⟩ := q.one
  dsimp only at p
  split at p
  · rename_i hl
    rw [b1.length] at hl
    exact mt_append pins s σ H _ _ v us Q I rx rv ⟨pa, vs, y, rfl, rfl, a1, hl, Post.putL S e2 g (b1.append (.cons qy .nil)) .non p⟩
  · exact False.elim p
theorem or_insert : MtR X "list.insert" (uMl G .insert2) := by
  intro pins s σ H x xs v us Q I rx rv ⟨r, h, a, ws, S, ia, q1, q, p⟩
  obtain ⟨n, l, rfl, g⟩ := isL_inv ia
  obtain ⟨pa, rfl, e2⟩ := q1.inv
  obtain ⟨vs, a1, b1⟩ := S.lst e2 g
  simp only [bmW, g] at p
  rcases ws with _ | ⟨w, _ | ⟨w2, _ | ⟨w3, t⟩⟩⟩ <;> (try exact False.elim p)
  · cases w <;> exact False.elim p
  · cases w <;> (try exact False.elim p)
    obtain ⟨y0, y, rfl, qi, qy⟩ := q.two
    cases qi
    dsimp only at p
    split at p
    · rename_i hl
      obtain ⟨rfl, hl⟩ := hl
      rw [b1.length] at hl
      exact mt_insert pins s σ H _ _ v us Q I rx rv ⟨pa, vs, 0, y, rfl, rfl, a1, hl, by omega, by decide, Post.putL S e2 g (.cons qy b1) .non p⟩
    · exact False.elim p
  · cases w <;> exact False.elim p
theorem or_pop0 : MtR X "list.pop" (uMl G .pop0) := by
  intro pins s σ H x xs v us Q I rx rv ⟨r, h, a, ws, S, ia, q1, q, p⟩
  obtain ⟨n, l, rfl, g⟩ := isL_inv ia
  obtain ⟨pa, rfl, e2⟩ := q1.inv
  obtain ⟨vs, a1, b1⟩ := S.lst e2 g
  simp only [bmW, g] at p
  rcases ws with _ | ⟨w, t⟩ <;> (try exact False.elim p)
  cases q
  dsimp only at p
  split at p
  · rename_i y ey
    obtain ⟨z, ez, qz⟩ := b1.get ey
    rw [b1.length] at ez
    exact mt_pop pins s σ H _ _ v us Q I rx rv ⟨pa, vs, z, rfl, rfl, a1, ez, Post.putL S e2 g b1.dropLast qz p⟩
  · exact False.elim p
theorem or_pop1 : MtR X "list.pop" (uMl G .pop1) := by
  intro pins s σ H x xs v us Q I rx rv ⟨r, h, a, ws, S, ia, q1, q, p⟩
  obtain ⟨n, l, rfl, g⟩ := isL_inv ia
  obtain ⟨pa, rfl, e2⟩ := q1.inv
  obtain ⟨vs, a1, b1⟩ := S.lst e2 g
  simp only [bmW, g] at p
  rcases ws with _ | ⟨w, _ | ⟨w2, t⟩⟩ <;> (try exact False.elim p)
  · cases w <;> (try exact False.elim p)
    obtain ⟨y0, rfl, qi⟩ := q.one
    cases qi
    dsimp only at p
    split at p
    · rename_i hb
      split at p
      · rename_i k ek
        split at p
        · rename_i y ey
          obtain ⟨z, ez, qz⟩ := b1.get ey
          rw [b1.length] at ek
          exact mt_popAt pins s σ H _ _ v us Q I rx rv ⟨pa, vs, _, k, z, rfl, rfl, a1, hb.1, hb.2, ixN_seqIx ek, ez, Post.putL S e2 g (b1.eraseIdx k) qz p⟩
        · exact False.elim p
      · exact False.elim p
    · exact False.elim p
  · cases w <;> exact False.elim p
def uMd (G : Gx) (b : Bm) : V → List V → Hp → VK → Prop := fun x xs H Q => ∃ r h a ws, Sim G r h H ∧ isD h a = true ∧ RelW G r H a x ∧ RelWs G r H ws xs ∧ Post G r H (RelW G) Q (fun _ _ _ => False) (bmW b a ws h)
theorem isD_inv {w : W} (e : isD h w = true) : ∃ n ws, w = .ref n ∧ h.get n = some (.dic ws) := by
  unfold isD at e
  split at e
  · split at e
    · rename_i g; exact ⟨_, _, rfl, g⟩
    · cases e
  · cases e
theorem or_dpop : MtR X "dict.pop" (uMd G .pop1) := by
  intro pins s σ H x xs v us Q I rx rv ⟨r, h, a, ws, S, ia, q1, q, p⟩
  obtain ⟨n, l, rfl, g⟩ := isD_inv ia
  obtain ⟨pa, rfl, e2⟩ := q1.inv
  obtain ⟨vs, a1, b1⟩ := S.dic e2 g
  simp only [bmW, g] at p
  rcases ws with _ | ⟨w, _ | ⟨w2, t⟩⟩ <;> (try exact False.elim p)
  obtain ⟨y0, rfl, qi⟩ := q.one
  dsimp only at p
  split at p
  · rename_i k ek
    have ey := keyW_rel ek qi
    subst ey
    rcases b1.val k with ⟨z1, z2⟩ | ⟨w, v', z1, z2, rw'⟩
    · rw [z1] at p; exact False.elim p
    · rw [z1] at p
      obtain ⟨u, rfl, ru⟩ := vals1 rv
      cases rx
      exact d_pop I a1 ru z2 (.inl rfl) fun w' s' I' rw2 => ⟨v', _, I', rw2, Post.putD S e2 g (b1.drop k) rw' p⟩
  · exact False.elim p
/-! ### remove, by == of data -/
theorem or_remove (hK : X.K = G.K) (hu : X.A.units + 80 < cLine) : MtR X "list.remove" (uMl G .remove1) := by
  intro pins s σ H x xs v us Q I rx rv ⟨r, h, a, ws, S, ia, q1, q, p⟩
  obtain ⟨n, l, rfl, g⟩ := isL_inv ia
  obtain ⟨pa, rfl, e2⟩ := q1.inv
  obtain ⟨vs, a1, b1⟩ := S.lst e2 g
  simp only [bmW, g] at p
  rcases ws with _ | ⟨w, _ | ⟨w2, t⟩⟩ <;> (try exact False.elim p)
  obtain ⟨y, rfl, qy⟩ := q.one
  dsimp only at p
  unfold remAt at p
  cases eds : l.mapM (fun w => dat dataD h w) with
  | none => rw [eds] at p; exact False.elim p
  | some ds =>
    cases ed : dat dataD h w with
    | none => rw [eds, ed] at p; exact False.elim p
    | some d =>
      rw [eds, ed] at p
      dsimp only at p
      cases ek : ds.findIdx? (fun z => PyData.eqv z d) with
      | none => rw [ek] at p; exact False.elim p
      | some k =>
        rw [ek] at p
        dsimp only at p
        obtain ⟨A1, A2, A3⟩ := S.dpAll _ b1 eds
        obtain ⟨B1, B2, B3⟩ := S.dp _ qy ed
        obtain ⟨u, rfl, ru⟩ := vals1 rv
        cases rx
        obtain ⟨z, its, m, r0, hl, e0⟩ := I.lstM a1
        obtain ⟨bs, R1⟩ := Dp.reads I d y u (hK ▸ B1) ru
        obtain ⟨as, R2⟩ := Dp.readsAll I ds vs its (hK ▸ A1) r0
        have hmap : its.map (SeqAt.readOf s.heap) = ds := SeqAt.readsAll_map ds its as A2 R2
        obtain ⟨hk, hit, hno⟩ := List.findIdx?_eq_some_iff_getElem.mp ek
        have hlen : its.length = ds.length := by rw [← hmap, List.length_map]
        have at_ : ∀ (j : Nat) (hj : j < its.length), SeqAt.readOf s.heap its[j] = ds[j]'(by omega) := fun j hj => by
          simp [← hmap]
        have hki : k < its.toArray.size := by rw [List.size_toArray]; omega
        unfold dataD at A3 B3
        refine call_meets PySem.F.slot_list_remove ⟨_, e0, rfl⟩ PySem.F.entry_list_remove (PySem.F.args_list_remove_2 _ _)
          (SeqAt.list_removeAt pa its.toArray m none #[] u (fun w => PyData.eqv (SeqAt.readOf s.heap w) d) k hki ?hit (fun j hj hjk => ?no) (by rw [List.size_toArray]; omega)) ⟨e0, SeqAt.items_eqAt (show ReadsAll s.heap its.toArray.toList ds as from R2) R1 A2 B2 (by omega), ?fin⟩
        case hit =>
          show PyData.eqv (SeqAt.readOf s.heap its[k]) d = true
          rw [at_ k (by omega)]; exact hit
        case no =>
          have hj' : j < its.length := by rw [List.size_toArray] at hj; exact hj
          show PyData.eqv (SeqAt.readOf s.heap its[j]) d = false
          rw [at_ j hj']
          simpa using hno j hjk
        case fin =>
          refine ⟨.non, _, I.lset (its' := its.eraseIdx k) a1 e0 ?_ (r0.eraseIdx k) ?_, rfl, Post.putL S e2 g (b1.eraseIdx k) .non p⟩
          · show its.toArray.eraseIdxIfInBounds k = (its.eraseIdx k).toArray
            rw [List.eraseIdxIfInBounds_toArray]
          · have := len_erase vs k
            omega
end
end Mi

set_option Elab.async false
set_option linter.all false
set_option maxRecDepth 100000
set_option maxHeartbeats 4000000
/-! The context, the judgements, expressions. -/
namespace Mi
open PySem PySem.Spec PyProof.Rows L2

/-- names, scope; all: the def's own cells may be stored -/
structure Gm where
  N : List Str
  sc : Scope
  all : Bool
structure Gd (G : Gx) (Γ : Gm) (m : Nat) (X : Cx) : Prop where
  prog : X.prog = G.P
  w : X.w = G.w
  K : X.K = G.K
  mg : X.mg = G.mg
  base : X.base = G.base
  N : X.N = Γ.N
  nd : Γ.N.Nodup
  sc : X.env.scope = Γ.sc
  kind : Γ.sc.kind = .function
  calm : X.calm = true
  room : Room m X.A
  fn : Γ.all = true → ∀ x, X.fn x = true
abbrev CX0 : CXT := fun _ _ _ _ _ _ => False
theorem passes0 (X : Cx) (E : XK) : Passes CX0 X E := fun _ _ _ _ _ _ _ h => h.elim

section
variable {G : Gx} {Γ : Gm} {m : Nat} {X : Cx}
theorem Gd.units (g : Gd G Γ m X) : X.A.units + 64 < cLine := g.room.units
theorem Gd.gl (g : Gd G Γ m X) {x : Str} (h : Γ.sc.names.lookup x = some .globalImplicit) : Gl X x := by
  show X.env.scope.names.lookup x = _
  rw [g.sc]; exact h
def visB (sc : Scope) (x : Str) : Bool := match sc.names.lookup x with
  | some .local => true | some .cell => true | some .free => true | _ => false
theorem Gd.vis (g : Gd G Γ m X) {x : Str} (h : visB Γ.sc x = true) : Vis X.env.scope x := by
  unfold Vis
  rw [g.sc]
  unfold visB at h
  split at h
  · rename_i e; exact .inl e
  · rename_i e; exact .inr (.inl e)
  · rename_i e; exact .inr (.inr e)
  · cases h
def locB (Γ : Gm) (x : Str) : Bool := match Γ.sc.names.lookup x with
  | some .local => true | some .cell => Γ.all | _ => false
theorem Gd.loc (g : Gd G Γ m X) {x : Str} (h : locB Γ x = true) : L2.Loc X.env.scope x ∧ (X.fn x = true ∨ X.env.scope.names.lookup x = some .local) := by
  unfold L2.Loc
  rw [g.sc]
  unfold locB at h
  split at h
  · rename_i e; exact ⟨.inl e, .inr e⟩
  · rename_i e; exact ⟨.inr e, .inl (g.fn h x)⟩
  · cases h
end

/-! ### weakening -/
theorem weakE {X : Cx} {e : Expr} {t t' : TE} (h : PE X e t) (w : ∀ σ H Q, t' σ H Q → t σ H Q) : PE X e t' := ⟨fun pins s σ H Q I q => h.run pins s σ H Q I (w _ _ _ q)⟩
theorem weakT {X : Cx} {e : Expr} {t t' : TT} (h : PT X e t) (w : ∀ σ H Q, t' σ H Q → t σ H Q) : PT X e t' := ⟨fun pins s σ H Q I q => h.run pins s σ H Q I (w _ _ _ q)⟩
theorem weakW {X : Cx} {e : Expr} {t t' : TT} (h : PW X e t) (w : ∀ σ H Q, t' σ H Q → t σ H Q) : PW X e t' := ⟨fun wh pins s σ H Q I q => h.run wh pins s σ H Q I (w _ _ _ q)⟩
theorem weakA {X : Cx} {e : List Expr} {t t' : TA} (h : PA X e t) (w : ∀ σ H Q, t' σ H Q → t σ H Q) : PA X e t' := ⟨fun pos pins s σ H Q I q => h.run pos pins s σ H Q I (w _ _ _ q)⟩
/-- the reading is chosen at the state -/
theorem pickE {X : Cx} {e : Expr} {t' : TE} (h : ∀ σ H Q, t' σ H Q → ∃ t, PE X e t ∧ t σ H Q) : PE X e t' := ⟨fun pins s σ H Q I q => let ⟨_, a, b⟩ := h _ _ _ q; a.run pins s σ H Q I b⟩

/-! ### the universal reading -/
def UU {α β : Type} (G : Gx) (EX : XK) (rel : Rho → Hp → α → β → Prop) (f : Sl → Hh → R α) : St → Hp → (β → Hp → Prop) → Prop := fun σ H Q =>
  ∃ r s h, Sim G r h H ∧ SlR G r H s σ ∧ Post G r H rel Q EX (f s h)
def SE (G : Gx) (EX : XK) (C : Cal) (Γ : Gm) (m : Nat) (e : Expr) (i : E) : Prop := ∀ X, Gd G Γ m X → PE X e (UU G EX (RelW G) (evE C i))
def SEs (G : Gx) (EX : XK) (C : Cal) (Γ : Gm) (m : Nat) (e : List Expr) (i : Es) : Prop := ∀ X, Gd G Γ m X → PA X e (UU G EX (RelWs G) (evEs C i)) ∧ starEach e X.env = e.map fun a => (false, eval a X.env)
def STt (G : Gx) (EX : XK) (C : Cal) (Γ : Gm) (m : Nat) (e : Expr) (i : E) : Prop := ∀ X, Gd G Γ m X → PT X e (UU G EX (fun _ _ => Eq) (evT C i))
def SW (G : Gx) (EX : XK) (C : Cal) (Γ : Gm) (m : Nat) (e : Expr) (i : E) : Prop := ∀ X, Gd G Γ m X → PW X e (UU G EX (fun _ _ => Eq) (evT C i))

section
variable {G : Gx} {EX : XK} {C : Cal} {Γ : Gm} {m : Nat}
theorem UU.bind {α β γ δ : Type} {rel : Rho → Hp → α → β → Prop} {rel' : Rho → Hp → γ → δ → Prop} {f : Sl → Hh → R γ} {k : γ → Sl → Hh → R α} {σ : St} {H : Hp} {Q : β → Hp → Prop} {K : δ → Hp → Prop}
    (u : UU G EX rel (fun s h => (f s h).bind fun a h1 => k a s h1) σ H Q)
    (q : ∀ r1 s H1 h1 a b, Sim G r1 h1 H1 → SlR G r1 H1 s σ → rel' r1 H1 a b → Post G r1 H1 rel Q EX (k a s h1) → K b H1) : UU G EX rel' f σ H K := by
  obtain ⟨r, s, h, S, L, p⟩ := u
  exact ⟨r, s, h, S, L, Post.of_bind p fun r1 H1 h1 a b st S1 rl p1 => q r1 s H1 h1 a b S1 (L.step st) rl p1⟩
/-- .. with what was related before -/
theorem Post.bindU {α β γ δ : Type} {rel : Rho → Hp → α → β → Prop} {rel' : Rho → Hp → γ → δ → Prop} {f : Sl → Hh → R γ} {k : γ → Hh → R α} {σ : St} {H : Hp} {r : Rho} {s : Sl} {h : Hh} {Q : β → Hp → Prop} {K : δ → Hp → Prop}
    (S : Sim G r h H) (L : SlR G r H s σ) (p : Post G r H rel Q EX ((f s h).bind k))
    (q : ∀ r1 H1 h1 a b, Step G r H r1 H1 → Sim G r1 h1 H1 → rel' r1 H1 a b → Post G r1 H1 rel Q EX (k a h1) → K b H1) : UU G EX rel' f σ H K :=
  ⟨r, s, h, S, L, Post.of_bind p q⟩

/-! ### constants, names -/
theorem se_non {k p} : SE G EX C Γ m (.Constant .none k p) (.cst .non) := fun X g => weakE (pe_non) fun σ H Q ⟨r, s, h, S, L, p⟩ => Post.ok (h := h) (rel := RelW G) (EX := EX) (by simpa only [evE] using p) S .non
theorem se_bl {b k p} : SE G EX C Γ m (.Constant (.bool b) k p) (.cst (.bl b)) := fun X g => weakE (pe_bl) fun σ H Q ⟨r, s, h, S, L, p⟩ => Post.ok (h := h) (rel := RelW G) (EX := EX) (by simpa only [evE] using p) S (.bl b)
theorem se_int {i k p} : SE G EX C Γ m (.Constant (.int i) k p) (.cst (.int i)) := fun X g => weakE (pe_int) fun σ H Q ⟨r, s, h, S, L, p⟩ => Post.ok (h := h) (rel := RelW G) (EX := EX) (by simpa only [evE] using p) S (.int i)
theorem se_str {x k p} : SE G EX C Γ m (.Constant (.str x) k p) (.cst (.str x)) := fun X g => weakE (pe_str) fun σ H Q ⟨r, s, h, S, L, p⟩ => Post.ok (h := h) (rel := RelW G) (EX := EX) (by simpa only [evE] using p) S (.str x)
def nmOk (x : Str) : Bool := !(x == ("__debug__" : Str)) && !(x == ("__classdict__" : Str)) && !(x == ("__name__" : Str))
theorem nmOk.d {x : Str} (h : nmOk x = true) : (x == ("__debug__" : Str)) = false ∧ (x == ("__classdict__" : Str)) = false ∧ x ≠ "__name__" := by
  simp only [nmOk, Bool.and_eq_true, Bool.not_eq_true'] at h
  exact ⟨h.1.1, h.1.2, beq_eq_false_iff_ne.mp h.2⟩
theorem se_var {x : Str} {i : Nat} {p : Pos} (hi : Γ.N[i]? = some x) (hv : visB Γ.sc x = true) (hn : nmOk x = true) : SE G EX C Γ m (.Name x p) (.var i) := fun X g =>
  weakE (pe_var (by rw [g.N]; exact hi) (g.vis hv) (nmOk.d hn).1 (nmOk.d hn).2.1) fun σ H Q ⟨r, s, h, S, L, p⟩ => by
    cases e : getS s i with
    | none => simp only [evE, e] at p; exact False.elim p
    | some w =>
      simp only [evE, e] at p
      obtain ⟨v, a, b⟩ := L.get e
      exact ⟨v, a, Post.ok (h := h) p S b⟩
/-- a value that the module holds -/
def GlV (G : Gx) (x : Str) (w : W) : Prop := ∃ u v, G.mg x = some u ∧ RelV v u ∧ RelW G [] (fun _ => none) w v
theorem RelW.base {r : Rho} {H : Hp} {w : W} {v : V} (q : RelW G [] (fun _ => none) w v) : RelW G r H w v := by
  refine q.step ⟨⟨r, rfl⟩, fun a vs h => ?_⟩
  rcases h with (h | ⟨o, h⟩) | h
  · cases h
  · cases h
  · exact .inr h
theorem se_glo {x : Str} {w : W} {p : Pos} (hg : Γ.sc.names.lookup x = some .globalImplicit) (hn : nmOk x = true) (hw : GlV G x w) : SE G EX C Γ m (.Name x p) (.glo w) := fun X g => by
  obtain ⟨u, v, a, b, c⟩ := hw
  exact weakE (pe_glob (g.gl hg) (by rw [g.mg]; exact a) b (nmOk.d hn).1) fun σ H Q ⟨r, s, h, S, L, p⟩ => Post.ok (h := h) (rel := RelW G) (EX := EX) (by simpa only [evE] using p) S c.base

/-! ### operations -/
theorem se_bin {a b : Expr} {i j : E} {op : Bop} {p : Pos} (ha : SE G EX C Γ m a i) (hb : SE G EX C Γ m b j) : SE G EX C Γ m (.BinOp a (bopA op) b p) (.bin op i j) := fun X g =>
  weakE (pe_op (or_bin (X := X) g.K op) (ha X g) (hb X g)) fun σ H Q u => by
    obtain ⟨r, s, h, S, L, p⟩ := u
    simp only [evE] at p
    refine Post.bindU S L p fun r1 H1 h1 x y st0 S1 q1 p1 => ?_
    have L1 := L.step st0
    refine Post.bindU (f := evE C j) S1 L1 p1 fun r2 H2 h2 x2 y2 st S2 q2 p2 => ?_
    exact ⟨r2, h2, x, x2, S2, q1.step st, q2, p2.nx⟩
theorem se_neg {a : Expr} {i : E} {p : Pos} (ha : SE G EX C Γ m a i) : SE G EX C Γ m (.UnaryOp .USub a p) (.neg i) := fun X g =>
  weakE (pe_un un_neg (ha X g)) fun σ H Q u => by
    obtain ⟨r, s, h, S, L, p⟩ := u
    simp only [evE] at p
    refine Post.bindU S L p fun r1 H1 h1 x y st0 S1 q1 p1 => ?_
    have L1 := L.step st0
    cases x <;> (try exact False.elim p1)
    cases q1
    exact ⟨_, rfl, Post.ok p1 S1 (.int _)⟩
theorem se_not {a : Expr} {i : E} {p : Pos} (ha : SE G EX C Γ m a i) : SE G EX C Γ m (.UnaryOp .Not a p) (.notE i) := fun X g =>
  weakE (pe_notT (ha X g)) fun σ H Q u => by
    obtain ⟨r, s, h, S, L, p⟩ := u
    simp only [evE] at p
    refine Post.bindU S L p fun r1 H1 h1 x y st0 S1 q1 p1 => ?_
    have L1 := L.step st0
    cases e : tru h1 x with
    | none => rw [e] at p1; exact False.elim p1
    | some k =>
      rw [e] at p1
      exact ⟨k, g.K ▸ S1.tru q1 e, Post.ok (h := h1) p1 S1 (.bl _)⟩
theorem se_and {a b : Expr} {rest : List Expr} {i j : E} {p : Pos} (ha : SE G EX C Γ m a i) (hb : SE G EX C Γ m (.BoolOp .And (b :: rest) p) j) : SE G EX C Γ m (.BoolOp .And (a :: b :: rest) p) (.andE i j) := fun X g =>
  weakE (pe_andT (ha X g) (hb X g)) fun σ H Q u => by
    obtain ⟨r, s, h, S, L, p⟩ := u
    simp only [evE] at p
    refine Post.bindU S L p fun r1 H1 h1 x y st0 S1 q1 p1 => ?_
    have L1 := L.step st0
    cases e : tru h1 x with
    | none => simp only [e] at p1; exact False.elim p1
    | some k =>
      simp only [e] at p1
      refine ⟨k, g.K ▸ S1.tru q1 e, ?_⟩
      cases k with
      | true => exact ⟨r1, s, h1, S1, L1, p1⟩
      | false => exact Post.ok (h := h1) p1 S1 q1
theorem se_or {a b : Expr} {rest : List Expr} {i j : E} {p : Pos} (ha : SE G EX C Γ m a i) (hb : SE G EX C Γ m (.BoolOp .Or (b :: rest) p) j) : SE G EX C Γ m (.BoolOp .Or (a :: b :: rest) p) (.orE i j) := fun X g =>
  weakE (pe_orT (ha X g) (hb X g)) fun σ H Q u => by
    obtain ⟨r, s, h, S, L, p⟩ := u
    simp only [evE] at p
    refine Post.bindU S L p fun r1 H1 h1 x y st0 S1 q1 p1 => ?_
    have L1 := L.step st0
    cases e : tru h1 x with
    | none => simp only [e] at p1; exact False.elim p1
    | some k =>
      simp only [e] at p1
      refine ⟨k, g.K ▸ S1.tru q1 e, ?_⟩
      cases k with
      | true => exact Post.ok (h := h1) p1 S1 q1
      | false => exact ⟨r1, s, h1, S1, L1, p1⟩
theorem se_one {a : Expr} {op : BoolOp} {i : E} {p : Pos} (ha : SE G EX C Γ m a i) : SE G EX C Γ m (.BoolOp op [a] p) i := fun X g => pe_one (ha X g)
/-! ### comparisons -/
def notSet : Expr → Bool
  | .Set .. => false
  | _ => true
theorem noMark {b : Expr} (op : CmpOp) (h : notSet b = true) : behindInMarks op b = false := by
  cases b <;> first | rfl | cases h
theorem se_cmp {a b : Expr} {i j : E} {op : Cop} {p : Pos} (hc : NoEq C) (ha : SE G EX C Γ m a i) (hb : SE G EX C Γ m b j) (hm : notSet b = true) : SE G EX C Γ m (.Compare a [copA op] [b] p) (.cmp op i j) := fun X g =>
  weakE (pe_cmpR (or_cmp (X := X) g.K g.units hc op) (ha X g) (hb X g) (noMark _ hm)) fun σ H Q u => by
    obtain ⟨r, s, h, S, L, p⟩ := u
    simp only [evE] at p
    refine Post.bindU S L p fun r1 H1 h1 x y st0 S1 q1 p1 => ?_
    have L1 := L.step st0
    refine Post.bindU (f := evE C j) S1 L1 p1 fun r2 H2 h2 x2 y2 st S2 q2 p2 => ?_
    exact ⟨r2, h2, x, x2, S2, q1.step st, q2, p2.nx⟩
theorem st_cmp {a b : Expr} {i j : E} {op : Cop} {p : Pos} (hc : NoEq C) (ha : SE G EX C Γ m a i) (hb : SE G EX C Γ m b j) (hm : notSet b = true) : STt G EX C Γ m (.Compare a [copA op] [b] p) (.cmp op i j) := fun X g =>
  weakT (pt_cmpR (or_cmp (X := X) g.K g.units hc op) (ha X g) (hb X g) (noMark _ hm)) fun σ H Q u => by
    obtain ⟨r, s, h, S, L, p⟩ := u
    simp only [evT] at p
    refine Post.bindU S L p fun r1 H1 h1 x y st0 S1 q1 p1 => ?_
    have L1 := L.step st0
    refine Post.bindU (f := evE C j) S1 L1 p1 fun r2 H2 h2 x2 y2 st S2 q2 p2 => ?_
    refine ⟨r2, h2, x, x2, S2, q1.step st, q2, Post.of_bindN p2 fun r3 H3 h3 x3 y3 st3 S3 q3 p3 => ?_⟩
    cases x3 <;> (try exact False.elim p3)
    cases q3
    exact ⟨_, rfl, Post.ok p3 S3 rfl⟩
theorem chainU {op op' : Cop} {l : E} {x : W} {s : Sl} {σ : St} {y : V} {α β : Type} {rel : Rho → Hp → α → β → Prop} {Q : β → Hp → Prop} {r2 : Rho} {H2 : Hp} {h2 : Hh} {x2 : W} {y2 : V}
    {fin : W → Hh → R α} {Q1 : VK} {no : Hh → R α} (S2 : Sim G r2 h2 H2) (L2 : SlR G r2 H2 s σ) (q1 : RelW G r2 H2 x y) (q2 : RelW G r2 H2 x2 y2)
    (p2 : Post G r2 H2 rel Q EX ((cmpW C op x x2 h2).bindN fun r h3 => match r with
      | .bl true => (evE C l s h3).bind fun z h4 => (cmpW C op' x2 z h4).bindN fin
      | .bl false => no h3
      | _ => .no))
    (hf : ∀ r H h, Sim G r h H → Post G r H rel Q EX (no h) → Q1 (.bl false) H)
    (hk : ∀ r H h w v, Sim G r h H → RelW G r H w v → Post G r H rel Q EX (fin w h) → Q1 v H) :
    u2 G (cmpW C op) y y2 H2 fun z H3 => ∃ k, z = .bl k ∧ (if k = true then UU G EX (RelW G) (evE C l) σ H3 (fun w' H4 => u2 G (cmpW C op') y2 w' H4 Q1) else Q1 (.bl false) H3) := by
  refine ⟨r2, h2, x, x2, S2, q1, q2, Post.of_bindN p2 fun r3 H3 h3 x3 y3 st3 S3 q3 p3 => ?_⟩
  cases x3 <;> (try exact False.elim p3)
  cases q3
  rename_i k
  refine ⟨k, rfl, ?_⟩
  cases k with
  | true =>
    refine Post.bindU (f := evE C l) S3 (L2.step st3) p3 fun r4 H4 h4 x4 y4 st4 S4 q4 p4 => ?_
    exact ⟨r4, h4, x2, x4, S4, (q2.step st3).step st4, q4, Post.of_bindN p4 fun r5 H5 h5 x5 y5 st5 S5 q5 p5 => hk _ _ _ _ _ S5 q5 p5⟩
  | false => exact hf _ _ _ S3 p3
theorem lastNo {op op' : CmpOp} {b c : Expr} (h : notSet c = true) : lastMarks [op, op'] [b, c] = false := by
  show lastMarks [op'] [c] = false
  show behindInMarks op' c = false
  exact noMark _ h
theorem se_cmp2 {a b c : Expr} {i j l : E} {op op' : Cop} {p : Pos} (hc : NoEq C) (ha : SE G EX C Γ m a i) (hb : SE G EX C Γ m b j) (hd : SE G EX C Γ m c l) (hm : notSet c = true) :
    SE G EX C Γ m (.Compare a [copA op, copA op'] [b, c] p) (.cmp2 op op' i j l) := fun X g =>
  weakE (pe_chain (or_cmp (X := X) g.K g.units hc op) (or_cmp (X := X) g.K g.units hc op') (ha X g) (hb X g) (hd X g) (lastNo hm)) fun σ H Q u => by
    obtain ⟨r, s, h, S, L, p⟩ := u
    simp only [evE] at p
    refine Post.bindU S L p fun r1 H1 h1 x y st0 S1 q1 p1 => ?_
    have L1 := L.step st0
    refine Post.bindU (f := evE C j) S1 L1 p1 fun r2 H2 h2 x2 y2 st S2 q2 p2 => ?_
    have p3 : Post G r2 H2 (RelW G) Q EX ((cmpW C op x x2 h2).bindN fun r h3 => match r with
      | .bl true => (evE C l s h3).bind fun z h4 => (cmpW C op' x2 z h4).bindN fun w h5 => .ok w h5
      | .bl false => .ok (.bl false) h3
      | _ => .no) := by
      have e : (fun (r : W) (h3 : Hh) => match r with
        | .bl true => (evE C l s h3).bind fun z h4 => (cmpW C op' x2 z h4).bindN fun w h5 => .ok w h5
        | .bl false => .ok (.bl false) h3
        | _ => .no) = (fun (r : W) (h3 : Hh) => match r with
        | .bl true => (evE C l s h3).bind fun z h4 => (cmpW C op' x2 z h4).nx
        | .bl false => .ok (.bl false) h3
        | _ => .no) := by
        have e0 : ∀ x : R W, (x.bindN fun w h5 => .ok w h5) = x.nx := fun x => by cases x <;> rfl
        funext r h3
        simp only [e0]
      rw [e]; exact p2
    exact chainU S2 (L1.step st) (q1.step st) q2 p3 (fun r H h S p => Post.ok p S (.bl _)) (fun r H h w v S q p => Post.ok p S q)
theorem st_cmp2 {a b c : Expr} {i j l : E} {op op' : Cop} {p : Pos} (hc : NoEq C) (ha : SE G EX C Γ m a i) (hb : SE G EX C Γ m b j) (hd : SE G EX C Γ m c l) (hm : notSet c = true) :
    STt G EX C Γ m (.Compare a [copA op, copA op'] [b, c] p) (.cmp2 op op' i j l) := fun X g =>
  weakT (pt_chain (or_cmp (X := X) g.K g.units hc op) (or_cmp (X := X) g.K g.units hc op') (ha X g) (hb X g) (hd X g) (lastNo hm)) fun σ H Q u => by
    show tChain _ _ _ _ _ σ H _
    obtain ⟨r, s, h, S, L, p⟩ := u
    simp only [evT] at p
    refine Post.bindU S L p fun r1 H1 h1 x y st0 S1 q1 p1 => ?_
    have L1 := L.step st0
    refine Post.bindU (f := evE C j) S1 L1 p1 fun r2 H2 h2 x2 y2 st S2 q2 p2 => ?_
    refine chainU S2 (L1.step st) (q1.step st) q2 p2 (fun r H h S p => ⟨_, rfl, Post.ok p S rfl⟩) (fun r H h w v S q p => ?_)
    cases w <;> (try exact False.elim p)
    cases q
    exact ⟨_, rfl, Post.ok p S rfl⟩
/-! ### tests -/
theorem st_not {a : Expr} {i : E} {p : Pos} (ha : STt G EX C Γ m a i) : STt G EX C Γ m (.UnaryOp .Not a p) (.notE i) := fun X g =>
  weakT (pt_not (ha X g)) fun σ H Q u => by
    obtain ⟨r, s, h, S, L, p⟩ := u
    simp only [evT] at p
    refine Post.bindU S L p fun r1 H1 h1 x y st0 S1 q1 p1 => ?_
    have L1 := L.step st0
    subst q1
    exact Post.ok p1 S1 rfl
theorem sw_and {a b : Expr} {rest : List Expr} {i j : E} {p : Pos} (ha : STt G EX C Γ m a i) (hb : SW G EX C Γ m (.BoolOp .And (b :: rest) p) j) : SW G EX C Γ m (.BoolOp .And (a :: b :: rest) p) (.andE i j) := fun X g =>
  weakW (pw_and (ha X g) (hb X g)) fun σ H Q u => by
    obtain ⟨r, s, h, S, L, p⟩ := u
    simp only [evT] at p
    refine Post.bindU S L p fun r1 H1 h1 x y st0 S1 q1 p1 => ?_
    have L1 := L.step st0
    subst q1
    cases x with
    | true => exact ⟨r1, s, h1, S1, L1, p1⟩
    | false => exact Post.ok p1 S1 rfl
theorem sw_or {a b : Expr} {rest : List Expr} {i j : E} {p : Pos} (ha : STt G EX C Γ m a i) (hb : SW G EX C Γ m (.BoolOp .Or (b :: rest) p) j) : SW G EX C Γ m (.BoolOp .Or (a :: b :: rest) p) (.orE i j) := fun X g =>
  weakW (pw_or (ha X g) (hb X g)) fun σ H Q u => by
    obtain ⟨r, s, h, S, L, p⟩ := u
    simp only [evT] at p
    refine Post.bindU S L p fun r1 H1 h1 x y st0 S1 q1 p1 => ?_
    have L1 := L.step st0
    subst q1
    cases x with
    | false => exact ⟨r1, s, h1, S1, L1, p1⟩
    | true => exact Post.ok p1 S1 rfl
theorem sw_and1 {a : Expr} {i : E} {p : Pos} (ha : STt G EX C Γ m a i) : SW G EX C Γ m (.BoolOp .And [a] p) i := fun X g => pw_and1 (ha X g)
theorem sw_or1 {a : Expr} {i : E} {p : Pos} (ha : STt G EX C Γ m a i) : SW G EX C Γ m (.BoolOp .Or [a] p) i := fun X g => pw_or1 (ha X g)
theorem SW.pt {a : Expr} {i : E} (h : SW G EX C Γ m a i) : STt G EX C Γ m a i := fun X g => (h X g).pt
def plainT : Expr → Bool
  | .UnaryOp .Not _ _ => false
  | .BoolOp .. => false
  | .IfExp .. => false
  | .Compare .. => false
  | _ => true
theorem plainT_is {a : Expr} (h : plainT a = true) (env : Env) (whole : Sem Value) : isTrue a env whole = (do let v ← whole; standAt a.pos; holding [v] (truthy v)) := by
  cases a <;> first | rfl | (cases h; done) | skip
  rename_i op e p
  cases op <;> first | rfl | cases h
/-- the value's truth -/
def evTru (C : Cal) (i : E) (s : Sl) (h : Hh) : R Bool := (evE C i s h).bind fun x h1 => .of h1 (tru h1 x)
theorem st_tru {a : Expr} {i : E} (ha : SE G EX C Γ m a i) (hp : plainT a = true) (he : ∀ s h, evT C i s h = evTru C i s h) : STt G EX C Γ m a i := fun X g =>
  weakT (pt_truth (ha X g) (plainT_is hp X.env)) fun σ H Q u => by
    have e1 : evT C i = evTru C i := funext fun s => funext fun h => he s h
    rw [e1] at u
    obtain ⟨r, s, h, S, L, p⟩ := u
    unfold evTru at p
    refine Post.bindU S L p fun r1 H1 h1 x y st0 S1 q1 p1 => ?_
    have L1 := L.step st0
    cases e : tru h1 x with
    | none => rw [e] at p1; exact False.elim p1
    | some k =>
      rw [e] at p1
      exact ⟨k, g.K ▸ S1.tru q1 e, Post.ok (h := h1) p1 S1 rfl⟩
theorem se_ife {c a b : Expr} {k i j : E} {p : Pos} (hc : STt G EX C Γ m c k) (ha : SE G EX C Γ m a i) (hb : SE G EX C Γ m b j) : SE G EX C Γ m (.IfExp c a b p) (.ife k i j) := fun X g =>
  weakE (pe_ifExp (hc X g) (ha X g) (hb X g)) fun σ H Q u => by
    obtain ⟨r, s, h, S, L, p⟩ := u
    simp only [evE] at p
    refine Post.bindU S L p fun r1 H1 h1 x y st0 S1 q1 p1 => ?_
    have L1 := L.step st0
    subst q1
    cases x with
    | true => exact ⟨r1, s, h1, S1, L1, p1⟩
    | false => exact ⟨r1, s, h1, S1, L1, p1⟩
end
end Mi

set_option Elab.async false
set_option linter.all false
set_option maxRecDepth 100000
set_option maxHeartbeats 4000000
/-! Argument lists, displays, subscripts, fields, calls. -/
namespace Mi
open PySem PySem.Spec PyProof.Rows L2

def notStar : Expr → Bool
  | .Starred .. => false
  | _ => true
theorem star_cons {a : Expr} (h : notStar a = true) (es : List Expr) (env : Env) : starEach (a :: es) env = (false, eval a env) :: starEach es env := by
  cases a <;> first | rfl | cases h
theorem assign_cons {a : Expr} (h : notStar a = true) (es : List Expr) (env : Env) : assignEach (a :: es) env = (false, assign a env) :: assignEach es env := by
  cases a <;> first | rfl | cases h
/-- no starred item -/
def plainAll (es : List Expr) : Bool := es.all notStar
theorem star_all : ∀ {es : List Expr} (h : plainAll es = true) (env : Env), starEach es env = es.map fun a => (false, eval a env)
  | [], _, _ => rfl
  | a :: es, h, env => by
    simp only [plainAll, List.all_cons, Bool.and_eq_true] at h
    rw [star_cons h.1, star_all (es := es) h.2]; rfl
theorem backTo_any {es : List Expr} (h : plainAll es = true) (env : Env) (pos : Pos) : (backTo pos (starEach es env)).any (·.1) = false := by
  rw [star_all h]
  induction es with
  | nil => rfl
  | cons a es ih =>
    simp only [plainAll, List.all_cons, Bool.and_eq_true] at h
    simpa [backTo] using ih h.2
theorem backTo_all {es : List Expr} (h : plainAll es = true) (env : Env) (pos : Pos) : (backTo pos (starEach es env)).all (fun x => !x.1) = true := by
  rw [star_all h]
  induction es with
  | nil => rfl
  | cons a es ih =>
    simp only [plainAll, List.all_cons, Bool.and_eq_true] at h
    simpa [backTo] using ih h.2
/-- no super().x -/
def plainB : Expr → Bool
  | .Call (.Name _ _) [] [] _ => false
  | _ => true
theorem plainB_is {o : Expr} (h : plainB o = true) (attr : Str) (env : Env) (whole : Sem Value) : attributeBase o attr env whole = whole := by
  unfold attributeBase
  split
  · cases h
  · rfl
def notSlice : Expr → Bool
  | .Slice .. => false
  | _ => true
theorem notSlice_ix {b : Expr} (h : notSlice b = true) : PlainIx b := by
  intro o i
  cases b <;> first | rfl | cases h
def noComp : Expr → Bool
  | .ListComp .. => false | .SetComp .. => false | .DictComp .. => false
  | _ => true
theorem noComp_sw {e : Expr} (h : noComp e = true) (t : Option Expr) (l : Nat) (env : Env) : swapsWith e t l env = pure false := by
  cases e <;> first | rfl | cases h

section
variable {G : Gx} {EX : XK} {C : Cal} {Γ : Gm} {m : Nat}
structure SEs' (G : Gx) (EX : XK) (C : Cal) (Γ : Gm) (m : Nat) (e : List Expr) (i : Es) : Prop where
  pl : plainAll e = true
  nil : e = [] → i = .nil
  run : ∀ X, Gd G Γ m X → PA X e (UU G EX (RelWs G) (evEs C i))
theorem ss_nil : SEs' G EX C Γ m [] .nil := ⟨rfl, fun _ => rfl, fun X g => weakA pa_nil fun σ H Q ⟨r, s, h, S, L, p⟩ => by
  simp only [evEs] at p
  exact Post.ok (h := h) p S .nil⟩
theorem ss_cons {a : Expr} {es : List Expr} {i : E} {is : Es} (ha : SE G EX C Γ m a i) (hs : SEs' G EX C Γ m es is) (hn : notStar a = true) : SEs' G EX C Γ m (a :: es) (.cons i is) :=
  ⟨by simp only [plainAll, List.all_cons, Bool.and_eq_true]; exact ⟨hn, hs.pl⟩, fun e => (by cases e), fun X g => weakA (pa_cons (ha X g) (hs.run X g) (star_cons hn _ _)) fun σ H Q ⟨r, s, h, S, L, p⟩ => by
    simp only [evEs] at p
    refine Post.bindU S L p fun r1 H1 h1 x y st0 S1 q1 p1 => ?_
    have L1 := L.step st0
    refine Post.bindU (f := evEs C is) S1 L1 p1 fun r2 H2 h2 x2 y2 st S2 q2 p2 => ?_
    exact Post.ok p2 S2 (.cons (q1.step st) q2)⟩
/-! ### displays -/
theorem se_lst {es : List Expr} {is : Es} {p : Pos} (hs : SEs' G EX C Γ m es is) : SE G EX C Γ m (.List es p) (.lst is) := fun X g =>
  weakE (pe_lst (hs.run X g)) fun σ H Q ⟨r, s, h, S, L, p⟩ => by
    simp only [evE] at p
    refine Post.bindU S L p fun r1 H1 h1 x y st0 S1 q1 p1 => ?_
    have p2 := p1.nx (E' := EX)
    unfold newL at p2
    split at p2
    · rename_i hl
      exact ⟨by rw [← q1.length]; exact hl, Post.newL S1 q1 p2⟩
    · exact False.elim p2
theorem se_tup {es : List Expr} {is : Es} {p : Pos} {k : Nat} (hs : SEs' G EX C Γ m es is) : SE G EX C Γ m (.Tuple es k p) (.tup is) := fun X g =>
  weakE (pe_tup (hs.run X g)) fun σ H Q ⟨r, s, h, S, L, p⟩ => by
    simp only [evE] at p
    refine Post.bindU S L p fun r1 H1 h1 x y st0 S1 q1 p1 => ?_
    have p2 := p1.nx (E' := EX)
    unfold newT at p2
    split at p2
    · rename_i hl
      exact ⟨by rw [← q1.length]; exact hl, Post.newT S1 q1 p2⟩
    · exact False.elim p2
theorem se_dic0 {p : Pos} : SE G EX C Γ m (.Dict [] [] p) .dic0 := fun X g =>
  weakE pe_dnewK fun σ H Q ⟨r, s, h, S, L, p⟩ => by
    simp only [evE] at p
    exact Post.newD S .nil p
/-! ### subscripts -/
theorem se_ix {a b : Expr} {i j : E} {p : Pos} (ha : SE G EX C Γ m a i) (hb : SE G EX C Γ m b j) (hn : notSlice b = true) : SE G EX C Γ m (.Subscript a b p) (.ix i j) := fun X g =>
  weakE (pe_ix (or_ix (X := X) g.K g.units) (ha X g) (hb X g) (notSlice_ix hn)) fun σ H Q ⟨r, s, h, S, L, p⟩ => by
    simp only [evE] at p
    refine Post.bindU S L p fun r1 H1 h1 x y st0 S1 q1 p1 => ?_
    have L1 := L.step st0
    refine Post.bindU (f := evE C j) S1 L1 p1 fun r2 H2 h2 x2 y2 st S2 q2 p2 => ?_
    refine ⟨r2, h2, x, x2, S2, q1.step st, q2, ?_⟩
    cases e : ixW x x2 h2 with
    | none => rw [e] at p2; exact False.elim p2
    | some w =>
      rw [e] at p2
      show Post G r2 H2 (RelW G) Q _ (R.of h2 (ixW x x2 h2))
      rw [e]; exact p2
theorem se_rev {a : Expr} {i : E} {k : Nat} {p1 p2 p3 p : Pos} (ha : SE G EX C Γ m a i) : SE G EX C Γ m (.Subscript a (.Slice none none (some (.UnaryOp .USub (.Constant (.int 1) k p1) p2)) p3) p) (.rev i) := fun X g =>
  weakE (pe_revL (ha X g)) fun σ H Q ⟨r, s, h, S, L, p⟩ => by
    simp only [evE] at p
    refine Post.bindU S L p fun r1 H1 h1 x y st0 S1 q1 p1 => ?_
    have p2 := p1.nx (E' := EX)
    unfold revW at p2
    split at p2
    · split at p2
      · rename_i e
        obtain ⟨pa, vs, rfl, sl', rs⟩ := S1.seqRef q1 e
        exact ⟨pa, vs, rfl, g.K ▸ sl', Post.newL S1 rs.reverse p2⟩
      · exact False.elim p2
    · exact False.elim p2
/-- a part of a slice -/
def SO (G : Gx) (EX : XK) (C : Cal) (Γ : Gm) (m : Nat) (e : Option Expr) (i : Eo) : Prop := ∀ X, Gd G Γ m X → PO X e (UU G EX (fun _ _ => Eq) (evO C i))
theorem weakO {X : Cx} {e : Option Expr} {t t' : TO} (h : PO X e t) (w : ∀ σ H Q, t' σ H Q → t σ H Q) : PO X e t' := ⟨fun pins s σ H Q I q => h.run pins s σ H Q I (w _ _ _ q)⟩
theorem so_none : SO G EX C Γ m none .none := fun X g => weakO po_none fun σ H Q ⟨r, s, h, S, L, p⟩ => by
  simp only [evO] at p
  exact Post.ok (h := h) p S rfl
theorem so_some {a : Expr} {i : E} (ha : SE G EX C Γ m a i) : SO G EX C Γ m (some a) (.some i) := fun X g => weakO (po_some (ha X g)) fun σ H Q ⟨r, s, h, S, L, p⟩ => by
  simp only [evO] at p
  refine Post.bindU S L p fun r1 H1 h1 x y st0 S1 q1 p1 => ?_
  cases x <;> (try exact False.elim p1)
  cases q1
  exact ⟨_, rfl, Post.ok p1 S1 rfl⟩
theorem se_slc {a : Expr} {lo hi : Option Expr} {i : E} {l u : Eo} {p2 p : Pos} (ha : SE G EX C Γ m a i) (hl : SO G EX C Γ m lo l) (hh : SO G EX C Γ m hi u) : SE G EX C Γ m (.Subscript a (.Slice lo hi none p2) p) (.slc i l u) := fun X g =>
  weakE (pe_slice (or_slc (X := X) g.K) (ha X g) (hl X g) (hh X g)) fun σ H Q ⟨r, s, h, S, L, p⟩ => by
    simp only [evE] at p
    refine Post.bindU S L p fun r1 H1 h1 x y st0 S1 q1 p1 => ?_
    have L1 := L.step st0
    refine Post.bindU (f := evO C l) S1 L1 p1 fun r2 H2 h2 x2 y2 st S2 q2 p2 => ?_
    subst q2
    refine Post.bindU (f := evO C u) S2 (L1.step st) p2 fun r3 H3 h3 x3 y3 st3 S3 q3 p3 => ?_
    subst q3
    exact ⟨r3, h3, x, S3, (q1.step st).step st3, p3.nx⟩
end

/-! ### calls of own defs -/
/-- what the callees promise: one level below -/
structure FnC (G : Gx) (C : Cal) (l k : Nat) : Prop where
  ex : ∃ (fd : FuncData) (ps : List Str), FnOk G.P G.w G.K G.mg G.base CX0 l (G.fa k) fd ps (fun vs H Q EX => vs.length = ps.length ∧ ∃ r h ws, Sim G r h H ∧ RelWs G r H ws vs ∧ Post G r H (RelW G) Q EX (C.call k ws h)) ∧
    PySem.W.keepIn G.K (.ref (G.fa k)) = true ∧ Binds G.K fd ps [] ∧ ∀ ws h, C.call k ws h ≠ .no → ws.length = ps.length
def COk (G : Gx) (C : Cal) (l n : Nat) : Prop := ∀ k, k < n → FnC G C l k
theorem Post.ne {α β : Type} {G : Gx} {r : Rho} {H : Hp} {rel : Rho → Hp → α → β → Prop} {Q : β → Hp → Prop} {EX : XK} {x : R α} (p : Post G r H rel Q EX x) : x ≠ .no := fun e => by rw [e] at p; exact p
section
variable {G : Gx} {EX : XK} {C : Cal} {Γ : Gm} {m l n : Nat} {X : Cx}
theorem Gd.fnOk (g : Gd G Γ m X) {k l : Nat} {f : Addr} {fd : FuncData} {ps : List Str} {sp : Sp} (F : FnOk G.P G.w G.K G.mg G.base CX0 l f fd ps sp) : FnOk X.prog X.w X.K X.mg X.base CX0 l f fd ps sp := by
  rw [g.prog, g.w, g.K, g.mg, g.base]; exact F
theorem se_call {k : Nat} {x : Str} {es : List Expr} {is : Es} {p pos : Pos} (hc : COk G C l n) (hl : l ≤ m) (hk : k < n) (hs : SEs' G EX C Γ m es is) (hg : Γ.sc.names.lookup x = some .globalImplicit) (hn : nmOk x = true)
    (hm : G.mg x = some (.ref (G.fa k))) : SE G EX C Γ m (.Call (.Name x p) es [] pos) (.call k is []) := fun X g => by
  obtain ⟨fd, ps, F, kp, hb, hlen⟩ := (hc k hk).ex
  have F' := g.fnOk (k := k) F
  have room : Room l X.A := g.room.mono hl
  have mg' : X.mg x = some (.ref (G.fa k)) := by rw [g.mg]; exact hm
  have kp' : PySem.W.keepIn X.K (.ref (G.fa k)) = true := by rw [g.K]; exact kp
  have hb' : Binds X.K fd ps [] := by rw [g.K]; exact hb
  cases es with
  | nil =>
    refine weakE (pe_call0 F' room (g.gl hg) mg' kp' hb' (dvs := []) .nil (passes0 X EX) (nmOk.d hn).1) fun σ H Q ⟨r, s, h, S, L, p⟩ => ?_
    have e0 := hs.nil rfl
    subst e0
    simp only [evE, evEs, R.bind, permW] at p
    have e := hlen _ _ p.ne
    exact ⟨e, r, h, [], S, .nil, p⟩
  | cons a es =>
    have ha := hs.pl
    simp only [plainAll, List.all_cons, Bool.and_eq_true] at ha
    refine weakE (pe_call F' room (g.gl hg) mg' kp' hb' (dvs := []) .nil (passes0 X EX) (hs.run X g) (nmOk.d hn).1 (star_cons ha.1 _ _) (backTo_any ha.2 _ _)) fun σ H Q ⟨r, s, h, S, L, p⟩ => ?_
    simp only [evE] at p
    refine Post.bindU S L p fun r1 H1 h1 x y st0 S1 q1 p1 => ?_
    simp only [permW] at p1
    have e := hlen _ _ p1.ne
    refine ⟨?_, r1, h1, x, S1, ?_, p1⟩
    · rw [List.append_nil, ← q1.length]; exact e
    · rw [List.append_nil]; exact q1
end
end Mi

set_option Elab.async false
set_option linter.all false
set_option maxRecDepth 100000
set_option maxHeartbeats 4000000
/-! Methods, fields, new instances, built-ins. -/
namespace Mi
open PySem PySem.Spec PyProof.Rows L2

theorem kwNone (pos : Pos) (env : Env) : backToKw pos (keywordEach [] env) = [] := rfl
theorem callForm {es : List Expr} {env : Env} {pos : Pos} (hp : plainAll es = true) (hl : es.length < 29) : methodCallForm (es.length + ([] : List Keyword).length) (backTo pos (starEach es env)) (backToKw pos (keywordEach [] env)) = true := by
  unfold methodCallForm
  rw [backTo_all hp, kwNone]
  simp; omega
theorem meth_ht {o : Expr} {m : Str} {es : List Expr} {apos pos : Pos} {env : Env} (hb : plainB o = true) (hp : plainAll es = true) (hl : es.length < 29) (hline : (apos.endLine == pos.line) = true) :
    eval (.Call (.Attribute o m apos) es [] pos) env = (do
      let ov ← eval o env
      standAt apos.atName
      let (f, first) ← holding [ov] (getMethod ov m (do return (← importBound o env).getD true))
      callWith pos f first (backTo pos (starEach es env)) (backToKw pos (keywordEach [] env))) := by
  rw [arm_eval_Call, plainB_is hb]
  unfold methodCall
  rw [callForm hp hl]
  have e : methodCallPos true o env apos pos = pure pos := by
    unfold methodCallPos
    rw [hline]; rfl
  rw [e]
  rfl
/-- what of the text a class must have -/
structure ClsF (G : Gx) (n c : Nat) (q : ClsI) : Prop where
  cls : Cls G.K (G.ca c)
  ms : ∀ f k, q.ms.lookup f = some k → k < n ∧ ∃ x, G.nm[f]? = some x ∧ Meth G.K (G.ca c) x (G.fa k)
  ps : ∀ f k, q.ps.lookup f = some k → k < n ∧ ∃ x p, G.nm[f]? = some x ∧ PropOf G.K (G.ca c) x p (G.fa k)
  na : ∀ f x, G.nm[f]? = some x → q.ms.lookup f = none → q.ps.lookup f = none → NoAttr G.K (G.ca c) x
  ini : q.ini < n
  mkF : Mk G.K (G.ca c) (G.fa q.ini)
structure CsF (G : Gx) (C : Cal) (n : Nat) : Prop where
  nd : G.nm.Nodup
  cl : ∀ c q, C.cs[c]? = some q → ClsF G n c q
section
variable {G : Gx} {EX : XK} {C : Cal} {Γ : Gm} {m l n : Nat} {X : Cx}
/-- the reading is kept for a run that is known -/
theorem UU.of {α β : Type} {rel : Rho → Hp → α → β → Prop} {f : Sl → Hh → R α} {σ : St} {H : Hp} {r : Rho} {s : Sl} {h h1 : Hh} {a : α} {K : β → Hp → Prop} (S : Sim G r h H) (L : SlR G r H s σ) (e : f s h = .ok a h1)
    (k : ∀ r1 H1 b, Step G r H r1 H1 → Sim G r1 h1 H1 → rel r1 H1 a b → K b H1) : UU G EX rel f σ H K := ⟨r, s, h, S, L, by rw [e]; exact k⟩
theorem UU.ex {α β : Type} {rel : Rho → Hp → α → β → Prop} {f : Sl → Hh → R α} {σ : St} {H : Hp} {r : Rho} {s : Sl} {h h1 : Hh} {c : Nat} {fs : Fs} {γ δ : Type} {rel' : Rho → Hp → γ → δ → Prop} {Q : δ → Hp → Prop} {K : β → Hp → Prop} (S : Sim G r h H) (L : SlR G r H s σ) (e : f s h = .ex c fs h1)
    (p : Post G r H rel' Q EX (.ex c fs h1)) : UU G EX rel f σ H K := ⟨r, s, h, S, L, by rw [e]; exact p⟩
theorem Gd.binds (g : Gd G Γ m X) {fd : FuncData} {ps : List Str} {ds : List Value} (h : Binds G.K fd ps ds) : Binds X.K fd ps ds := by rw [g.K]; exact h
theorem RelW.inv' {r : Rho} {H : Hp} {k : Nat} {v : V} (q : RelW G r H (.ref k) v) : ∃ a, v = .ref a ∧ r[k]? = some a := q.inv
/-- o.m(..) of a known class -/
theorem meth_at {i : E} {o : Expr} {x : Str} {es : List Expr} {is : Es} {apos pos : Pos} {c k f : Nat} {q : ClsI} (g : Gd G Γ m X) (hc : COk G C l n) (cf : ClsF G n c q) (hk : q.ms.lookup f = some k) (hx : G.nm[f]? = some x) (hl : l ≤ m)
    (ho : SE G EX C Γ m o i) (hs : SEs' G EX C Γ m es is) (hb : plainB o = true) (h29 : es.length < 29) (hline : (apos.endLine == pos.line) = true) :
    ∃ (fd : FuncData) (ps : List Str), (∀ ws h, C.call k ws h ≠ .no → ws.length = ps.length) ∧ PE X (.Call (.Attribute o x apos) es [] pos)
      (tMeth (G.ca c) x (fun vs H Q EX => vs.length = ps.length ∧ ∃ r h ws, Sim G r h H ∧ RelWs G r H ws vs ∧ Post G r H (RelW G) Q EX (C.call k ws h)) [] EX (UU G EX (RelW G) (evE C i)) (UU G EX (RelWs G) (evEs C is))) := by
  obtain ⟨hkn, x', hx', me⟩ := cf.ms f k hk
  rw [hx] at hx'; cases hx'
  obtain ⟨fd, ps, F, kp, hb', hlen⟩ := (hc k hkn).ex
  refine ⟨fd, ps, hlen, ?_⟩
  have F' := g.fnOk (k := k) F
  have room : Room l X.A := g.room.mono hl
  have cls' : Cls X.K (G.ca c) := by rw [g.K]; exact cf.cls
  have me' : Meth X.K (G.ca c) x (G.fa k) := by rw [g.K]; exact me
  cases es with
  | nil =>
    have e0 := hs.nil rfl
    subst e0
    refine weakE (pe_meth0 (ho X g) cls' me' F' room (g.binds hb') (dvs := []) .nil (passes0 X EX) (meth_ht hb hs.pl h29 hline)) fun σ H Q u => ?_
    obtain ⟨r, s, h, S, L, p⟩ := u
    refine ⟨r, s, h, S, L, ?_⟩
    cases e : evE C i s h with
    | ok a h1 =>
      rw [e] at p
      intro r' H' b st S' q'
      obtain ⟨a', dx, fs, e1, e2, e3, r3, s3, h3, S3, L3, p3⟩ := p r' H' b st S' q'
      refine ⟨a', dx, fs, e1, e2, e3, ?_⟩
      simp only [evEs] at p3
      exact Post.ok (h := h3) p3 S3 .nil
    | ex c fs h1 => rw [e] at p; exact p
    | no => rw [e] at p; exact p
  | cons a es =>
    have ha := hs.pl
    simp only [plainAll, List.all_cons, Bool.and_eq_true] at ha
    exact pe_meth (ho X g) cls' me' F' room (g.binds hb') (dvs := []) .nil (passes0 X EX) (hs.run X g) (star_cons ha.1 _ _) (backTo_any ha.2 _ _) (meth_ht hb hs.pl h29 hline)
theorem se_meth {i : E} {o : Expr} {x : Str} {es : List Expr} {is : Es} {apos pos : Pos} {f : Nat} (hc : COk G C l n) (cs : CsF G C n) (hw : ∃ (c : Nat) (q : ClsI) (k : Nat), C.cs[c]? = some q ∧ q.ms.lookup f = some k) (hx : G.nm[f]? = some x) (hl : l ≤ m)
    (ho : SE G EX C Γ m o i) (hs : SEs' G EX C Γ m es is) (hb : plainB o = true) (h29 : es.length < 29) (hline : (apos.endLine == pos.line) = true) : SE G EX C Γ m (.Call (.Attribute o x apos) es [] pos) (.meth i f is []) := fun X g => by
  refine pickE fun σ H Q ⟨r, s, h, S, L, p⟩ => ?_
  simp only [evE] at p
  cases e : evE C i s h with
  | ok a h1 =>
    rw [e] at p
    simp only [R.bind] at p
    cases em : methOf C a f h1 with
    | none => rw [em] at p; exact False.elim p
    | some k =>
      rw [em] at p
      dsimp only at p
      unfold methOf at em
      split at em
      · split at em
        · rename_i nn c fs g1
          split at em
          · rename_i q eq el
            obtain ⟨fd, ps, hlen, pe⟩ := meth_at (apos := apos) (pos := pos) g hc (cs.cl c q eq) em hx hl ho hs hb h29 hline
            refine ⟨_, pe, UU.of S L e fun r1 H1 b st S1 q1 => ?_⟩
            obtain ⟨pa, rfl, e2⟩ := q1.inv
            obtain ⟨dx, fv, ea, rf⟩ := S1.ins e2 g1
            have lk : fv.lookup x = none := by
              rcases rf.lookup cs.nd hx with ⟨_, z⟩ | ⟨w, v, z, _⟩
              · exact z
              · rw [el] at z; cases z
            refine ⟨pa, dx, fv, rfl, ea, lk, ?_⟩
            refine Post.bindU S1 (L.step st) (Post.step (x := (evEs C is s h1).bind _) p st) fun r2 H2 h2 ws vs st2 S2 q2 p2 => ?_
            simp only [permW] at p2
            have e3 := hlen _ _ p2.ne
            refine ⟨?_, r2, h2, _, S2, .cons (RelW.step st2 (.ref e2)) ?_, p2⟩
            · rw [List.append_nil]; simpa [q2.length] using e3
            · rw [List.append_nil]; exact q2
          · cases em
        · cases em
      · cases em
  | ex c fs h1 =>
    rw [e] at p
    simp only [R.bind] at p
    obtain ⟨c0, q, k, e1, e2⟩ := hw
    obtain ⟨fd, ps, hlen, pe⟩ := meth_at (apos := apos) (pos := pos) g hc (cs.cl c0 q e1) e2 hx hl ho hs hb h29 hline
    exact ⟨_, pe, UU.ex S L e p⟩
  | no => rw [e] at p; exact False.elim p
/-! ### fields, properties -/
theorem se_fld {i : E} {o : Expr} {x : Str} {f : Nat} {p : Pos} (hc : COk G C l n) (cs : CsF G C n) (hx : G.nm[f]? = some x) (hl : l + 1 ≤ m) (ho : SE G EX C Γ m o i) (hb : plainB o = true) : SE G EX C Γ m (.Attribute o x p) (.fld i f) := fun X g => by
  refine pickE fun σ H Q ⟨r, s, h, S, L, p⟩ => ?_
  simp only [evE] at p
  cases e : evE C i s h with
  | ok a h1 =>
    rw [e] at p
    simp only [R.bind] at p
    replace p := p.nx (E' := EX)
    unfold fldW at p
    split at p
    · rename_i nn
      split at p
      · rename_i c fs g1
        split at p
        · rename_i q eq
          have cf := cs.cl c q eq
          have cls' : Cls X.K (G.ca c) := by rw [g.K]; exact cf.cls
          split at p
          · rename_i k ek
            obtain ⟨hkn, x', pr, hx', po⟩ := cf.ps f k ek
            rw [hx] at hx'; cases hx'
            obtain ⟨fd, ps, F, kp, hb', hlen⟩ := (hc k hkn).ex
            refine ⟨_, pe_prop (ho X g) cls' (g.K ▸ po) (g.fnOk (k := k) F) (g.room.mono hl) (g.binds hb') (dvs := []) .nil (passes0 X.nox EX) (plainB_is hb _ _ _), UU.of S L e fun r1 H1 b st S1 q1 => ?_⟩
            obtain ⟨pa, rfl, e2⟩ := q1.inv
            obtain ⟨dx, fv, ea, rf⟩ := S1.ins e2 g1
            have p1 := Post.step (x := C.call k [W.ref nn] h1) p st
            have e3 := hlen _ _ p1.ne
            exact ⟨pa, dx, fv, rfl, ea, e3, r1, h1, _, S1, .cons (.ref e2) .nil, p1⟩
          · rename_i ep
            split at p
            · exact False.elim p
            · rename_i emm
              refine ⟨_, pe_fld (ho X g) (plainB_is hb _ _ _), UU.of S L e fun r1 H1 b st S1 q1 => ?_⟩
              obtain ⟨pa, rfl, e2⟩ := q1.inv
              obtain ⟨dx, fv, ea, rf⟩ := S1.ins e2 g1
              rcases rf.lookup cs.nd hx with ⟨z, _⟩ | ⟨w, v, z1, z2, z3⟩
              · rw [z] at p; exact False.elim p
              · rw [z1] at p
                refine ⟨pa, _, dx, fv, v, rfl, ea, cls', ?_, z2, Post.ok (h := h1) (Post.step (x := .ok w h1) p st) S1 z3⟩
                rw [g.K]; exact cf.na f x hx emm ep
        · exact False.elim p
      · exact False.elim p
    · exact False.elim p
  | ex c fs h1 =>
    rw [e] at p
    simp only [R.bind] at p
    exact ⟨_, pe_fld (ho X g) (plainB_is hb _ _ _), UU.ex S L e p⟩
  | no => rw [e] at p; exact False.elim p
end
end Mi

set_option Elab.async false
set_option linter.all false
set_option maxRecDepth 100000
set_option maxHeartbeats 4000000
/-! New instances, built-ins, methods of lists and dicts, isinstance. -/
namespace Mi
open PySem PySem.Spec PyProof.Rows L2
section
variable {G : Gx} {EX : XK} {C : Cal} {Γ : Gm} {m l n : Nat} {X : Cx}
theorem se_make {c : Nat} {q : ClsI} {x : Str} {es : List Expr} {is : Es} {p pos : Pos} (hc : COk G C l n) (cs : CsF G C n) (hq : C.cs[c]? = some q) (hl : l + 1 ≤ m) (hs : SEs' G EX C Γ m es is)
    (hg : Γ.sc.names.lookup x = some .globalImplicit) (hn : nmOk x = true) (hm : G.mg x = some (.ref (G.ca c))) : SE G EX C Γ m (.Call (.Name x p) es [] pos) (.make c is []) := fun X g => by
  have cf := cs.cl c q hq
  obtain ⟨fd, ps, F, kp, hb, hlen⟩ := (hc q.ini cf.ini).ex
  have F' := g.fnOk (k := q.ini) F
  have mk' : Mk X.K (G.ca c) (G.fa q.ini) := by rw [g.K]; exact cf.mkF
  have mg' : X.mg x = some (.ref (G.ca c)) := by rw [g.mg]; exact hm
  have fin : ∀ {Q : VK} {r1 : Rho} {H1 : Hp} {h1 : Hh} {ws : List W} {vs : List V}, Sim G r1 h1 H1 → RelWs G r1 H1 ws vs → Post G r1 H1 (RelW G) Q EX (makeW C c ws h1) → ∀ x dx, H1 x = none → H1 dx = none → dx ≠ x →
      ((V.ref x :: (vs ++ [])).length = ps.length ∧ ∃ r h ws, Sim G r h (upd (upd H1 dx (.own x)) x (.ins (G.ca c) dx [])) ∧ RelWs G r (upd (upd H1 dx (.own x)) x (.ins (G.ca c) dx [])) ws (V.ref x :: (vs ++ [])) ∧
        Post G r (upd (upd H1 dx (.own x)) x (.ins (G.ca c) dx [])) (RelW G) (fun v H2 => v = .non ∧ Q (.ref x) H2) EX (C.call q.ini ws h)) := by
    intro Q r1 H1 h1 ws vs S1 q1 p1 x dx hx hdx ne
    unfold makeW at p1
    rw [hq] at p1
    dsimp only at p1
    have S0 := S1.fresh (ho := .own x) hdx
    have st0 : Step G r1 H1 r1 (upd H1 dx (.own x)) := Step.fresh hdx
    have hx' : upd H1 dx (.own x) x = none := by rw [upd_ne (Ne.symm ne)]; exact hx
    obtain ⟨S2, st2⟩ := S0.push (o := .ins c []) (ho := .ins (G.ca c) dx []) hx' ⟨dx, [], upd_same, .nil⟩
    have p2 := Post.step p1 (st0.trans st2)
    have hne : C.call q.ini (.ref h1.n :: ws) (h1.push (.ins c [])) ≠ .no := fun e => by rw [e] at p2; exact p2
    have e3 := hlen _ _ hne
    refine ⟨?_, _, _, _, S2, .cons (.ref (S0.last x)) (by rw [List.append_nil]; exact q1.step (st0.trans st2)), ?_⟩
    · rw [List.append_nil]; simpa [q1.length] using e3
    · refine Post.of_bind p2 fun r3 H3 h3 a b st3 S3 q3 p3 => ?_
      cases a <;> (try exact False.elim p3)
      cases q3
      exact ⟨rfl, Post.ok p3 S3 (.ref (st3.get (S0.last x)))⟩
  cases es with
  | nil =>
    have e0 := hs.nil rfl
    subst e0
    refine weakE (pe_make0 mk' F' (g.room.mono hl) (g.gl hg) mg' (g.binds hb) (dvs := []) .nil (passes0 X EX) (nmOk.d hn).1) fun σ H Q ⟨r, s, h, S, L, p⟩ => ?_
    simp only [evE, evEs, R.bind, permW] at p
    exact fin S .nil p
  | cons a es =>
    have ha := hs.pl
    simp only [plainAll, List.all_cons, Bool.and_eq_true] at ha
    refine weakE (pe_make mk' F' (g.room.mono hl) (g.gl hg) mg' (g.binds hb) (dvs := []) .nil (passes0 X EX) (hs.run X g) (nmOk.d hn).1 (star_cons ha.1 _ _) (backTo_any ha.2 _ _)) fun σ H Q ⟨r, s, h, S, L, p⟩ => ?_
    simp only [evE] at p
    refine Post.bindU S L p fun r1 H1 h1 ws vs st0 S1 q1 p1 => ?_
    simp only [permW] at p1
    exact fin S1 q1 p1
/-! ### built-ins -/
def bcN : Bc → Str
  | .len1 => "len" | .abs1 => "abs" | .int1 => "int" | .list1 => "list" | .tuple1 => "tuple" | .sorted1 => "sorted" | .dict1 => "dict" | .repr1 => "repr"
  | .any1 => "any" | .all1 => "all" | .sum1 => "sum" | .min1 => "min" | .max1 => "max" | .max2 => "max" | .min2 => "min" | .divmod2 => "divmod"
theorem bc_boot (b : Bc) : bootBuiltins (bcN b) = some (bcA b) := by cases b <;> decide +kernel
theorem bc_nm (b : Bc) : nmOk (bcN b) = true := by cases b <;> decide +kernel
theorem callBT {X : Cx} {p pos : Pos} {e : Expr} {es : List Expr} {t : TA} {r : List V → Hp → VK → Prop} (b : Bc) (hc : CallR X (bcA b) r) (hg : Gl X (bcN b)) (hm : X.mg (bcN b) = none) (ha : PA X (e :: es) t)
    (he : starEach (e :: es) X.env = (false, eval e X.env) :: starEach es X.env) (hpl : (backTo pos (starEach es X.env)).any (·.1) = false) : PE X (.Call (.Name (bcN b) p) (e :: es) [] pos) (tCB r t) := by
  have n := nmOk.d (bc_nm b)
  have v := bc_boot b
  cases b <;> first | exact pe_callB hc hg hm v ha n.2.2 n.1 he hpl | exact pe_callTy hc hg hm v ha n.2.2 n.1 he hpl
theorem se_bc {b : Bc} {a : Expr} {es : List Expr} {is : Es} {p pos : Pos} (hs : SEs' G EX C Γ m (a :: es) is) (hg : Γ.sc.names.lookup (bcN b) = some .globalImplicit) (hm : G.mg (bcN b) = none) :
    SE G EX C Γ m (.Call (.Name (bcN b) p) (a :: es) [] pos) (.bc b is) := fun X g => by
  have ha := hs.pl
  simp only [plainAll, List.all_cons, Bool.and_eq_true] at ha
  refine weakE (callBT b (or_bc (X := X) g.K g.calm b) (g.gl hg) (by rw [g.mg]; exact hm) (hs.run X g) (star_cons ha.1 _ _) (backTo_any ha.2 _ _)) fun σ H Q ⟨r, s, h, S, L, p⟩ => ?_
  simp only [evE] at p
  refine Post.bindU S L p fun r1 H1 h1 ws vs st0 S1 q1 p1 => ?_
  exact ⟨r1, h1, ws, S1, q1, p1.nx⟩
/-! ### methods of lists and dicts -/
def bmN : Bm → Str
  | .append1 => "append" | .insert2 => "insert" | .pop0 => "pop" | .pop1 => "pop" | .remove1 => "remove"
theorem few_ok {es : List Expr} {env : Env} {pos : Pos} (hp : plainAll es = true) (hl : es.length < 29) : ((backTo pos (starEach es env)).all (fun x => !x.1) && (backToKw pos (keywordEach [] env)).all (fun x => x.1.isSome)
      && decide (es.length + ([] : List Keyword).length + (if ([] : List Keyword).isEmpty then 0 else 1) < 30)) = true := by
  rw [backTo_all hp, kwNone]
  simp; omega
theorem kindW_t {h : Hh} {w : W} (e : kindW h w = some true) : isL h w = true := by
  unfold kindW at e
  split at e
  · assumption
  · split at e <;> cases e
theorem kindW_f {h : Hh} {w : W} (e : kindW h w = some false) : isD h w = true := by
  unfold kindW at e
  split at e
  · cases e
  · split at e
    · assumption
    · cases e
theorem isL_ty {r : Rho} {h : Hh} {H : Hp} {w : W} {v : V} (S : Sim G r h H) (e : isL h w = true) (q : RelW G r H w v) : tyV G.K "list" v H := by
  obtain ⟨n, ws, rfl, g⟩ := isL_inv e
  obtain ⟨a, rfl, e2⟩ := q.inv
  obtain ⟨vs, a1, b1⟩ := S.lst e2 g
  exact .inl ⟨rfl, vs, SqL.of a1⟩
theorem isD_ty {r : Rho} {h : Hh} {H : Hp} {w : W} {v : V} (S : Sim G r h H) (e : isD h w = true) (q : RelW G r H w v) : tyV G.K "dict" v H := by
  obtain ⟨n, ws, rfl, g⟩ := isD_inv e
  obtain ⟨a, rfl, e2⟩ := q.inv
  obtain ⟨vs, a1, b1⟩ := S.dic e2 g
  exact .inr (.inr (.inl ⟨rfl, .inl ⟨vs, a1⟩⟩))
/-- on a list -/
theorem bm_list {i : E} {is : Es} {b : Bm} {o : Expr} {a : Expr} {es : List Expr} {name : Str} {id : String} {apos pos : Pos} (slot : Slot "list" name id) (hty : typeOf (.builtin id) = pure (.type "method_descriptor")) (g : Gd G Γ m X) (hm : MtR X id (uMl G b))
    (ho : SE G EX C Γ m o i) (hs : SEs' G EX C Γ m (a :: es) is) (hb : plainB o = true) (h29 : (a :: es).length < 29) (hline : (apos.endLine == pos.line) = true) :
    PE X (.Call (.Attribute o name apos) (a :: es) [] pos) (tBM X.K "list" (uMl G b) (UU G EX (RelW G) (evE C i)) (UU G EX (RelWs G) (evEs C is))) := by
  have ha := hs.pl
  simp only [plainAll, List.all_cons, Bool.and_eq_true] at ha
  exact pe_bm PySem.F.plainAttrs_list slot hty hm (ho X g) (hs.run X g) (plainB_is hb _ _ _) (few_ok hs.pl h29) hline (star_cons ha.1 _ _) (backTo_any ha.2 _ _)
theorem se_bmL {i : E} {is : Es} {b : Bm} {o : Expr} {a : Expr} {es : List Expr} {name : Str} {id : String} {apos pos : Pos} (slot : Slot "list" name id) (hty : typeOf (.builtin id) = pure (.type "method_descriptor")) (hm : ∀ X, Gd G Γ m X → MtR X id (uMl G b)) (h1 : b ≠ .pop1)
    (ho : SE G EX C Γ m o i) (hs : SEs' G EX C Γ m (a :: es) is) (hb : plainB o = true) (h29 : (a :: es).length < 29) (hline : (apos.endLine == pos.line) = true) : SE G EX C Γ m (.Call (.Attribute o name apos) (a :: es) [] pos) (.bm b i is) := fun X g =>
  weakE (bm_list slot hty g (hm X g) ho hs hb h29 hline) fun σ H Q ⟨r, s, h, S, L, p⟩ => by
    simp only [evE] at p
    refine Post.bindU S L p fun r1 H1 h1' x y st0 S1 q1 p1 => ?_
    cases ek : kindW h1' x with
    | none => rw [ek] at p1; exact False.elim p1
    | some k =>
      rw [ek] at p1
      dsimp only at p1
      cases k with
      | false =>
        rw [if_neg (by simp [h1])] at p1
        exact False.elim p1
      | true =>
        rw [if_pos (by simp)] at p1
        refine ⟨by rw [g.K]; exact isL_ty S1 (kindW_t ek) q1, ?_⟩
        refine Post.bindU S1 (L.step st0) p1 fun r2 H2 h2 ws vs st2 S2 q2 p2 => ?_
        split at p2
        · rename_i e2
          exact ⟨r2, h2, x, ws, S2, kindW_t e2, q1.step st2, q2, p2.nx⟩
        · exact False.elim p2
theorem se_append {i : E} {is : Es} {o : Expr} {a : Expr} {es : List Expr} {apos pos : Pos} (ho : SE G EX C Γ m o i) (hs : SEs' G EX C Γ m (a :: es) is) (hb : plainB o = true) (h29 : (a :: es).length < 29) (hline : (apos.endLine == pos.line) = true) :
    SE G EX C Γ m (.Call (.Attribute o "append" apos) (a :: es) [] pos) (.bm .append1 i is) := se_bmL PySem.F.slot_list_append PySem.F.type_list_append (fun X _ => or_append) (by decide) ho hs hb h29 hline
theorem se_insert {i : E} {is : Es} {o : Expr} {a : Expr} {es : List Expr} {apos pos : Pos} (ho : SE G EX C Γ m o i) (hs : SEs' G EX C Γ m (a :: es) is) (hb : plainB o = true) (h29 : (a :: es).length < 29) (hline : (apos.endLine == pos.line) = true) :
    SE G EX C Γ m (.Call (.Attribute o "insert" apos) (a :: es) [] pos) (.bm .insert2 i is) := se_bmL PySem.F.slot_list_insert PySem.F.type_list_insert (fun X _ => or_insert) (by decide) ho hs hb h29 hline
theorem se_remove {i : E} {is : Es} {o : Expr} {a : Expr} {es : List Expr} {apos pos : Pos} (ho : SE G EX C Γ m o i) (hs : SEs' G EX C Γ m (a :: es) is) (hb : plainB o = true) (h29 : (a :: es).length < 29) (hline : (apos.endLine == pos.line) = true) :
    SE G EX C Γ m (.Call (.Attribute o "remove" apos) (a :: es) [] pos) (.bm .remove1 i is) := se_bmL PySem.F.slot_list_remove PySem.F.type_list_remove (fun X g => or_remove g.K (by have := g.room.un; omega)) (by decide) ho hs hb h29 hline
theorem se_pop0 {i : E} {o : Expr} {apos pos : Pos} (ho : SE G EX C Γ m o i) (hb : plainB o = true) (hline : (apos.endLine == pos.line) = true) :
    SE G EX C Γ m (.Call (.Attribute o "pop" apos) [] [] pos) (.bm .pop0 i .nil) := fun X g =>
  weakE (pe_bm0 PySem.F.plainAttrs_list PySem.F.slot_list_pop PySem.F.type_list_pop (or_pop0 (X := X)) (ho X g) (plainB_is hb _ _ _) hline) fun σ H Q ⟨r, s, h, S, L, p⟩ => by
    simp only [evE] at p
    refine Post.bindU S L p fun r1 H1 h1' x y st0 S1 q1 p1 => ?_
    cases ek : kindW h1' x with
    | none => rw [ek] at p1; exact False.elim p1
    | some k =>
      rw [ek] at p1
      dsimp only at p1
      cases k with
      | false => exact False.elim p1
      | true =>
        rw [if_pos (by simp)] at p1
        refine ⟨by rw [g.K]; exact isL_ty S1 (kindW_t ek) q1, ?_⟩
        simp only [evEs, R.bind] at p1
        rw [if_pos ek] at p1
        exact ⟨r1, h1', x, [], S1, kindW_t ek, q1, .nil, p1.nx⟩
theorem se_pop1 {i : E} {is : Es} {o : Expr} {a : Expr} {es : List Expr} {apos pos : Pos} (ho : SE G EX C Γ m o i) (hs : SEs' G EX C Γ m (a :: es) is) (hb : plainB o = true) (h29 : (a :: es).length < 29) (hline : (apos.endLine == pos.line) = true) :
    SE G EX C Γ m (.Call (.Attribute o "pop" apos) (a :: es) [] pos) (.bm .pop1 i is) := fun X g => by
  refine pickE fun σ H Q ⟨r, s, h, S, L, p⟩ => ?_
  have ha := hs.pl
  simp only [plainAll, List.all_cons, Bool.and_eq_true] at ha
  have R1 := bm_list (b := .pop1) PySem.F.slot_list_pop PySem.F.type_list_pop g (or_pop1 (X := X)) ho hs hb h29 hline
  have R2 : PE X (.Call (.Attribute o "pop" apos) (a :: es) [] pos) (tBM X.K "dict" (uMd G .pop1) (UU G EX (RelW G) (evE C i)) (UU G EX (RelWs G) (evEs C is))) :=
    pe_bm PySem.F.plainAttrs_dict PySem.F.slot_dict_pop PySem.F.type_dict_pop (or_dpop (X := X)) (ho X g) (hs.run X g) (plainB_is hb _ _ _) (few_ok hs.pl h29) hline (star_cons ha.1 _ _) (backTo_any ha.2 _ _)
  simp only [evE] at p
  cases e : evE C i s h with
  | no => rw [e] at p; exact False.elim p
  | ex c fs h1 => rw [e] at p; exact ⟨_, R1, UU.ex S L e p⟩
  | ok x h1 =>
    rw [e] at p
    simp only [R.bind] at p
    cases ek : kindW h1 x with
    | none => rw [ek] at p; exact False.elim p
    | some k =>
      rw [ek] at p
      dsimp only at p
      rw [if_pos (by simp)] at p
      cases k with
      | true =>
        refine ⟨_, R1, UU.of S L e fun r1 H1 y st0 S1 q1 => ⟨by rw [g.K]; exact isL_ty S1 (kindW_t ek) q1, ?_⟩⟩
        refine Post.bindU S1 (L.step st0) (Post.step (x := (evEs C is s h1).bind _) p st0) fun r2 H2 h2 ws vs st2 S2 q2 p2 => ?_
        split at p2
        · rename_i e2
          exact ⟨r2, h2, x, ws, S2, kindW_t e2, q1.step st2, q2, p2.nx⟩
        · exact False.elim p2
      | false =>
        refine ⟨_, R2, UU.of S L e fun r1 H1 y st0 S1 q1 => ⟨by rw [g.K]; exact isD_ty S1 (kindW_f ek) q1, ?_⟩⟩
        refine Post.bindU S1 (L.step st0) (Post.step (x := (evEs C is s h1).bind _) p st0) fun r2 H2 h2 ws vs st2 S2 q2 p2 => ?_
        split at p2
        · rename_i e2
          exact ⟨r2, h2, x, ws, S2, kindW_f e2, q1.step st2, q2, p2.nx⟩
        · exact False.elim p2
/-! ### list(range(..)), tuple(range(..)) -/
theorem rngL_fin {tp : Bool} {r : Rho} {h : Hh} {H : Hp} {Q : VK} {a b : Int} (S : Sim G r h H)
    (p : Post G r H (RelW G) Q EX (if -(2 ^ 62) ≤ a ∧ a < 2 ^ 62 ∧ -(2 ^ 62) ≤ b ∧ b < 2 ^ 62 ∧ (b - a).toNat ≤ 2 ^ 24 then
      (if tp then .ok (.tup ((List.range (b - a).toNat).map fun i => W.int (a + (i : Nat)))) h else .ok (.ref h.n) (h.push (.lst ((List.range (b - a).toNat).map fun i => W.int (a + (i : Nat)))))) else .no : R W)) :
    RgOk a b ∧ ∀ q, H q = none → Q (.ref q) (upd H q (if tp then .tup (rgV a b) else .lst (rgV a b))) := by
  have rel : RelWs G r H ((List.range (b - a).toNat).map fun i => W.int (a + (i : Nat))) (rgV a b) := by
    unfold rgV
    generalize List.range (b - a).toNat = l
    induction l with
    | nil => exact .nil
    | cons i l ih => exact .cons (.int _) ih
  split at p
  · rename_i hc
    refine ⟨hc, fun q hq => ?_⟩
    cases tp with
    | true => exact Post.newT S rel p q hq
    | false => exact Post.newL S rel p q hq
  · exact False.elim p
end
end Mi

set_option Elab.async false
set_option linter.all false
set_option maxRecDepth 100000
set_option maxHeartbeats 4000000
/-! Ranges as lists, isinstance. -/
namespace Mi
open PySem PySem.Spec PyProof.Rows L2
/-- a global name -/
abbrev GL (Γ : Gm) (x : Str) : Prop := Γ.sc.names.lookup x = some .globalImplicit
section
variable {G : Gx} {EX : XK} {C : Cal} {Γ : Gm} {m l n : Nat} {X : Cx}
theorem boot_range' : bootBuiltins "range" = some (.type "range") := by decide +kernel
/-- a range's bounds -/
theorem rng1 {a : Expr} {i : E} {p pos : Pos} {tp : Bool} (ha : SE G EX C Γ m a i) (hn : notStar a = true) (g : Gd G Γ m X) (hg : GL Γ "range") (hm : G.mg "range" = none) :
    PRg X (.Call (.Name "range" p) [a] [] pos) (tRg1 (UU G EX (RelW G) (evE C i))) := prg_1 (g.gl hg) (by rw [g.mg]; exact hm) (ha X g) (star_cons hn _ _)
theorem rng2 {a b : Expr} {i j : E} {p pos : Pos} {tp : Bool} (ha : SE G EX C Γ m a i) (hb : SE G EX C Γ m b j) (hn : notStar a = true) (hn2 : notStar b = true) (g : Gd G Γ m X) (hg : GL Γ "range") (hm : G.mg "range" = none) :
    PRg X (.Call (.Name "range" p) [a, b] [] pos) (tRg2 (UU G EX (RelW G) (evE C i)) (UU G EX (RelW G) (evE C j))) := prg_2 (g.gl hg) (by rw [g.mg]; exact hm) (ha X g) (hb X g) (star_cons hn _ _) (star_cons hn2 _ _)
      (backTo_any (es := [b]) (by simp [plainAll, hn2]) _ _)
theorem rngL1 {tp : Bool} {i : E} {σ : St} {H : Hp} {Q : VK} {r : Rho} {s : Sl} {h : Hh} (S : Sim G r h H) (L : SlR G r H s σ) (p : Post G r H (RelW G) Q EX (evE C (.rngL tp (.cons i .nil)) s h)) :
    tRg1 (UU G EX (RelW G) (evE C i)) σ H fun a b H1 => RgOk a b ∧ ∀ q, H1 q = none → Q (.ref q) (upd H1 q (if tp then .tup (rgV a b) else .lst (rgV a b))) := by
  simp only [evE, evEs] at p
  have p0 : Post G r H (RelW G) Q EX ((evE C i s h).bind fun x h1 => (rngW tp [x] h1).nx) := by
    cases e : evE C i s h with
    | ok x h1 => rw [e] at p; exact p
    | ex c fs h1 => rw [e] at p; exact p
    | no => rw [e] at p; exact p
  refine Post.bindU S L p0 fun r1 H1 h1 x y st0 S1 q1 p1 => ?_
  have p2 := p1.nx (E' := EX)
  cases x <;> (try exact False.elim p2)
  cases q1
  exact ⟨_, rfl, rngL_fin S1 p2⟩
theorem rngL2 {tp : Bool} {i j : E} {σ : St} {H : Hp} {Q : VK} {r : Rho} {s : Sl} {h : Hh} (S : Sim G r h H) (L : SlR G r H s σ) (p : Post G r H (RelW G) Q EX (evE C (.rngL tp (.cons i (.cons j .nil))) s h)) :
    tRg2 (UU G EX (RelW G) (evE C i)) (UU G EX (RelW G) (evE C j)) σ H fun a b H1 => RgOk a b ∧ ∀ q, H1 q = none → Q (.ref q) (upd H1 q (if tp then .tup (rgV a b) else .lst (rgV a b))) := by
  simp only [evE, evEs] at p
  have p0 : Post G r H (RelW G) Q EX ((evE C i s h).bind fun x h1 => (evE C j s h1).bind fun y h2 => (rngW tp [x, y] h2).nx) := by
    cases e : evE C i s h with
    | ok x h1 =>
      rw [e] at p
      simp only [R.bind] at p ⊢
      cases e2 : evE C j s h1 with
      | ok y h2 => rw [e2] at p; exact p
      | ex c fs h2 => rw [e2] at p; exact p
      | no => rw [e2] at p; exact p
    | ex c fs h1 => rw [e] at p; exact p
    | no => rw [e] at p; exact p
  refine Post.bindU S L p0 fun r1 H1 h1 x y st0 S1 q1 p1 => ?_
  refine Post.bindU S1 (L.step st0) p1 fun r2 H2 h2 x2 y2 st2 S2 q2 p2 => ?_
  replace p2 := p2.nx (E' := EX)
  cases x <;> cases x2 <;> (try exact False.elim p2)
  cases q1; cases q2
  exact ⟨_, _, rfl, rfl, rngL_fin S2 p2⟩
theorem se_listR1 {a : Expr} {i : E} {p p2 pos pos2 : Pos} (ha : SE G EX C Γ m a i) (hn : notStar a = true) (hg : GL Γ "range") (hm : G.mg "range" = none) (hg2 : GL Γ "list") (hm2 : G.mg "list" = none) :
    SE G EX C Γ m (.Call (.Name "list" p) [.Call (.Name "range" p2) [a] [] pos2] [] pos) (.rngL false (.cons i .nil)) := fun X g =>
  weakE (pe_listRg g.calm (g.gl hg2) (by rw [g.mg]; exact hm2) (rng1 (tp := false) ha hn g hg hm)) fun σ H Q ⟨r, s, h, S, L, p⟩ => rngL1 (tp := false) S L p
theorem se_tupR1 {a : Expr} {i : E} {p p2 pos pos2 : Pos} (ha : SE G EX C Γ m a i) (hn : notStar a = true) (hg : GL Γ "range") (hm : G.mg "range" = none) (hg2 : GL Γ "tuple") (hm2 : G.mg "tuple" = none) :
    SE G EX C Γ m (.Call (.Name "tuple" p) [.Call (.Name "range" p2) [a] [] pos2] [] pos) (.rngL true (.cons i .nil)) := fun X g =>
  weakE (pe_tupRg g.calm (g.gl hg2) (by rw [g.mg]; exact hm2) (rng1 (tp := true) ha hn g hg hm)) fun σ H Q ⟨r, s, h, S, L, p⟩ => rngL1 (tp := true) S L p
theorem se_listR2 {a b : Expr} {i j : E} {p p2 pos pos2 : Pos} (ha : SE G EX C Γ m a i) (hb : SE G EX C Γ m b j) (hn : notStar a = true) (hn2 : notStar b = true) (hg : GL Γ "range") (hm : G.mg "range" = none) (hg2 : GL Γ "list") (hm2 : G.mg "list" = none) :
    SE G EX C Γ m (.Call (.Name "list" p) [.Call (.Name "range" p2) [a, b] [] pos2] [] pos) (.rngL false (.cons i (.cons j .nil))) := fun X g =>
  weakE (pe_listRg g.calm (g.gl hg2) (by rw [g.mg]; exact hm2) (rng2 (tp := false) ha hb hn hn2 g hg hm)) fun σ H Q ⟨r, s, h, S, L, p⟩ => rngL2 (tp := false) S L p
theorem se_tupR2 {a b : Expr} {i j : E} {p p2 pos pos2 : Pos} (ha : SE G EX C Γ m a i) (hb : SE G EX C Γ m b j) (hn : notStar a = true) (hn2 : notStar b = true) (hg : GL Γ "range") (hm : G.mg "range" = none) (hg2 : GL Γ "tuple") (hm2 : G.mg "tuple" = none) :
    SE G EX C Γ m (.Call (.Name "tuple" p) [.Call (.Name "range" p2) [a, b] [] pos2] [] pos) (.rngL true (.cons i (.cons j .nil))) := fun X g =>
  weakE (pe_tupRg g.calm (g.gl hg2) (by rw [g.mg]; exact hm2) (rng2 (tp := true) ha hb hn hn2 g hg hm)) fun σ H Q ⟨r, s, h, S, L, p⟩ => rngL2 (tp := true) S L p

/-! ### isinstance -/
def btS : Bt → String
  | .int => "int" | .bool => "bool" | .str => "str" | .list => "list" | .tuple => "tuple" | .dict => "dict"
def btN : Bt → Str
  | .int => "int" | .bool => "bool" | .str => "str" | .list => "list" | .tuple => "tuple" | .dict => "dict"
theorem bt_boot (b : Bt) : bootBuiltins (btN b) = some (.type (btS b)) := by cases b <;> decide +kernel
theorem bt_nm (b : Bt) : nmOk (btN b) = true := by cases b <;> decide +kernel
def tyVv (G : Gx) : Ty → V
  | .own k => .ref (G.ca k)
  | .bi b => .ty (btS b)
def tyVl (G : Gx) : Ty → Value
  | .own k => .ref (G.ca k)
  | .bi b => .type (btS b)
theorem ty_cls (t : Ty) : ClsV (tyVv G t) (tyVl G t) := by cases t <;> constructor
/-- what isinstance asks of the own classes -/
structure IsiF (G : Gx) (c : Nat) : Prop where
  cls : Cls G.K (G.ca c)
  ha : PySem.W.findIn G.K (.ref (G.ca c)) "__class__" = some (some (.builtin "object.__class__"))
  hn : PySem.W.specialIn G.K (.builtin "object.__class__") "__get__" = some (some (.builtin "getset_descriptor.__get__"))
  htk : PySem.W.takesIn G.K (.builtin "object.__class__") = some true
  hm : PySem.W.mroIn G.K (G.ca c) (.type "object") = some true
  self : PySem.W.kitOne G.K (.ref (G.ca c)) (.ref (G.ca c)) = some true
  bi : (["NoneType", "bool", "int", "str", "list", "tuple", "dict"].all fun x => PySem.W.kitOne G.K (.type x) (.ref (G.ca c)) == some false) = true
def tyStr : W → Hh → Option (Sum Nat String)
  | .non, _ => some (.inr "NoneType")
  | .bl _, _ => some (.inr "bool")
  | .int _, _ => some (.inr "int")
  | .str _, _ => some (.inr "str")
  | .tup _, _ => some (.inr "tuple")
  | .ref n, h => match h.get n with
    | some (.lst _) => some (.inr "list")
    | some (.frz _) => some (.inr "list")
    | some (.dic _) => some (.inr "dict")
    | some (.ins c _) => some (.inl c)
    | none => none
  | _, _ => none
def tyOfS (G : Gx) : Sum Nat String → Value
  | .inl c => .ref (G.ca c)
  | .inr x => .type x
theorem tyX_of {r : Rho} {h : Hh} {H : Hp} {w : W} {v : V} {t : Sum Nat String} (S : Sim G r h H) (q : RelW G r H w v) (e : tyStr w h = some t) (fc : ∀ c, t = .inl c → IsiF G c) : TyX G.K H v (tyOfS G t) := by
  cases q with
  | non => simp [tyStr] at e; subst e; exact .base .non
  | bl b => simp [tyStr] at e; subst e; exact .base (.bl b)
  | int b => simp [tyStr] at e; subst e; exact .base (.int b)
  | str b => simp [tyStr] at e; subst e; exact .base (.str b)
  | tup t ws =>
    simp [tyStr] at e; subst e
    rcases t with (t | ⟨o, t⟩) | ⟨o, its, k, t, tc, _⟩
    · exact .base (.tup t)
    · exact .fTuple t
    · exact .kTuple t tc
  | ref q =>
    simp only [tyStr] at e
    split at e
    · rename_i g; simp at e; subst e
      obtain ⟨vs, a, b⟩ := S.lst q g
      exact .base (.lst a)
    · rename_i g; simp at e; subst e
      obtain ⟨vs, a, b⟩ : OkO G r H _ (.frz _) := S.at q g
      rcases a with ⟨o, a⟩ | ⟨o, its, k, t, tc, _⟩
      · exact .base (.frz a)
      · exact .kList t tc
    · rename_i g; simp at e; subst e
      obtain ⟨vs, a, b⟩ := S.dic q g
      exact .base (.dK a)
    · rename_i c fs g; simp at e; subst e
      obtain ⟨dx, fv, a, b⟩ := S.ins q g
      have F := fc c rfl
      exact .base (.ins a F.cls F.ha F.hn F.htk F.hm)
    · cases e
  | fn k => simp [tyStr] at e
  | cl k => simp [tyStr] at e
theorem kitB_of (x : String) (b : Bt) (hx : x ∈ ["NoneType", "bool", "int", "str", "list", "tuple", "dict"]) : kitB x (btS b) = some (x == btS b || (x == "bool" && btS b == "int")) := by
  simp only [List.mem_cons, List.mem_nil_iff, or_false] at hx
  rcases hx with rfl | rfl | rfl | rfl | rfl | rfl | rfl <;> cases b <;> decide +kernel
theorem tyName_str (w : W) (h : Hh) : tyName h w = (tyStr w h).map fun t => match t with
    | .inl c => .inl c
    | .inr x => .inr (if x = "NoneType" then [] else if x = "bool" then [.bool, .int] else if x = "int" then [.int] else if x = "str" then [.str] else if x = "tuple" then [.tuple] else if x = "list" then [.list] else [.dict]) := by
  cases w with
  | ref n =>
    simp only [tyName, tyStr]
    cases h.get n with
    | none => rfl
    | some o => cases o <;> rfl
  | _ => rfl
theorem isOne_kit {w : W} {h : Hh} {t : Ty} {b : Bool} {x : Sum Nat String} (ex : tyStr w h = some x) (e : isOne h w t = some b) (fc : ∀ c, t = .own c → IsiF G c) : PySem.W.kitOne G.K (tyOfS G x) (tyVl G t) = some b := by
  unfold isOne at e
  rw [tyName_str, ex] at e
  cases x with
  | inl c =>
    cases t with
    | own d =>
      simp only [Option.map] at e
      split at e
      · rename_i ed; subst ed; cases e
        exact (fc c rfl).self
      · cases e
    | bi k => simp [Option.map] at e
  | inr y =>
    have hy : y ∈ ["NoneType", "bool", "int", "str", "list", "tuple", "dict"] := by
      cases w <;> simp only [tyStr] at ex <;> (try (cases ex; simp; done))
      split at ex <;> (try (cases ex; simp; done))
      all_goals cases ex
    cases t with
    | own d =>
      simp only [Option.map, Option.some.injEq] at e; subst e
      have F := (fc d rfl).bi
      rw [List.all_eq_true] at F
      exact beq_iff_eq.mp (F y hy)
    | bi k =>
      simp only [Option.map, Option.some.injEq] at e; subst e
      refine kit_ty ((kitB_of y k hy).trans ?_)
      simp only [List.mem_cons, List.mem_nil_iff, or_false] at hy
      rcases hy with rfl | rfl | rfl | rfl | rfl | rfl | rfl <;> cases k <;> decide
theorem isOne_ty {w : W} {h : Hh} {t : Ty} {b : Bool} (e : isOne h w t = some b) : ∃ x, tyStr w h = some x := by
  unfold isOne at e
  rw [tyName_str] at e
  cases ex : tyStr w h with
  | none => rw [ex] at e; cases t <;> simp at e
  | some x => exact ⟨x, rfl⟩
theorem isi_any {w : W} {h : Hh} {x : Sum Nat String} (ex : tyStr w h = some x) : ∀ {ts : List Ty} {b : Bool}, isiW h w ts = some b → (∀ c, Ty.own c ∈ ts → IsiF G c) → PySem.W.kitAny G.K (tyOfS G x) (ts.map (tyVl G)) = some b
  | [], b, e, _ => by simp [isiW] at e; subst e; exact kitAny_nil
  | t :: ts, b, e, fc => by
    simp only [isiW] at e
    split at e
    · rename_i e1; cases e
      exact kitAny_cons (isOne_kit ex e1 fun c ec => fc c (by simp [ec])) (fun z => by cases z) (fun _ => rfl)
    · rename_i e1
      exact kitAny_cons (isOne_kit ex e1 fun c ec => fc c (by simp [ec])) (fun _ => isi_any ex e fun c hc => fc c (List.mem_cons_of_mem _ hc)) (fun z => by cases z)
    · cases e
theorem isi_own {w : W} {h : Hh} {c : Nat} (ex : tyStr w h = some (.inl c)) {ts : List Ty} {b : Bool} (e : isiW h w ts = some b) (hne : ts ≠ []) : Ty.own c ∈ ts := by
  cases ts with
  | nil => exact absurd rfl hne
  | cons t ts =>
    have hn : tyName h w = some (.inl c) := by rw [tyName_str, ex]; rfl
    simp only [isiW, isOne, hn] at e
    cases t with
    | own d =>
      dsimp only at e
      by_cases hd : c = d
      · subst hd; simp
      · rw [if_neg hd] at e; cases e
    | bi k => cases e
/-- a class that is written -/
def STy (G : Gx) (Γ : Gm) (m : Nat) (a : Expr) (t : Ty) : Prop := notStar a = true ∧ ∀ X, Gd G Γ m X → PE X a (tC (tyVv G t))
theorem sy_own {x : Str} {k : Nat} {p : Pos} (hg : GL Γ x) (hn : nmOk x = true) (hm : G.mg x = some (.ref (G.ca k))) : STy G Γ m (.Name x p) (.own k) :=
  ⟨rfl, fun X g => pe_glob (g.gl hg) (by rw [g.mg]; exact hm) rfl (nmOk.d hn).1⟩
theorem sy_bi {b : Bt} {p : Pos} (hg : GL Γ (btN b)) (hm : G.mg (btN b) = none) : STy G Γ m (.Name (btN b) p) (.bi b) :=
  ⟨rfl, fun X g => pe_bltn (g.gl hg) (by rw [g.mg]; exact hm) (bt_boot b) rfl (nmOk.d (bt_nm b)).2.2 (nmOk.d (bt_nm b)).1⟩
theorem isi_fin {i : E} {tp : Bool} {ts : List Ty} {r : Rho} {s : Sl} {h : Hh} {σ : St} {H : Hp} {Q : VK} (S : Sim G r h H) (L : SlR G r H s σ) (p : Post G r H (RelW G) Q EX (evE C (.isi i tp ts) s h)) :
    UU G EX (RelW G) (evE C i) σ H fun v H1 => ∃ r1 h1 w b, Sim G r1 h1 H1 ∧ RelW G r1 H1 w v ∧ isiW h1 w ts = some b ∧ Q (.bl b) H1 := by
  simp only [evE] at p
  refine Post.bindU S L p fun r1 H1 h1 x y st0 S1 q1 p1 => ?_
  cases e : isiW h1 x ts with
  | none => rw [e] at p1; exact False.elim p1
  | some b => rw [e] at p1; exact ⟨r1, h1, x, b, S1, q1, e, Post.ok (h := h1) p1 S1 (.bl b)⟩
theorem se_isi1 {a c : Expr} {i : E} {t : Ty} {p pos : Pos} (ha : SE G EX C Γ m a i) (hn : notStar a = true) (hc : STy G Γ m c t) (fi : ∀ c, Ty.own c ∈ [t] → IsiF G c) (hg : GL Γ "isinstance") (hm : G.mg "isinstance" = none) :
    SE G EX C Γ m (.Call (.Name "isinstance" p) [a, c] [] pos) (.isi i false [t]) := fun X g =>
  weakE (pe_callB (call_isi (X := X)) (g.gl hg) (by rw [g.mg]; exact hm) boot_isinstance (pa_cons (ha X g) (pa_cons (hc.2 X g) pa_nil (star_cons hc.1 _ _)) (star_cons hn _ _)) (by decide) (by decide) (star_cons hn _ _) (backTo_any (es := [c]) (by simp [plainAll, hc.1]) _ _)) fun σ H Q ⟨r, s, h, S, L, p⟩ => by
    obtain ⟨r', s', h', S', L', p'⟩ := isi_fin (C := C) S L p
    refine ⟨r', s', h', S', L', ?_⟩
    cases e : evE C i s' h' with
    | no => rw [e] at p'; exact p'
    | ex c fs h1 => rw [e] at p'; exact p'
    | ok w h1 =>
      rw [e] at p'
      intro r1 H1 v st S1 q1
      obtain ⟨r2, h2, w2, b, S2, q2, e2, q⟩ := p' r1 H1 v st S1 q1
      have e3 : isOne h2 w2 t = some b := by
        simp only [isiW] at e2
        split at e2
        · rename_i z; cases e2; exact z
        · rename_i z; cases e2; exact z
        · cases e2
      obtain ⟨x, ex⟩ := isOne_ty e3
      refine ⟨v, tyVv G t, tyOfS G x, tyVl G t, b, rfl, ty_cls t, ?_, ?_, q⟩
      · rw [g.K]; exact tyX_of S2 q2 ex fun c ec => fi c (isi_own (ec ▸ ex) e2 (by simp))
      · rw [g.K]; exact isOne_kit ex e3 fun c ec => fi c (by simp [ec])
/-- a tuple of classes -/
inductive STys (G : Gx) (Γ : Gm) (m : Nat) : List Expr → List Ty → Prop
  | nil : STys G Γ m [] []
  | cons {a : Expr} {t : Ty} {es : List Expr} {ts : List Ty} : STy G Γ m a t → STys G Γ m es ts → STys G Γ m (a :: es) (t :: ts)
def tTys (G : Gx) (ts : List Ty) : TA := fun _ H Q => Q (ts.map (tyVv G)) H
theorem STys.run (g : Gd G Γ m X) : ∀ {es : List Expr} {ts : List Ty}, STys G Γ m es ts → PA X es (tTys G ts)
  | _, _, .nil => pa_nil
  | _, _, .cons h t => weakA (pa_cons (h.2 X g) (STys.run g t) (star_cons h.1 _ _)) fun σ H Q q => q
theorem se_isiT {a : Expr} {es : List Expr} {i : E} {ts : List Ty} {k : Nat} {p p2 pos : Pos} (ha : SE G EX C Γ m a i) (hn : notStar a = true) (hc : STys G Γ m es ts) (hne : ts ≠ []) (hz : ts.length ≤ 64) (fi : ∀ c, Ty.own c ∈ ts → IsiF G c) (hg : GL Γ "isinstance") (hm : G.mg "isinstance" = none) :
    SE G EX C Γ m (.Call (.Name "isinstance" p) [a, .Tuple es k p2] [] pos) (.isi i true ts) := fun X g =>
  weakE (pe_callB (call_isiT (X := X)) (g.gl hg) (by rw [g.mg]; exact hm) boot_isinstance (pa_cons (ha X g) (pa_cons (pe_tup (STys.run g hc)) pa_nil rfl) (star_cons hn _ _)) (by decide) (by decide) (star_cons hn _ _) rfl) fun σ H Q ⟨r, s, h, S, L, p⟩ => by
    obtain ⟨r', s', h', S', L', p'⟩ := isi_fin (C := C) S L p
    refine ⟨r', s', h', S', L', ?_⟩
    cases e : evE C i s' h' with
    | no => rw [e] at p'; exact p'
    | ex c fs h1 => rw [e] at p'; exact p'
    | ok w h1 =>
      rw [e] at p'
      intro r1 H1 v st S1 q1
      have hl : (ts.map (tyVv G)).length ≤ sizeLine := by rw [List.length_map, sizeLine_eq]; omega
      refine ⟨hl, fun tp htp => ?_⟩
      obtain ⟨r2, h2, w2, b, S2, q2, e2, q⟩ := p' r1 _ v (st.trans (Step.fresh htp)) (S1.fresh (ho := .tup (ts.map (tyVv G))) htp) (q1.step (Step.fresh htp))
      obtain ⟨x, ex⟩ : ∃ x, tyStr w2 h2 = some x := by
        cases ts with
        | nil => exact absurd rfl hne
        | cons t ts =>
          simp only [isiW] at e2
          split at e2
          · rename_i z; exact isOne_ty z
          · rename_i z; exact isOne_ty z
          · cases e2
      refine ⟨v, tp, ts.map (tyVv G), tyOfS G x, ts.map (tyVl G), b, rfl, upd_same, ?_, ?_, ?_, q⟩
      · generalize ts = ts
        induction ts with
        | nil => exact .nil
        | cons t ts ih => exact .cons (ty_cls t) ih
      · rw [g.K]; exact tyX_of S2 q2 ex fun c ec => fi c (isi_own (ec ▸ ex) e2 hne)
      · rw [g.K]; exact isi_any ex e2 fi
end
end Mi

set_option Elab.async false
set_option linter.all false
set_option maxRecDepth 100000
set_option maxHeartbeats 4000000
/-! Targets; what is walked; comprehensions. -/
namespace Mi
open PySem PySem.Spec PyProof.Rows L2

/-! ### targets -/
mutual
def tgIx : Tg → List Nat
  | .name i => [i]
  | .tup ts => tgsIx ts
  | _ => []
def tgsIx : Tgs → List Nat
  | .nil => []
  | .cons t ts => tgIx t ++ tgsIx ts
end
theorem wipe_set {σ : St} {i : Nat} {x : Option V} : ∀ {vs : List Nat}, i ∈ vs → wipe (σ.set i x) vs = wipe σ vs
  | [], h => by cases h
  | v :: vs, h => by
    unfold wipe
    by_cases c : i ∈ vs
    · rw [wipe_set c]
    · have e : i = v := by
        rcases List.mem_cons.mp h with e | e
        · exact e
        · exact absurd e c
      subst e
      have : ∀ {ws : List Nat}, i ∉ ws → wipe (σ.set i x) ws = (wipe σ ws).set i x := by
        intro ws
        induction ws with
        | nil => intro _; rfl
        | cons w ws ih =>
          intro hn
          simp only [List.mem_cons, not_or] at hn
          unfold wipe
          rw [ih hn.2, List.set_comm _ _ (Ne.symm hn.1 |> fun z => z.symm)]
      rw [this c, List.set_set]
theorem wipe_wipe (σ : St) : ∀ vs : List Nat, wipe (wipe σ vs) vs = wipe σ vs := by
  have h : ∀ (ws vs : List Nat), (∀ i ∈ ws, i ∈ vs) → wipe (wipe σ ws) vs = wipe σ vs := by
    intro ws
    induction ws with
    | nil => intro vs _; rfl
    | cons w ws ih =>
      intro vs hs
      show wipe ((wipe σ ws).set w none) vs = _
      rw [wipe_set (hs w (by simp)), ih vs fun i hi => hs i (List.mem_cons_of_mem _ hi)]
  exact fun vs => h vs vs fun _ hi => hi
/-- slots behind a store: those of the target alone -/
def relSl (G : Gx) (σ : St) (ix : List Nat) : Rho → Hp → Sl → St → Prop := fun r H s' σ' => SlR G r H s' σ' ∧ ∀ vs : List Nat, (∀ i ∈ ix, i ∈ vs) → wipe σ' vs = wipe σ vs
def UG (G : Gx) (EX : XK) (C : Cal) (t : Tg) : TG := fun v σ H Q => ∃ r s h w, Sim G r h H ∧ SlR G r H s σ ∧ RelW G r H w v ∧ Post G r H (relSl G σ (tgIx t)) (fun σ' H' => Q σ' H') EX (evG C t w s h)
def UGs (G : Gx) (EX : XK) (C : Cal) (ts : Tgs) : TGs := fun vs σ H Q => ∃ r s h ws, Sim G r h H ∧ SlR G r H s σ ∧ RelWs G r H ws vs ∧ Post G r H (relSl G σ (tgsIx ts)) (fun σ' H' => Q σ' H') EX (evGs C ts ws s h)
theorem weakG {X : Cx} {e : Expr} {t t' : TG} (h : PG X e t) (w : ∀ v σ H Q, t' v σ H Q → t v σ H Q) : PG X e t' := ⟨fun pins s σ H v u Q I r q => h.run pins s σ H v u Q I r (w _ _ _ _ q)⟩
theorem weakGs {X : Cx} {e : List Expr} {t t' : TGs} (h : PGs X e t) (w : ∀ v σ H Q, t' v σ H Q → t v σ H Q) : PGs X e t' := ⟨fun pins s σ H v u Q I r q => h.run pins s σ H v u Q I r (w _ _ _ _ q)⟩
def SG (G : Gx) (EX : XK) (C : Cal) (Γ : Gm) (m : Nat) (e : Expr) (t : Tg) : Prop := notStar e = true ∧ ∀ X, Gd G Γ m X → PG X e (UG G EX C t)
structure SGs (G : Gx) (EX : XK) (C : Cal) (Γ : Gm) (m : Nat) (e : List Expr) (t : Tgs) : Prop where
  pl : plainAll e = true
  len : tgsL t = e.length
  run : ∀ X, Gd G Γ m X → PGs X e (UGs G EX C t)
section
variable {G : Gx} {EX : XK} {C : Cal} {Γ : Gm} {m l n : Nat} {X : Cx}
theorem sg_name {x : Str} {i : Nat} {p : Pos} (hi : Γ.N[i]? = some x) (hl : locB Γ x = true) : SG G EX C Γ m (.Name x p) (.name i) := ⟨rfl, fun X g =>
  weakG (pg_name (by rw [g.N]; exact g.nd) (by rw [g.N]; exact hi) (g.loc hl).1 (g.loc hl).2) fun v σ H Q ⟨r, s, h, w, S, L, q, p⟩ => by
    simp only [evG] at p
    exact Post.ok (h := h) (b := σ.set i (some v)) p S ⟨L.set q, fun vs hv => wipe_set (hv i (by simp [tgIx]))⟩⟩
theorem sgs_nil : SGs G EX C Γ m [] .nil := ⟨rfl, rfl, fun X g =>
  weakGs pgs_nil fun vs σ H Q ⟨r, s, h, ws, S, L, q, p⟩ => by
    cases q with
    | nil =>
      simp only [evGs] at p
      exact ⟨rfl, Post.ok (h := h) (b := σ) p S ⟨L, fun _ _ => rfl⟩⟩
    | cons a b => simp only [evGs] at p; exact False.elim p⟩
theorem sgs_cons {a : Expr} {es : List Expr} {t : Tg} {ts : Tgs} (ha : SG G EX C Γ m a t) (hs : SGs G EX C Γ m es ts) : SGs G EX C Γ m (a :: es) (.cons t ts) :=
  ⟨by simp only [plainAll, List.all_cons, Bool.and_eq_true]; exact ⟨ha.1, hs.pl⟩, by simp [tgsL, hs.len], fun X g =>
  weakGs (pgs_cons (ha.2 X g) (hs.run X g) (by rw [assign_cons ha.1]; rfl)) fun vs σ H Q ⟨r, s, h, ws, S, L, q, p⟩ => by
    cases q with
    | nil => simp only [evGs] at p; exact False.elim p
    | @cons w v ws vs q1 qs =>
      simp only [evGs] at p
      refine ⟨v, vs, rfl, r, s, h, w, S, L, q1, Post.of_bind p fun r1 H1 h1 s1 σ1 st S1 q2 p1 => ?_⟩
      refine ⟨r1, s1, h1, ws, S1, q2.1, qs.step st, ?_⟩
      cases e1 : evGs C ts ws s1 h1 with
      | no => rw [e1] at p1; exact p1
      | ex c fs h2 => rw [e1] at p1; exact p1
      | ok s2 h2 =>
        rw [e1] at p1
        intro r2 H2 σ2 st2 S2 q3
        exact p1 r2 H2 σ2 st2 S2 ⟨q3.1, fun vs hv => (q3.2 vs fun i hi => hv i (by simp [tgsIx, hi])).trans (q2.2 vs fun i hi => hv i (by simp [tgsIx, hi]))⟩⟩
theorem assign_all : ∀ {es : List Expr} (h : plainAll es = true) (env : Env), (assignEach es env).length = es.length ∧ (assignEach es env).findIdx? (·.1) = none
  | [], _, _ => ⟨rfl, rfl⟩
  | a :: es, h, env => by
    simp only [plainAll, List.all_cons, Bool.and_eq_true] at h
    rw [assign_cons h.1]
    obtain ⟨a1, a2⟩ := assign_all (es := es) h.2 env
    exact ⟨by simp [a1], by simp [List.findIdx?_cons, a2]⟩
theorem sg_tup {es : List Expr} {ts : Tgs} {k : Nat} {p : Pos} (hs : SGs G EX C Γ m es ts) : SG G EX C Γ m (.Tuple es k p) (.tup ts) := ⟨rfl, fun X g =>
  weakG (pg_tup g.calm (hs.run X g) (assign_all hs.pl _).1 (assign_all hs.pl _).2) fun v σ H Q ⟨r, s, h, w, S, L, q, p⟩ => by
    cases q with
    | tup t ws =>
      simp only [evG] at p
      split at p
      · rename_i hl
        exact ⟨_, _, rfl, g.K ▸ t, by rw [← ws.length, hl, hs.len], r, s, h, _, S, L, ws, p⟩
      · exact False.elim p
    | _ => simp only [evG] at p; exact False.elim p⟩
/-! ### o[i] = v -/
def uSet (G : Gx) : TSet := fun o i v H Q => ∃ r h a b c, Sim G r h H ∧ RelW G r H a o ∧ RelW G r H b i ∧ RelW G r H c v ∧ ∃ h', setIx a b c h = some h' ∧ ∀ r' H', Step G r H r' H' → Sim G r' h' H' → Q H'
theorem or_set (hu : X.A.units + 64 < cLine) : PSet X (uSet G) := by
  intro pins s σ H o i v ov iv u Q I ro ri rv ⟨r, h, a, b, c, S, q1, q2, q3, h', e, q⟩
  cases q1 <;> (try (simp [setIx] at e; done))
  rename_i nn pa e2
  simp only [setIx] at e
  split at e
  · rename_i ws g
    obtain ⟨vs, a1, b1⟩ := S.lst e2 g
    split at e
    · rename_i k
      cases q2
      split at e
      · rename_i j ej
        cases e
        rw [b1.length] at ej
        refine set_list pins s σ H _ _ _ ov iv u Q I ro ri rv ⟨pa, vs, k, j, rfl, rfl, a1, ej, ?_⟩
        obtain ⟨S', st⟩ := S.put (o := .lst (ws.set j c)) (ho := .lst (vs.set j v)) e2 g rfl rfl fun st => ⟨_, upd_same, (b1.set j q3).step st⟩
        exact q _ _ st S'
      · cases e
    · cases e
  · rename_i kvs g
    obtain ⟨vs, a1, b1⟩ := S.dic e2 g
    split at e
    · rename_i k ek
      have ev := keyW_rel ek q2
      subst ev
      split at e
      · rename_i hl
        cases e
        rw [b1.length] at hl
        obtain ⟨S', st⟩ := S.put (o := .dic (putKW kvs k c)) (ho := .dK (putK vs k v)) e2 g rfl rfl fun st => ⟨_, upd_same, (b1.put k q3).step st⟩
        cases ro
        exact d_setItem (by omega) I (DPut.k a1 hl) ri rv fun s' I' => ⟨_, I', q _ _ st S'⟩
      · cases e
    · cases e
  · cases e
theorem sub_assign {o i : Expr} {pos : Pos} {env : Env} (hn : notSlice i = true) (v : Value) : assign (.Subscript o i pos) env v = (do
    let ov ← holding [v] (eval o env)
    let iv ← holding [v, ov] (eval i env)
    standAt pos
    holding [v, ov, iv] (setItem ov iv v)
    release [v, ov, iv] []) := by
  cases i <;> first | rfl | cases hn
theorem sg_sub {o i : Expr} {io ii : E} {p : Pos} (ho : SE G EX C Γ m o io) (hi : SE G EX C Γ m i ii) (hn : notSlice i = true) : SG G EX C Γ m (.Subscript o i p) (.sub io ii) := ⟨rfl, fun X g =>
  weakG (pg_sub (ho X g) (hi X g) (or_set (G := G) g.units) (sub_assign hn)) fun v σ H Q ⟨r, s, h, w, S, L, q, p⟩ => by
    simp only [evG] at p
    refine Post.bindU S L p fun r1 H1 h1 x y st0 S1 q1 p1 => ?_
    refine Post.bindU S1 (L.step st0) p1 fun r2 H2 h2 x2 y2 st2 S2 q2 p2 => ?_
    refine ⟨r2, h2, x, x2, w, S2, q1.step st2, q2, (q.step st0).step st2, ?_⟩
    cases e : setIx x x2 w h2 with
    | none => rw [e] at p2; exact False.elim p2
    | some h3 =>
      rw [e] at p2
      exact ⟨h3, rfl, fun r3 H3 st3 S3 => p2 r3 H3 σ st3 S3 ⟨((L.step st0).step st2).step st3, fun _ _ => rfl⟩⟩⟩
end
end Mi

set_option Elab.async false
set_option linter.all false
set_option maxRecDepth 100000
set_option maxHeartbeats 4000000
/-! What is walked; comprehensions. -/
namespace Mi
open PySem PySem.Spec PyProof.Rows L2

/-- what is walked, here and there -/
inductive RelJ (G : Gx) (r : Rho) (H : Hp) : J → L2.It → Prop
  | lst {n : Nat} {a : Addr} : r[n]? = some a → RelJ G r H (.seq (.ref n)) (Itl G.K a)
  | tup {ws : List W} {vs : List V} {a : Addr} : SqT G.K H a vs → RelWs G r H ws vs → RelJ G r H (.seq (.tup ws)) (Itt G.K a)
  | rng (lo : Int) (n : Nat) : RelJ G r H (.rng lo n) (Itr lo n)
  | enm {n : Nat} {a : Addr} : r[n]? = some a → RelJ G r H (.enm n) (Ite G.K a)
  | zip {n k : Nat} {a b : Addr} : r[n]? = some a → r[k]? = some b → RelJ G r H (.zip n k) (Itz G.K a b)
theorem RelJ.step {G : Gx} {r r' : Rho} {H H' : Hp} {j : J} {t : L2.It} (s : Step G r H r' H') (q : RelJ G r H j t) : RelJ G r' H' j t := by
  cases q with
  | lst e => exact .lst (s.get e)
  | tup t ws => exact .tup (s.tup _ _ t) (ws.step s)
  | rng lo n => exact .rng lo n
  | enm e => exact .enm (s.get e)
  | zip e e2 => exact .zip (s.get e) (s.get e2)
section
variable {G : Gx} {r : Rho} {H : Hp} {h : Hh}
theorem seqAt_ref {n : Nat} {ws : List W} (e : seqAt h (.ref n) = some ws) : lstAt h n = some ws := by
  simp only [seqAt] at e
  simp only [lstAt]
  exact e
/-- it stops -/
theorem RelJ.stop {j : J} {t : L2.It} {i : Nat} (q : RelJ G r H j t) (S : Sim G r h H) (e : j.next i h = some none) : t.stop i H := by
  cases q with
  | lst e2 =>
    simp only [J.next, Option.map_eq_some_iff] at e
    obtain ⟨ws, e1, e3⟩ := e
    obtain ⟨vs, a, b⟩ := S.lstL e2 (seqAt_ref e1)
    exact ⟨vs, a, by rw [← b.length]; exact List.getElem?_eq_none_iff.mp e3⟩
  | tup t ws =>
    simp only [J.next, seqAt, Option.map_some, Option.some.injEq] at e
    exact ⟨_, t, by rw [← ws.length]; exact List.getElem?_eq_none_iff.mp e⟩
  | rng lo n =>
    simp only [J.next, Option.some.injEq] at e
    split at e
    · cases e
    · rename_i c; exact Nat.le_of_not_lt c
  | enm e2 =>
    simp only [J.next, Option.map_eq_some_iff] at e
    obtain ⟨ws, e1, e3⟩ := e
    obtain ⟨vs, a, b⟩ := S.lstL e2 e1
    have e4 : ws[i]? = none := by
      cases z : ws[i]? with
      | none => rfl
      | some w => rw [z] at e3; cases e3
    exact ⟨vs, a, by rw [← b.length]; exact List.getElem?_eq_none_iff.mp e4⟩
  | zip e2 e3 =>
    simp only [J.next] at e
    split at e
    · rename_i xs ys g1 g2
      obtain ⟨vs, a, b⟩ := S.lstL e2 g1
      obtain ⟨us, a', b'⟩ := S.lstL e3 g2
      refine ⟨vs, us, a, a', ?_⟩
      rw [← b.length, ← b'.length]
      split at e
      · cases e
      · rename_i hno
        by_cases c : xs.length ≤ i
        · exact .inl c
        · by_cases c2 : ys.length ≤ i
          · exact .inr c2
          · exact absurd (List.getElem?_eq_getElem (Nat.lt_of_not_le c2)) (hno _ _ (List.getElem?_eq_getElem (Nat.lt_of_not_le c)))
    · cases e
/-- it goes on: what it yields -/
theorem RelJ.go {j : J} {t : L2.It} {i : Nat} {w : W} (q : RelJ G r H j t) (S : Sim G r h H) (e : j.next i h = some (some w)) :
    t.go i H ∧ ∀ x H', t.yld i H x H' → Step G r H r H' ∧ Sim G r h H' ∧ RelW G r H' w x := by
  cases q with
  | lst e2 =>
    simp only [J.next, Option.map_eq_some_iff] at e
    obtain ⟨ws, e1, e3⟩ := e
    obtain ⟨vs, a, b⟩ := S.lstL e2 (seqAt_ref e1)
    obtain ⟨v, ev, rv⟩ := b.get e3
    refine ⟨⟨vs, v, a, ev⟩, fun x H' y => ?_⟩
    obtain ⟨rfl, y⟩ := y
    have := y vs a
    rw [ev] at this; cases this
    exact ⟨Step.refl, S, rv⟩
  | tup t ws =>
    simp only [J.next, seqAt, Option.map_some, Option.some.injEq] at e
    obtain ⟨v, ev, rv⟩ := ws.get e
    refine ⟨⟨_, v, t, ev⟩, fun x H' y => ?_⟩
    obtain ⟨rfl, y⟩ := y
    have := y _ t
    rw [ev] at this; cases this
    exact ⟨Step.refl, S, rv⟩
  | rng lo n =>
    simp only [J.next, Option.some.injEq] at e
    split at e
    · rename_i c
      cases e
      refine ⟨c, fun x H' y => ?_⟩
      obtain ⟨rfl, rfl⟩ := y
      exact ⟨Step.refl, S, .int _⟩
    · cases e
  | enm e2 =>
    simp only [J.next, Option.map_eq_some_iff] at e
    obtain ⟨ws, e1, e3⟩ := e
    obtain ⟨vs, a, b⟩ := S.lstL e2 e1
    obtain ⟨u, e4, e5⟩ : ∃ u, ws[i]? = some u ∧ w = .tup [.int (i : Nat), u] := by
      cases z : ws[i]? with
      | none => rw [z] at e3; simp at e3
      | some u => rw [z] at e3; simp at e3; exact ⟨u, rfl, e3.symm⟩
    subst e5
    obtain ⟨v, ev, rv⟩ := b.get e4
    refine ⟨⟨vs, v, a, ev⟩, fun x H' y => ?_⟩
    obtain ⟨T, v', rfl, hT, rfl, y⟩ := y
    have := y vs a
    rw [ev] at this; cases this
    exact ⟨Step.fresh hT, S.fresh hT, .tup (SqT.of upd_same) (.cons (.int _) (.cons (rv.step (Step.fresh hT)) .nil))⟩
  | zip e2 e3 =>
    simp only [J.next] at e
    split at e
    · rename_i xs ys g1 g2
      obtain ⟨vs, a, b⟩ := S.lstL e2 g1
      obtain ⟨us, a', b'⟩ := S.lstL e3 g2
      split at e
      · rename_i x y ex ey
        cases e
        obtain ⟨v, ev, rv⟩ := b.get ex
        obtain ⟨u, eu, ru⟩ := b'.get ey
        refine ⟨⟨vs, us, v, u, a, a', ev, eu⟩, fun z H' y => ?_⟩
        obtain ⟨T, v', u', rfl, hT, rfl, y1, y2⟩ := y
        have h1 := y1 vs a
        rw [ev] at h1; cases h1
        have h2 := y2 us a'
        rw [eu] at h2; cases h2
        exact ⟨Step.fresh hT, S.fresh hT, .tup (SqT.of upd_same) (.cons (rv.step (Step.fresh hT)) (.cons (ru.step (Step.fresh hT)) .nil))⟩
      · cases e
    · cases e
end

section
variable {G : Gx} {EX : XK} {C : Cal} {Γ : Gm} {m l n : Nat} {X : Cx}
def UI (G : Gx) (EX : XK) (C : Cal) (i : It) : TI := fun σ H R => UU G EX (RelJ G) (evI C i) σ H R
theorem weakI {X : Cx} {tg e : Expr} {t t' : TI} (h : PI X tg e t) (w : ∀ σ H Q, t' σ H Q → t σ H Q) : PI X tg e t' := ⟨fun pins s σ H Q I q => h.run pins s σ H Q I (w _ _ _ q)⟩
def folded (e : Expr) : Prop := ∀ (env : Env) (x : Value), foldedSetIterable e env x = pure x
theorem notSet_folded {e : Expr} (h : notSet e = true) : folded e := by
  intro env x
  cases e <;> first | rfl | cases h
structure SI (G : Gx) (EX : XK) (C : Cal) (Γ : Gm) (m : Nat) (tg e : Expr) (i : It) : Prop where
  fo : folded e
  run : ∀ X, Gd G Γ m X → PI X tg e (UI G EX C i)
theorem pickI {X : Cx} {tg e : Expr} {t' : TI} (h : ∀ σ H Q, t' σ H Q → ∃ t, PI X tg e t ∧ t σ H Q) : PI X tg e t' := ⟨fun pins s σ H Q I q => let ⟨_, a, b⟩ := h _ _ _ q; a.run pins s σ H Q I b⟩
theorem si_seq {tg e : Expr} {i : E} (ha : SE G EX C Γ m e i) (hn : notSet e = true) : SI G EX C Γ m tg e (.seq i) := ⟨notSet_folded hn, fun X g => by
  refine pickI fun σ H Q ⟨r, s, h, S, L, p⟩ => ?_
  simp only [evI] at p
  cases e : evE C i s h with
  | no => rw [e] at p; exact False.elim p
  | ex c fs h1 => rw [e] at p; exact ⟨_, pi_list (ha X g), UU.ex S L e p⟩
  | ok x h1 =>
    rw [e] at p
    simp only [R.bind] at p
    cases x with
    | tup ws =>
      refine ⟨_, pi_tup (ha X g), UU.of S L e fun r1 H1 y st S1 q1 => ?_⟩
      cases q1 with
      | tup t rs =>
        exact ⟨_, rfl, ⟨_, g.K ▸ t⟩, g.K ▸ p r1 H1 _ st S1 (.tup t rs)⟩
    | ref n =>
      cases e2 : seqAt h1 (.ref n) with
      | none => rw [e2] at p; exact False.elim p
      | some ws =>
        rw [e2] at p
        refine ⟨_, pi_list (ha X g), UU.of S L e fun r1 H1 y st S1 q1 => ?_⟩
        obtain ⟨a, rfl, ea⟩ := q1.inv
        obtain ⟨vs, b1, b2⟩ := S1.lstL ea (seqAt_ref e2)
        exact ⟨a, rfl, ⟨vs, g.K ▸ b1⟩, g.K ▸ p r1 H1 _ st S1 (.lst ea)⟩
    | _ => exact False.elim p⟩
theorem call_folded {f : Expr} {as : List Expr} {ks : List Keyword} {p : Pos} : folded (.Call f as ks p) := fun _ _ => rfl
theorem si_rng1 {tg a : Expr} {i : E} {p pos : Pos} (ha : SE G EX C Γ m a i) (hn : notStar a = true) (hg : GL Γ "range") (hm : G.mg "range" = none) : SI G EX C Γ m tg (.Call (.Name "range" p) [a] [] pos) (.rng1 i) := ⟨call_folded, fun X g =>
  weakI (pi_range1 (g.gl hg) (by rw [g.mg]; exact hm) (pa_cons (ha X g) pa_nil (star_cons hn _ _)) (star_cons hn _ _)) fun σ H Q ⟨r, s, h, S, L, p⟩ => by
    simp only [evI] at p
    refine Post.bindU S L p fun r1 H1 h1 x y st0 S1 q1 p1 => ?_
    cases x <;> (try exact False.elim p1)
    cases q1
    simp only [rngJ] at p1
    split at p1
    · rename_i hc
      refine ⟨_, rfl, hc.2.2.1, hc.2.2.2, ?_⟩
      have := Post.ok p1 S1 (.rng 0 _)
      simpa using this
    · exact False.elim p1⟩
theorem si_rng2 {tg a b : Expr} {i j : E} {p pos : Pos} (ha : SE G EX C Γ m a i) (hb : SE G EX C Γ m b j) (hn : notStar a = true) (hn2 : notStar b = true) (hg : GL Γ "range") (hm : G.mg "range" = none) : SI G EX C Γ m tg (.Call (.Name "range" p) [a, b] [] pos) (.rng2 i j) := ⟨call_folded, fun X g =>
  weakI (pi_range2 (g.gl hg) (by rw [g.mg]; exact hm) (pa_cons (ha X g) (pa_cons (hb X g) pa_nil (star_cons hn2 _ _)) (star_cons hn _ _)) (by rw [star_cons hn, star_cons hn2]; rfl) (star_cons hn2 _ _)) fun σ H Q ⟨r, s, h, S, L, p⟩ => by
    simp only [evI] at p
    refine Post.bindU S L p fun r1 H1 h1 x y st0 S1 q1 p1 => ?_
    refine Post.bindU S1 (L.step st0) p1 fun r2 H2 h2 x2 y2 st2 S2 q2 p2 => ?_
    cases x <;> cases x2 <;> (try exact False.elim p2)
    cases q1; cases q2
    simp only [rngJ] at p2
    split at p2
    · rename_i hc
      exact ⟨_, _, rfl, hc, Post.ok p2 S2 (.rng _ _)⟩
    · exact False.elim p2⟩
theorem si_enm {elts : List Expr} {kk : Nat} {a : Expr} {i : E} {p pos tpos : Pos} (ha : SE G EX C Γ m a i) (hn : notStar a = true) (hg : GL Γ "enumerate") (hm : G.mg "enumerate" = none) : SI G EX C Γ m (.Tuple elts kk tpos) (.Call (.Name "enumerate" p) [a] [] pos) (.enm i) := ⟨call_folded, fun X g =>
  weakI (pi_enum (g.gl hg) (by rw [g.mg]; exact hm) (pa_cons (ha X g) pa_nil (star_cons hn _ _)) (star_cons hn _ _)) fun σ H Q ⟨r, s, h, S, L, p⟩ => by
    simp only [evI] at p
    refine Post.bindU S L p fun r1 H1 h1 x y st0 S1 q1 p1 => ?_
    cases x <;> (try exact False.elim p1)
    obtain ⟨a, rfl, ea⟩ := q1.inv
    dsimp only at p1
    split at p1
    · rename_i g1
      obtain ⟨vs, b1, b2⟩ := S1.lstL ea g1
      exact ⟨a, vs, rfl, g.K ▸ b1, g.K ▸ Post.ok p1 S1 (.enm ea)⟩
    · exact False.elim p1⟩
theorem si_zip {elts : List Expr} {kk : Nat} {a b : Expr} {i j : E} {p pos tpos : Pos} (ha : SE G EX C Γ m a i) (hb : SE G EX C Γ m b j) (hn : notStar a = true) (hn2 : notStar b = true) (hg : GL Γ "zip") (hm : G.mg "zip" = none) : SI G EX C Γ m (.Tuple elts kk tpos) (.Call (.Name "zip" p) [a, b] [] pos) (.zip i j) := ⟨call_folded, fun X g =>
  weakI (pi_zip (g.gl hg) (by rw [g.mg]; exact hm) (pa_cons (ha X g) (pa_cons (hb X g) pa_nil (star_cons hn2 _ _)) (star_cons hn _ _)) (star_cons hn _ _) (backTo_any (es := [b]) (by simp [plainAll, hn2]) _ _)) fun σ H Q ⟨r, s, h, S, L, p⟩ => by
    simp only [evI] at p
    refine Post.bindU S L p fun r1 H1 h1 x y st0 S1 q1 p1 => ?_
    refine Post.bindU S1 (L.step st0) p1 fun r2 H2 h2 x2 y2 st2 S2 q2 p2 => ?_
    cases x <;> cases x2 <;> (try exact False.elim p2)
    obtain ⟨a, rfl, ea⟩ := (q1.step st2).inv
    obtain ⟨b, rfl, eb⟩ := q2.inv
    dsimp only at p2
    split at p2
    · rename_i g1 g2
      obtain ⟨vs, b1, b2⟩ := S2.lstL ea g1
      obtain ⟨us, b3, b4⟩ := S2.lstL eb g2
      exact ⟨a, b, vs, us, rfl, g.K ▸ b1, g.K ▸ b3, g.K ▸ Post.ok p2 S2 (.zip ea eb)⟩
    · exact False.elim p2⟩

/-! ### comprehensions -/
def SC (G : Gx) (EX : XK) (C : Cal) (Γ : Gm) (m : Nat) (ifs : List Expr) (i : Eo) : Prop := ∀ X, Gd G Γ m X → PTs X ifs (UU G EX (fun _ _ => Eq) (evC C i))
theorem weakTs {X : Cx} {e : List Expr} {t t' : TT} (h : PTs X e t) (w : ∀ σ H Q, t' σ H Q → t σ H Q) : PTs X e t' := ⟨fun pins s σ H Q I q => h.run pins s σ H Q I (w _ _ _ q)⟩
theorem sc_none : SC G EX C Γ m [] .none := fun X g => weakTs pts_nil fun σ H Q ⟨r, s, h, S, L, p⟩ => by
  simp only [evC] at p
  exact Post.ok (h := h) p S rfl
theorem sc_some {a : Expr} {i : E} (ha : STt G EX C Γ m a i) : SC G EX C Γ m [a] (.some i) := fun X g => weakTs (pts_one (ha X g)) fun σ H Q ⟨r, s, h, S, L, p⟩ => by
  simp only [evC] at p
  exact ⟨r, s, h, S, L, p⟩
/-- the block's context -/
def Gm.blk (Γ : Gm) (scope : Scope) : Gm := ⟨Γ.N, relS scope Γ.sc, false⟩
theorem Gd.blk (g : Gd G Γ m X) {scope : Scope} (hk : scope.kind = .function) (s : Shared) (H : Hp) (D : Addr) (cl : List (Str × Addr)) (fp : List Addr) : Gd G (Γ.blk scope) m (X.blk s H scope (compEnvC scope cl D X.env) fp) where
  prog := g.prog
  w := g.w
  K := g.K
  mg := g.mg
  base := g.base
  N := g.N
  nd := g.nd
  sc := by
    show relabel scope X.env = relS scope Γ.sc
    rw [← g.sc]; rfl
  kind := hk
  calm := g.calm
  room := g.room
  fn := fun h => by cases h
/-- the turns of a comprehension -/
theorem comp_turns {tg : Tg} {cd : Eo} {el : E} {vs : List Nat} {σ : St} {Q : VK} {J0 : J} {t0 : L2.It} {D : Addr} {dn : Nat} (hix : ∀ i ∈ tgIx tg, i ∈ vs) {s : Sl} (fin : Hh → R W) {EX' : XK} :
    ∀ (k i : Nat) (r : Rho) (H : Hp) (h : Hh), Sim G r h H → SlR G r H s (wipe σ vs) → RelJ G r H J0 t0 → r[dn]? = some D →
      Post G r H (RelW G) Q EX' ((compL (evG C tg) (evC C cd) (evE C el) J0 dn s k i h).bindN fun _ h2 => fin h2) →
      ∀ (fq : ∀ r H h, Sim G r h H → r[dn]? = some D → Post G r H (RelW G) Q EX' (fin h) → Q (.ref D) H),
      (t0.stop i H ∧ Q (.ref D) H) ∨ (t0.go i H ∧ ∃ Nx : Hp → Prop, (∀ H', Nx H' → ∃ k', k' < k ∧ ∃ r' h', Sim G r' h' H' ∧ SlR G r' H' s (wipe σ vs) ∧ RelJ G r' H' J0 t0 ∧ r'[dn]? = some D ∧
        Post G r' H' (RelW G) Q EX' ((compL (evG C tg) (evC C cd) (evE C el) J0 dn s k' (i + 1) h').bindN fun _ h2 => fin h2)) ∧
        ∀ x H', t0.yld i H x H' → UG G EX C tg x (wipe σ vs) H' fun σ2 H2 => wipe σ2 vs = wipe σ vs ∧ UU G EX (fun _ _ => Eq) (evC C cd) σ2 H2 fun b H3 =>
          if b = true then UU G EX (RelW G) (evE C el) σ2 H3 fun y H4 => ∃ acc, H4 D = some (.lst acc) ∧ acc.length < sizeLine ∧ Nx (upd H4 D (.lst (acc ++ [y]))) else Nx H3) := by
  intro k i r H h S L rj hD p fq
  cases k with
  | zero => exact False.elim p
  | succ k =>
    simp only [compL] at p
    cases e : J0.next i h with
    | none => rw [e] at p; exact False.elim p
    | some o =>
      rw [e] at p
      cases o with
      | none => exact .inl ⟨rj.stop S e, fq r H h S hD p⟩
      | some w =>
        refine .inr ⟨(rj.go S e).1, fun H' => ∃ k', k' < k + 1 ∧ ∃ r' h', Sim G r' h' H' ∧ SlR G r' H' s (wipe σ vs) ∧ RelJ G r' H' J0 t0 ∧ r'[dn]? = some D ∧
          Post G r' H' (RelW G) Q EX' ((compL (evG C tg) (evC C cd) (evE C el) J0 dn s k' (i + 1) h').bindN fun _ h2 => fin h2), fun H' z => z, fun x H' y => ?_⟩
        obtain ⟨st, S', q⟩ := (rj.go S e).2 x H' y
        dsimp only at p
        replace p := Post.step p st
        have e0 : ∀ {α β γ : Type} (x : R α) (f : α → Hh → R β) (g : β → Hh → R γ), ((x.bindN f).bindN g) = x.bindN fun a h => (f a h).bindN g := by
          intro α β γ x f g; cases x <;> rfl
        rw [e0] at p
        refine ⟨r, s, h, w, S', L.step st, q, Post.of_bindN p fun r1 H1 h1 s1 σ1 st1 S1 q1 p1 => ?_⟩
        refine ⟨(q1.2 vs hix).trans (wipe_wipe σ vs), ?_⟩
        rw [e0] at p1
        refine ⟨r1, s1, h1, S1, q1.1, Post.of_bindN p1 fun r2 H2 h2 b b' st2 S2 q2 p2 => ?_⟩
        subst q2
        have L0 := ((L.step st).step st1).step st2
        have rj0 := ((rj.step st).step st1).step st2
        have hD0 := st2.get (st1.get (st.get hD))
        cases b with
        | false =>
          exact ⟨k, Nat.lt_succ_self k, r2, h2, S2, L0, rj0, hD0, p2⟩
        | true =>
          dsimp only at p2
          rw [e0] at p2
          refine ⟨r2, s1, h2, S2, q1.1.step st2, Post.of_bindN p2 fun r3 H3 h3 y y' st3 S3 q3 p3 => ?_⟩
          split at p3
          · rename_i acc g1
            split at p3
            · rename_i hl
              have hD3 := st3.get hD0
              obtain ⟨us, a1, b1⟩ := S3.lst hD3 g1
              rw [b1.length] at hl
              obtain ⟨S4, st4⟩ := S3.put (o := .lst (acc ++ [y])) (ho := .lst (us ++ [y'])) hD3 g1 rfl rfl fun st => ⟨_, upd_same, (b1.append (.cons q3 .nil)).step st⟩
              exact ⟨us, a1, hl, k, Nat.lt_succ_self k, r3, _, S4, (L0.step st3).step st4, (rj0.step st3).step st4, st4.get hD3, Post.step p3 st4⟩
            · exact False.elim p3
          · exact False.elim p3
end
end Mi

set_option Elab.async false
set_option linter.all false
set_option maxRecDepth 100000
set_option maxHeartbeats 4000000
/-! List comprehensions; statements. -/
namespace Mi
open PySem PySem.Spec PyProof.Rows L2
section
variable {G : Gx} {EX : XK} {C : Cal} {Γ : Gm} {m l n : Nat} {X : Cx}
theorem comp_lc {tg : Tg} {it : It} {cd : Eo} {el : E} {own : List Nat} {σ : St} {H : Hp} {Q : VK} (g : Gd G Γ m X) (hix : (tgIx tg).all (fun i => own.contains i) = true) (u : UU G EX (RelW G) (evE C (.comp el tg it cd own)) σ H Q) :
    tLc (UI G EX C it) (UG G EX C tg) (UU G EX (fun _ _ => Eq) (evC C cd)) (UU G EX (RelW G) (evE C el)) own σ H Q := by
  obtain ⟨r, s, h, S, L, p⟩ := u
  simp only [evE] at p
  refine Post.bindU S L p fun r1 H1 h1 j t0 st0 S1 q1 p1 => ?_
  intro D hD
  have hix' : ∀ i ∈ tgIx tg, i ∈ own := fun i hi => by
    have := List.all_eq_true.mp hix i hi
    simpa using this
  obtain ⟨S2, st2⟩ := S1.push (o := .lst []) (ho := .lst []) hD ⟨[], upd_same, .nil⟩
  refine ⟨fun i k H => ∃ r' h', Sim G r' h' H ∧ SlR G r' H (wipeS s own) (L2.wipe σ own) ∧ RelJ G r' H j t0 ∧ r'[h1.n]? = some D ∧
    Post G r' H (RelW G) Q EX ((compL (evG C tg) (evC C cd) (evE C el) j h1.n (wipeS s own) k i h').bindN fun _ h2 => .ok (.ref h1.n) h2), ?_, ?_⟩
  · exact ⟨j.fuel h1, _, _, S2, ((L.step st0).step st2).wipe own, q1.step st2, S1.last D, Post.step p1 st2⟩
  · intro i k H' ⟨r', h', S', L', q', d', p'⟩
    exact comp_turns hix' (fun h2 => .ok (.ref h1.n) h2) k i r' H' h' S' L' q' d' p' fun r H h S d p => Post.ok p S (.ref d)
theorem Gd.blkOk (g : Gd G Γ m X) {scope : Scope} {own : List (Str × Nat)} (h : blkC Γ.N Γ.sc scope own = true) : BlkOk X.N X.env.scope scope own := by
  rw [g.N, g.sc]; exact blkOk_by h
theorem se_comp {elt tg iter : Expr} {ifs : List Expr} {scope : Scope} {own : List (Str × Nat)} {pos : Pos} {t : Tg} {it : It} {cd : Eo} {el : E} (ob : blkC Γ.N Γ.sc scope own = true) (hix : (tgIx t).all (fun i => (own.map (·.2)).contains i) = true)
    (hi : SI G EX C Γ m tg iter it) (hg : SG G EX C (Γ.blk scope) m tg t) (hc : SC G EX C (Γ.blk scope) m ifs cd) (he : SE G EX C (Γ.blk scope) m elt el) :
    SE G EX C Γ m (.ListComp elt [⟨tg, iter, ifs, 0⟩] scope pos) (.comp el t it cd (own.map (·.2))) := fun X g =>
  weakE (pe_lc g.calm (by rw [g.N]; exact g.nd) (hi.run X g) (g.blkOk ob) (fun s H D cl fp => hg.2 _ (g.blk (g.blkOk ob).kind s H D cl fp)) (fun s H D cl fp => hc _ (g.blk (g.blkOk ob).kind s H D cl fp))
    (fun s H D cl fp => he _ (g.blk (g.blkOk ob).kind s H D cl fp)) (hi.fo X.env)) fun σ H Q u => comp_lc g hix u

/-! ### statements -/
def PostS (G : Gx) (r : Rho) (H : Hp) (D : Ends) (EX : XK) : RS → Prop
  | .nx s h => ∀ r' H' σ', Step G r H r' H' → Sim G r' h H' → SlR G r' H' s σ' → D.nx σ' H'
  | .rt w h => ∀ r' H' v, Step G r H r' H' → Sim G r' h H' → RelW G r' H' w v → D.rt v H'
  | .bk s h => ∀ r' H' σ', Step G r H r' H' → Sim G r' h H' → SlR G r' H' s σ' → D.bk σ' H'
  | .ct s h => ∀ r' H' σ', Step G r H r' H' → Sim G r' h H' → SlR G r' H' s σ' → D.ct σ' H'
  | .ex c fs _ h => ∀ r' H' d fv, Step G r H r' H' → Sim G r' h H' → H' d = some (.xd fv) → RelF G r' H' fs fv → EX (.ref (G.ca c)) (some d) H'
  | .no => False
theorem PostS.step {r r1 : Rho} {H H1 : Hp} {D : Ends} {x : RS} (p : PostS G r H D EX x) (s : Step G r H r1 H1) : PostS G r1 H1 D EX x := by
  cases x with
  | nx a h => intro r' H' b st; exact p r' H' b (s.trans st)
  | rt a h => intro r' H' b st; exact p r' H' b (s.trans st)
  | bk a h => intro r' H' b st; exact p r' H' b (s.trans st)
  | ct a h => intro r' H' b st; exact p r' H' b (s.trans st)
  | ex c fs s' h => intro r' H' d fv st; exact p r' H' d fv (s.trans st)
  | no => exact p
theorem PostS.of {r : Rho} {H : Hp} {D : Ends} {γ δ : Type} {rel' : Rho → Hp → γ → δ → Prop} {K : δ → Hp → Prop} {x : R γ} {s : Sl} {f : γ → Hh → RS} (p : PostS G r H D EX (x.toS s f))
    (k : ∀ r1 H1 h1 a b, Step G r H r1 H1 → Sim G r1 h1 H1 → rel' r1 H1 a b → PostS G r1 H1 D EX (f a h1) → K b H1) : Post G r H rel' K EX x := by
  cases x with
  | ok a h => intro r' H' b st S q; exact k r' H' h a b st S q (PostS.step (x := f a h) p st)
  | ex c fs h => exact p
  | no => exact p
def US (G : Gx) (EX : XK) (f : Sl → Hh → RS) : TS := fun D σ H => ∃ r s h, Sim G r h H ∧ SlR G r H s σ ∧ PostS G r H D EX (f s h)
theorem PostS.ofU {r : Rho} {s : Sl} {h : Hh} {σ : St} {H : Hp} {D : Ends} {γ δ : Type} {rel' : Rho → Hp → γ → δ → Prop} {K : δ → Hp → Prop} {x : Sl → Hh → R γ} {f : γ → Hh → RS} (S : Sim G r h H) (L : SlR G r H s σ) (p : PostS G r H D EX ((x s h).toS s f))
    (k : ∀ r1 H1 h1 a b, Step G r H r1 H1 → Sim G r1 h1 H1 → rel' r1 H1 a b → PostS G r1 H1 D EX (f a h1) → K b H1) : UU G EX rel' x σ H K := ⟨r, s, h, S, L, p.of k⟩
/-- a def's body: its own loops may pass exceptions -/
structure GdS (G : Gx) (Γ : Gm) (m : Nat) (X : Cx) : Prop where
  gd : Gd G Γ m X
  po : PassesOwn (model X.prog X.w) X.A X.env X.xe
def SS (G : Gx) (EX : XK) (C : Cal) (Γ : Gm) (m : Nat) (st : Stmt) (i : Mi.S) : Prop := ∀ X, GdS G Γ m X → PS X st (US G EX (evS C i))
def SSs (G : Gx) (EX : XK) (C : Cal) (Γ : Gm) (m : Nat) (st : List Stmt) (i : Ss) : Prop := ∀ X, GdS G Γ m X → PSs X st (US G EX (evSs C i))
theorem weakS {X : Cx} {e : Stmt} {t t' : TS} (h : PS X e t) (w : ∀ D σ H, t' D σ H → t D σ H) : PS X e t' := ⟨fun pins s σ H D I q => h.run pins s σ H D I (w _ _ _ q)⟩
theorem weakSs {X : Cx} {e : List Stmt} {t t' : TS} (h : PSs X e t) (w : ∀ D σ H, t' D σ H → t D σ H) : PSs X e t' := ⟨fun pins s σ H D I q => h.run pins s σ H D I (w _ _ _ q)⟩
theorem sss_nil : SSs G EX C Γ m [] .nil := fun X g => weakSs pss_nil fun D σ H ⟨r, s, h, S, L, p⟩ => by
  simp only [evSs] at p
  exact p r H σ Step.refl S L
theorem sss_cons {a : Stmt} {rest : List Stmt} {i : Mi.S} {is : Ss} (ha : SS G EX C Γ m a i) (hs : SSs G EX C Γ m rest is) : SSs G EX C Γ m (a :: rest) (.cons i is) := fun X g =>
  weakSs (pss_cons (ha X g) (hs X g)) fun D σ H ⟨r, s, h, S, L, p⟩ => by
    simp only [evSs] at p
    refine ⟨r, s, h, S, L, ?_⟩
    cases e : evS C i s h with
    | nx s1 h1 =>
      rw [e] at p
      intro r1 H1 σ1 st S1 L1
      exact ⟨r1, s1, h1, S1, L1, PostS.step (x := evSs C is s1 h1) p st⟩
    | rt w h1 => rw [e] at p; exact p
    | bk w h1 => rw [e] at p; exact p
    | ct w h1 => rw [e] at p; exact p
    | ex c fs s1 h1 => rw [e] at p; exact p
    | no => rw [e] at p; exact p
theorem s_pass {p : Pos} : SS G EX C Γ m (.Pass p) .pass := fun X g => weakS ps_pass fun D σ H ⟨r, s, h, S, L, p⟩ => by
  simp only [evS] at p
  exact p r H σ Step.refl S L
theorem s_brk {p : Pos} : SS G EX C Γ m (.Break p) .brk := fun X g => weakS ps_break fun D σ H ⟨r, s, h, S, L, p⟩ => by
  simp only [evS] at p
  exact p r H σ Step.refl S L
theorem s_cont {p : Pos} : SS G EX C Γ m (.Continue p) .cont := fun X g => weakS ps_continue fun D σ H ⟨r, s, h, S, L, p⟩ => by
  simp only [evS] at p
  exact p r H σ Step.refl S L
theorem s_never {st : Stmt} : SS G EX C Γ m st .never := fun X g => weakS ps_never fun D σ H ⟨r, s, h, S, L, p⟩ => by
  simp only [evS] at p
  exact p
theorem s_doc {x j p p'} : SS G EX C Γ m (.Expr (.Constant (.str x) j p) p') .pass := fun X g => weakS ps_doc fun D σ H ⟨r, s, h, S, L, p⟩ => by
  simp only [evS] at p
  exact p r H σ Step.refl S L
theorem s_expr {a : Expr} {i : E} {p : Pos} (ha : SE G EX C Γ m a i) (hn : noComp a = true) : SS G EX C Γ m (.Expr a p) (.expr i) := fun X g =>
  weakS (ps_expr (ha X g.gd) (noComp_sw hn _ _ _)) fun D σ H ⟨r, s, h, S, L, p⟩ => by
    simp only [evS] at p
    exact PostS.ofU S L p fun r1 H1 h1 a b st S1 q p1 => p1 r1 H1 σ Step.refl S1 (L.step st)
theorem s_ret {a : Expr} {i : E} {p : Pos} (ha : SE G EX C Γ m a i) : SS G EX C Γ m (.Return (some a) p) (.ret i) := fun X g =>
  weakS (ps_ret (ha X g.gd)) fun D σ H ⟨r, s, h, S, L, p⟩ => by
    simp only [evS] at p
    exact PostS.ofU S L p fun r1 H1 h1 a b st S1 q p1 => p1 r1 H1 b Step.refl S1 q
theorem s_retN {p : Pos} : SS G EX C Γ m (.Return none p) .retN := fun X g => weakS ps_retN fun D σ H ⟨r, s, h, S, L, p⟩ => by
  simp only [evS] at p
  exact p r H .non Step.refl S .non
theorem s_if {c : Expr} {a b : List Stmt} {i : E} {x y : Ss} {p : Pos} (hc : STt G EX C Γ m c i) (ha : SSs G EX C Γ m a x) (hb : SSs G EX C Γ m b y) : SS G EX C Γ m (.If c a b p) (.ifS i x y) := fun X g =>
  weakS (ps_if (hc X g.gd) (ha X g) (hb X g)) fun D σ H ⟨r, s, h, S, L, p⟩ => by
    simp only [evS] at p
    refine PostS.ofU S L p fun r1 H1 h1 k b st S1 q p1 => ?_
    subst q
    cases k with
    | true => exact ⟨r1, s, h1, S1, L.step st, p1⟩
    | false => exact ⟨r1, s, h1, S1, L.step st, p1⟩
/-! ### stores -/
theorem asgU {i : E} {t : Tg} {r : Rho} {s : Sl} {h : Hh} {σ : St} {H : Hp} {D : Ends} (S : Sim G r h H) (L : SlR G r H s σ) (p : PostS G r H D EX (evS C (.asg t i) s h)) : tAsg (UU G EX (RelW G) (evE C i)) (UG G EX C t) D σ H := by
  simp only [evS] at p
  refine PostS.ofU S L p fun r1 H1 h1 a b st S1 q p1 => ?_
  exact ⟨r1, s, h1, a, S1, L.step st, q, PostS.of p1 fun r2 H2 h2 s2 σ2 st2 S2 q2 p2 => p2 r2 H2 σ2 Step.refl S2 q2.1⟩
/-- no exchange of stores -/
def isTL : Expr → Bool
  | .Tuple .. => true | .List .. => true | _ => false
def noSwap (t e : Expr) : Bool := match t, e with
  | .Tuple ts _ _, .Tuple vs _ _ => !(ts.length == 2 || ts.length == 3) || vs.length != ts.length
  | .Tuple .., _ => true
  | .List .., _ => !isTL e
  | _, _ => true
theorem noSwap_tt {ts vs : List Expr} {k k2 : Nat} {p p2 : Pos} (h : (!(ts.length == 2 || ts.length == 3) || vs.length != ts.length) = true) (env : Env) : swappedStores [.Tuple ts k p] (.Tuple vs k2 p2) env = pure none := by
  show (if (!(ts.length == 2 || ts.length == 3) || vs.length != ts.length || env.blockKind != .function) = true then pure none else _) = pure none
  rw [if_pos (by rw [h]; rfl)]
theorem noSwap_t {ts : List Expr} {k : Nat} {p : Pos} {e : Expr} (h : noSwap (.Tuple ts k p) e = true) (env : Env) : swappedStores [.Tuple ts k p] e env = pure none := by
  cases e <;> first | rfl | exact noSwap_tt h env
theorem noSwap_l {ts : List Expr} {p : Pos} {e : Expr} (h : noSwap (.List ts p) e = true) (env : Env) : swappedStores [.List ts p] e env = pure none := by
  cases e <;> first | rfl | cases h
theorem noSwap_is {t e : Expr} (h : noSwap t e = true) (env : Env) : swappedStores [t] e env = pure none := by
  cases t <;> first | exact noSwap_t h env | exact noSwap_l h env | rfl
theorem s_asg {t e : Expr} {tg : Tg} {i : E} {p : Pos} (ht : SG G EX C Γ m t tg) (he : SE G EX C Γ m e i) (hn : noComp e = true) (hs : noSwap t e = true) : SS G EX C Γ m (.Assign [t] e p) (.asg tg i) := fun X g =>
  weakS (ps_asg (he X g.gd) (ht.2 X g.gd) (noComp_sw hn _ _ _) (noSwap_is hs _) (by rw [assign_cons ht.1]; rfl)) fun D σ H ⟨r, s, h, S, L, p⟩ => asgU S L p
end
end Mi

set_option Elab.async false
set_option linter.all false
set_option maxRecDepth 100000
set_option maxHeartbeats 4000000
/-! More stores, loops. -/
namespace Mi
open PySem PySem.Spec PyProof.Rows L2
def isStarB : Expr → Bool
  | .Starred .. => true
  | _ => false
def lineOf (ts : List Expr) : Nat := (ts.head?.map (·.pos.line)).getD 0
def parN (sc : Scope) (ts : List Expr) : List Str := ts.filterMap fun
  | .Name id pos => if sc.names.lookup id == some .local && pos.line == lineOf ts then some id else none
  | _ => none
def parB (sc : Scope) (ts vs : List Expr) : Bool :=
  (ts.length == 2 || ts.length == 3) && vs.length == ts.length && (match sc.kind with | .function => true | _ => false) && !(vs.any isStarB) && (parN sc ts).length == ts.length && (parN sc ts).eraseDups.length == (parN sc ts).length && !(vs.all (foldedForSure 8)) && !(vs.all (constantsAlone 8))
theorem par_is {ts vs : List Expr} {k k2 : Nat} {p p2 : Pos} {env : Env} (h : parB env.scope ts vs = true) : swappedStores [.Tuple ts k p] (.Tuple vs k2 p2) env = pure (some (parN env.scope ts)) := by
  simp only [parB, Bool.and_eq_true, Bool.not_eq_true', beq_iff_eq] at h
  obtain ⟨⟨⟨⟨⟨⟨⟨h1, h2⟩, h3⟩, h4⟩, h5⟩, h6⟩, h7⟩, h8⟩ := h
  have hk : env.scope.kind = .function := by
    cases e : env.scope.kind <;> rw [e] at h3 <;> first | rfl | cases h3
  have hb : (env.blockKind != .function) = false := by
    unfold Env.blockKind
    rw [hk]; rfl
  show (if (!(ts.length == 2 || ts.length == 3) || vs.length != ts.length || env.blockKind != .function) = true then pure none else
    if (vs.any isStarB) = true then pure none else
    if ((parN env.scope ts).length != ts.length || (parN env.scope ts).eraseDups.length != (parN env.scope ts).length) = true then pure none else
    if vs.all (foldedForSure 8) = true then pure none else
    if vs.all (constantsAlone 8) = true then _ else pure (some (parN env.scope ts))) = _
  rw [if_neg (by rw [h1, hb, h2]; simp), if_neg (by rw [h4]; simp), if_neg (by rw [h6]; simp [h5]), if_neg (by rw [h7]; simp), if_neg (by rw [h8]; simp)]
/-- no exchange: not two or three, a starred one, a name that is no local, a name twice, constants alone -/
def noSwapS (sc : Scope) (t e : Expr) : Bool := match t, e with
  | .Tuple ts _ _, .Tuple vs _ _ => !(ts.length == 2 || ts.length == 3) || vs.length != ts.length || vs.any isStarB || (parN sc ts).length != ts.length || (parN sc ts).eraseDups.length != (parN sc ts).length || vs.all (foldedForSure 8)
  | _, _ => noSwap t e
theorem noSwapS_is {t e : Expr} {env : Env} (h : noSwapS env.scope t e = true) : swappedStores [t] e env = pure none := by
  unfold noSwapS at h
  split at h
  · rename_i ts k p vs k2 p2
    show (if (!(ts.length == 2 || ts.length == 3) || vs.length != ts.length || env.blockKind != .function) = true then pure none else
      if (vs.any isStarB) = true then pure none else
      if ((parN env.scope ts).length != ts.length || (parN env.scope ts).eraseDups.length != (parN env.scope ts).length) = true then pure none else
      if vs.all (foldedForSure 8) = true then pure none else
      if vs.all (constantsAlone 8) = true then _ else pure (some (parN env.scope ts))) = _
    by_cases c1 : (!(ts.length == 2 || ts.length == 3) || vs.length != ts.length || env.blockKind != .function) = true
    · rw [if_pos c1]
    rw [if_neg c1]
    by_cases c2 : (vs.any isStarB) = true
    · rw [if_pos c2]
    rw [if_neg c2]
    by_cases c3 : ((parN env.scope ts).length != ts.length || (parN env.scope ts).eraseDups.length != (parN env.scope ts).length) = true
    · rw [if_pos c3]
    rw [if_neg c3]
    by_cases c4 : vs.all (foldedForSure 8) = true
    · rw [if_pos c4]
    exfalso
    simp only [Bool.or_eq_true] at h c1 c3
    rcases h with ((((h | h) | h) | h) | h) | h
    · exact c1 (.inl (.inl h))
    · exact c1 (.inl (.inr h))
    · exact c2 h
    · exact c3 (.inl h)
    · exact c3 (.inr h)
    · exact c4 h
  · exact noSwap_is h env
section
variable {G : Gx} {EX : XK} {C : Cal} {Γ : Gm} {m l n : Nat} {X : Cx}
theorem s_par2 {x y : Str} {a b : Expr} {i j : Nat} {u v : E} {px py pt pos pt2 : Pos} {kt k2 : Nat} (hi : Γ.N[i]? = some x) (hj : Γ.N[j]? = some y) (hij : i ≠ j) (hx : Γ.sc.names.lookup x = some .local) (hy : Γ.sc.names.lookup y = some .local)
    (ha : SE G EX C Γ m a u) (hb : SE G EX C Γ m b v) (n1 : notStar a = true) (n2 : notStar b = true) (hp : parB Γ.sc [.Name x px, .Name y py] [a, b] = true) (hl : py.line = px.line) :
    SS G EX C Γ m (.Assign [.Tuple [.Name x px, .Name y py] kt pt] (.Tuple [a, b] k2 pt2) pos) (.par [i, j] (.cons u (.cons v .nil))) := fun X g => by
  have hs := ss_cons ha (ss_cons hb ss_nil n2) n1
  have hw : swappedStores [.Tuple [.Name x px, .Name y py] kt pt] (.Tuple [a, b] k2 pt2) X.env = pure (some [x, y]) := by
    rw [par_is (by rw [g.gd.sc]; exact hp)]
    have : parN X.env.scope [.Name x px, .Name y py] = [x, y] := by
      rw [g.gd.sc]
      simp [parN, hx, hy, lineOf, hl, Expr.pos]
    rw [this]
  refine weakS (ps_par g.gd.calm (by rw [g.gd.N]; exact g.gd.nd) (by rw [g.gd.N]; exact hi) (by rw [g.gd.N]; exact hj) hij (by rw [g.gd.sc]; exact hx) (by rw [g.gd.sc]; exact hy) (hs.run X g.gd) hw rfl) fun D σ H ⟨r, s, h, S, L, p⟩ => ?_
  simp only [evS] at p
  refine PostS.ofU S L p fun r1 H1 h1 ws vs st S1 q p1 => ?_
  cases q with
  | nil => exact False.elim p1
  | cons q1 t =>
    cases t with
    | nil => exact False.elim p1
    | cons q2 t =>
      cases t with
      | cons => exact False.elim p1
      | nil => exact ⟨_, _, rfl, p1 r1 H1 _ Step.refl S1 (((L.step st).set q1).set q2)⟩
theorem s_par3 {x y z : Str} {a b c : Expr} {i j k : Nat} {u v w : E} {px py pz pt pos pt2 : Pos} {kt k2 : Nat} (hi : Γ.N[i]? = some x) (hj : Γ.N[j]? = some y) (hk : Γ.N[k]? = some z) (hij : i ≠ j) (hik : i ≠ k) (hjk : j ≠ k) (hx : Γ.sc.names.lookup x = some .local) (hy : Γ.sc.names.lookup y = some .local) (hz : Γ.sc.names.lookup z = some .local)
    (ha : SE G EX C Γ m a u) (hb : SE G EX C Γ m b v) (hc : SE G EX C Γ m c w) (n1 : notStar a = true) (n2 : notStar b = true) (n3 : notStar c = true) (hp : parB Γ.sc [.Name x px, .Name y py, .Name z pz] [a, b, c] = true) (hl : py.line = px.line) (hl2 : pz.line = px.line) :
    SS G EX C Γ m (.Assign [.Tuple [.Name x px, .Name y py, .Name z pz] kt pt] (.Tuple [a, b, c] k2 pt2) pos) (.par [i, j, k] (.cons u (.cons v (.cons w .nil)))) := fun X g => by
  have hs := ss_cons ha (ss_cons hb (ss_cons hc ss_nil n3) n2) n1
  have hw : swappedStores [.Tuple [.Name x px, .Name y py, .Name z pz] kt pt] (.Tuple [a, b, c] k2 pt2) X.env = pure (some [x, y, z]) := by
    rw [par_is (by rw [g.gd.sc]; exact hp)]
    have : parN X.env.scope [.Name x px, .Name y py, .Name z pz] = [x, y, z] := by
      rw [g.gd.sc]
      simp [parN, hx, hy, hz, lineOf, hl, hl2, Expr.pos]
    rw [this]
  refine weakS (ps_par3 g.gd.calm (by rw [g.gd.N]; exact g.gd.nd) (by rw [g.gd.N]; exact hi) (by rw [g.gd.N]; exact hj) (by rw [g.gd.N]; exact hk) hij hik hjk (by rw [g.gd.sc]; exact hx) (by rw [g.gd.sc]; exact hy) (by rw [g.gd.sc]; exact hz) (hs.run X g.gd) hw rfl) fun D σ H ⟨r, s, h, S, L, p⟩ => ?_
  simp only [evS] at p
  refine PostS.ofU S L p fun r1 H1 h1 ws vs st S1 q p1 => ?_
  cases q with
  | nil => exact False.elim p1
  | cons q1 t =>
    cases t with
    | nil => exact False.elim p1
    | cons q2 t =>
      cases t with
      | nil => exact False.elim p1
      | cons q3 t =>
        cases t with
        | cons => exact False.elim p1
        | nil => exact ⟨_, _, _, rfl, p1 r1 H1 _ Step.refl S1 ((((L.step st).set q1).set q2).set q3)⟩
theorem s_asgS {t e : Expr} {tg : Tg} {i : E} {p : Pos} (ht : SG G EX C Γ m t tg) (he : SE G EX C Γ m e i) (hn : noComp e = true) (hs : noSwapS Γ.sc t e = true) : SS G EX C Γ m (.Assign [t] e p) (.asg tg i) := fun X g =>
  weakS (ps_asg (he X g.gd) (ht.2 X g.gd) (noComp_sw hn _ _ _) (noSwapS_is (by rw [g.gd.sc]; exact hs)) (by rw [assign_cons ht.1]; rfl)) fun D σ H ⟨r, s, h, S, L, p⟩ => asgU S L p
/-! ### o.f = e -/
theorem fld_sw {value o : Expr} {f : Str} {p : Pos} {l : Nat} {env : Env} : swapsWith value (some (.Attribute o f p)) l env = pure false := by
  cases value <;> rfl
theorem s_fld {o e : Expr} {x : Str} {f : Nat} {io i : E} {pos p : Pos} (cs : CsF G C n) (hx : G.nm[f]? = some x) (ho : SE G EX C Γ m o io) (he : SE G EX C Γ m e i) : SS G EX C Γ m (.Assign [.Attribute o x p] e pos) (.asg (.fld io f) i) := fun X g =>
  weakS (ps_fld (ho X g.gd) (he X g.gd) fld_sw) fun D σ H ⟨r, s, h, S, L, p⟩ => by
    simp only [evS, evG] at p
    refine PostS.ofU S L p fun r1 H1 h1 w v st S1 q p1 => ?_
    have p1' : PostS G r1 H1 D EX ((evE C io s h1).toS s fun x h2 => (match setFld C x f w h2 with | some h3 => R.ok s h3 | none => R.no : R Sl).toS s fun s1 h2 => .nx s1 h2) := by
      cases e : evE C io s h1 with
      | ok a h2 => rw [e] at p1; exact p1
      | ex c fs h2 => rw [e] at p1; exact p1
      | no => rw [e] at p1; exact p1
    refine PostS.ofU S1 (L.step st) p1' fun r2 H2 h2 a b st2 S2 q2 p2 => ?_
    cases e : setFld C a f w h2 with
    | none => rw [e] at p2; exact False.elim p2
    | some h3 =>
      rw [e] at p2
      unfold setFld at e
      split at e
      · split at e
        · rename_i nn c fs g1
          split at e
          · rename_i qc eq
            split at e
            · rename_i e1 e2
              split at e
              · rename_i hl
                cases e
                obtain ⟨pa, rfl, ea⟩ := q2.inv
                obtain ⟨dx, fv, a1, b1⟩ := S2.ins ea g1
                rw [b1.length] at hl
                have cf := cs.cl c qc eq
                obtain ⟨S3, st3⟩ := S2.put (o := .ins c (putFW f w fs)) (ho := .ins (G.ca c) dx (putF x v fv)) ea g1 rfl rfl fun st => ⟨dx, _, upd_same, (b1.put cs.nd hx (q.step st2)).step st⟩
                refine ⟨pa, _, dx, fv, rfl, a1, by rw [g.gd.K]; exact cf.cls, by rw [g.gd.K]; exact cf.na f x hx e2 e1, hl, ?_⟩
                exact p2 _ _ σ st3 S3 (((L.step st).step st2).step st3)
              · cases e
            · cases e
          · cases e
        · cases e
      · cases e
/-! ### name = [..] -/
theorem s_setLc {y : Str} {k : Nat} {py : Pos} {elt tg iter : Expr} {ifs : List Expr} {scope : Scope} {own : List (Str × Nat)} {pos spos : Pos} {t : Tg} {it : It} {cd : Eo} {el : E} (hy : Γ.N[k]? = some y) (hyl : Γ.sc.names.lookup y = some .local) (hl : (py.line == pos.line) = true)
    (hsw : (scope.names.any fun (n, k) => n == y && (k == .local || k == .cell)) = false) (ob : blkC Γ.N Γ.sc scope own = true) (hix : (tgIx t).all (fun i => (own.map (·.2)).contains i) = true)
    (hi : SI G EX C Γ m tg iter it) (hg : SG G EX C (Γ.blk scope) m tg t) (hc : SC G EX C (Γ.blk scope) m ifs cd) (he : SE G EX C (Γ.blk scope) m elt el) :
    SS G EX C Γ m (.Assign [.Name y py] (.ListComp elt [⟨tg, iter, ifs, 0⟩] scope pos) spos) (.asg (.name k) (.comp el t it cd (own.map (·.2)))) := fun X g =>
  weakS (ps_setLc g.gd.calm (by rw [g.gd.N]; exact g.gd.nd) (by rw [g.gd.N]; exact hy) (by rw [g.gd.sc]; exact hyl) (sw_true (by rw [g.gd.sc]; exact g.gd.kind) (by rw [g.gd.sc]; exact hyl) hl hsw) (hi.run X g.gd) (g.gd.blkOk ob)
    (fun s H D cl fp => hg.2 _ (g.gd.blk (g.gd.blkOk ob).kind s H D cl fp)) (fun s H D cl fp => hc _ (g.gd.blk (g.gd.blkOk ob).kind s H D cl fp))
    (fun s H D cl fp => he _ (g.gd.blk (g.gd.blkOk ob).kind s H D cl fp)) (hi.fo X.env)) fun D σ H ⟨r, s, h, S, L, p⟩ => by
    simp only [evS] at p
    refine comp_lc g.gd hix (PostS.ofU S L p fun r1 H1 h1 w v st S1 q p1 => ?_)
    simp only [evG, R.toS] at p1
    exact p1 r1 H1 _ Step.refl S1 ((L.step st).set q)
/-! ### loops -/
theorem s_for {tg iter : Expr} {body : List Stmt} {t : Tg} {it : It} {b : Ss} {pos : Pos} (hi : SI G EX C Γ m tg iter it) (ht : SG G EX C Γ m tg t) (hb : SSs G EX C Γ m body b) : SS G EX C Γ m (.For tg iter body [] pos) (.forS t it b) := fun X g =>
  weakS (ps_for g.po g.gd.calm (hi.run X g.gd) (ht.2 X g.gd) (hb X g) (hi.fo X.env)) fun D σ H ⟨r, s, h, S, L, p⟩ => by
    simp only [evS] at p
    refine PostS.ofU S L p fun r1 H1 h1 j t0 st0 S1 q1 p1 => ?_
    refine ⟨fun i k σ H => ∃ r s h, Sim G r h H ∧ SlR G r H s σ ∧ RelJ G r H j t0 ∧ PostS G r H D EX (forL (evG C t) (evSs C b) j k i s h), ⟨_, r1, s, h1, S1, L.step st0, q1, p1⟩, ?_⟩
    intro i k σ H ⟨r, s, h, S, L, q, p⟩
    cases k with
    | zero => exact False.elim p
    | succ k =>
      simp only [forL] at p
      cases e : j.next i h with
      | none => rw [e] at p; exact False.elim p
      | some o =>
        rw [e] at p
        cases o with
        | none => exact .inl ⟨q.stop S e, p r H σ Step.refl S L⟩
        | some w =>
          refine .inr ⟨(q.go S e).1, fun σ H => ∃ m', m' < k + 1 ∧ ∃ r s h, Sim G r h H ∧ SlR G r H s σ ∧ RelJ G r H j t0 ∧ PostS G r H D EX (forL (evG C t) (evSs C b) j m' (i + 1) s h), fun σ' H' z => z, fun x H' y => ?_⟩
          obtain ⟨st, S', q'⟩ := (q.go S e).2 x H' y
          dsimp only at p
          refine ⟨r, s, h, w, S', L.step st, q', PostS.of (PostS.step p st) fun r2 H2 h2 s2 σ2 st2 S2 q2 p2 => ?_⟩
          refine ⟨r2, s2, h2, S2, q2.1, ?_⟩
          have q0 := (q.step st).step st2
          cases eb : evSs C b s2 h2 with
          | nx s3 h3 =>
            rw [eb] at p2
            intro r3 H3 σ3 st3 S3 L3
            exact ⟨k, Nat.lt_succ_self k, r3, s3, h3, S3, L3, q0.step st3, PostS.step (x := forL (evG C t) (evSs C b) j k (i + 1) s3 h3) p2 st3⟩
          | ct s3 h3 =>
            rw [eb] at p2
            intro r3 H3 σ3 st3 S3 L3
            exact ⟨k, Nat.lt_succ_self k, r3, s3, h3, S3, L3, q0.step st3, PostS.step (x := forL (evG C t) (evSs C b) j k (i + 1) s3 h3) p2 st3⟩
          | bk s3 h3 => rw [eb] at p2; exact p2
          | rt w h3 => rw [eb] at p2; exact p2
          | ex c fs s3 h3 => rw [eb] at p2; exact p2
          | no => rw [eb] at p2; exact p2
theorem s_whl {c : Expr} {body : List Stmt} {i : E} {b : Ss} {pos : Pos} (hc : STt G EX C Γ m c i) (hb : SSs G EX C Γ m body b) : SS G EX C Γ m (.While c body [] pos) (.whl i b) := fun X g =>
  weakS (ps_while g.po (hc X g.gd) (hb X g)) fun D σ H ⟨r, s, h, S, L, p⟩ => by
    simp only [evS] at p
    refine ⟨fun k σ H => ∃ r s h, Sim G r h H ∧ SlR G r H s σ ∧ PostS G r H D EX (whlL (evT C i) (evSs C b) k s h), ⟨_, r, s, h, S, L, p⟩, ?_⟩
    intro k σ H ⟨r, s, h, S, L, p⟩
    cases k with
    | zero => exact False.elim p
    | succ k =>
      simp only [whlL] at p
      refine PostS.ofU S L p fun r2 H2 h2 x y st2 S2 q2 p2 => ?_
      subst q2
      have L2 := L.step st2
      cases x with
      | false => exact p2 r2 H2 σ Step.refl S2 L2
      | true =>
        refine ⟨fun σ H => ∃ m', m' < k + 1 ∧ ∃ r s h, Sim G r h H ∧ SlR G r H s σ ∧ PostS G r H D EX (whlL (evT C i) (evSs C b) m' s h), fun σ' H' z => z, r2, s, h2, S2, L2, ?_⟩
        dsimp only at p2
        cases eb : evSs C b s h2 with
        | nx s3 h3 =>
          rw [eb] at p2
          intro r3 H3 σ3 st3 S3 L3
          exact ⟨k, Nat.lt_succ_self k, r3, s3, h3, S3, L3, PostS.step (x := whlL (evT C i) (evSs C b) k s3 h3) p2 st3⟩
        | ct s3 h3 =>
          rw [eb] at p2
          intro r3 H3 σ3 st3 S3 L3
          exact ⟨k, Nat.lt_succ_self k, r3, s3, h3, S3, L3, PostS.step (x := whlL (evT C i) (evSs C b) k s3 h3) p2 st3⟩
        | bk s3 h3 => rw [eb] at p2; exact p2
        | rt w h3 => rw [eb] at p2; exact p2
        | ex c fs s3 h3 => rw [eb] at p2; exact p2
        | no => rw [eb] at p2; exact p2
end
end Mi

set_option Elab.async false
set_option linter.all false
set_option maxRecDepth 100000
set_option maxHeartbeats 4000000
/-! The text's form against the syntax tree: a checker. -/
namespace Mi
open PySem PySem.Spec PyProof.Rows L2

mutual
def wEq : W → W → Bool
  | .non, .non => true
  | .bl a, .bl b => a == b
  | .int a, .int b => a == b
  | .str a, .str b => decide (a = b)
  | .tup a, .tup b => wsEq a b
  | .ref a, .ref b => a == b
  | .fn a, .fn b => a == b
  | .cl a, .cl b => a == b
  | _, _ => false
def wsEq : List W → List W → Bool
  | [], [] => true
  | a :: as, b :: bs => wEq a b && wsEq as bs
  | _, _ => false
end
mutual
theorem wEq_eq : ∀ {a b : W}, wEq a b = true → a = b
  | .non, b, h => by cases b <;> simp [wEq] at h; rfl
  | .bl x, b, h => by cases b <;> simp [wEq] at h; rw [h]
  | .int x, b, h => by cases b <;> simp [wEq] at h; rw [h]
  | .str x, b, h => by cases b <;> simp [wEq] at h; rw [h]
  | .tup x, b, h => by cases b <;> simp [wEq] at h; rw [wsEq_eq h]
  | .ref x, b, h => by cases b <;> simp [wEq] at h; rw [h]
  | .fn x, b, h => by cases b <;> simp [wEq] at h; rw [h]
  | .cl x, b, h => by cases b <;> simp [wEq] at h; rw [h]
theorem wsEq_eq : ∀ {a b : List W}, wsEq a b = true → a = b
  | [], b, h => by cases b <;> simp [wsEq] at h; rfl
  | x :: xs, b, h => by
    cases b <;> simp [wsEq] at h
    rw [wEq_eq h.1, wsEq_eq h.2]
end
/-- the module's tables -/
structure Tb where
  nm : List Str
  fn : List (Str × Nat)
  cl : List (Str × Nat)
  cs : List (Str × W)
  fr : List Str
  ms : List Nat
  isc : List Nat
def glB (Γ : Gm) (x : Str) : Bool := match Γ.sc.names.lookup x with
  | some .globalImplicit => true
  | _ => false
theorem glB_ok {Γ : Gm} {x : Str} (h : glB Γ x = true) : GL Γ x := by
  unfold glB at h
  split at h
  · assumption
  · cases h
def lcB (Γ : Gm) (x : Str) : Bool := match Γ.sc.names.lookup x with
  | some .local => true
  | _ => false
theorem lcB_ok {Γ : Gm} {x : Str} (h : lcB Γ x = true) : Γ.sc.names.lookup x = some .local := by
  unfold lcB at h
  split at h
  · assumption
  · cases h
def cstB : W → Const → Bool
  | .non, .none => true
  | .bl b, .bool c => b == c
  | .int i, .int j => i == j
  | .str x, .str y => decide (x = y)
  | _, _ => false
def bopOf : Operator → Option Bop
  | .Add => some .add | .Sub => some .sub | .Mult => some .mul | .FloorDiv => some .fdiv | .Mod => some .mod | .Pow => some .pow | .LShift => some .shl | .RShift => some .shr | .BitAnd => some .band | .BitOr => some .bor | .BitXor => some .bxor
  | _ => none
def bopB (o : Operator) (b : Bop) : Bool := decide (bopOf o = some b)
theorem bopB_ok {o : Operator} {b : Bop} (h : bopB o b = true) : o = bopA b := by
  simp only [bopB, decide_eq_true_eq] at h
  cases o <;> simp [bopOf] at h <;> subst h <;> rfl
def copOf : CmpOp → Cop
  | .Eq => .eq | .NotEq => .ne | .Lt => .lt | .LtE => .le | .Gt => .gt | .GtE => .ge | .Is => .is | .IsNot => .isn | .In => .isin | .NotIn => .nin
def copB (o : CmpOp) (b : Cop) : Bool := decide (copOf o = b)
theorem copB_ok {o : CmpOp} {b : Cop} (h : copB o b = true) : o = copA b := by
  simp only [copB, decide_eq_true_eq] at h
  subst h
  cases o <;> rfl
def isBool : Expr → Bool
  | .BoolOp .. => true
  | _ => false
def tyB (tb : Tb) (Γ : Gm) (t : Ty) (a : Expr) : Bool := match a with
  | .Name x _ => match t with
    | .own k => glB Γ x && nmOk x && decide (tb.cl.lookup x = some k) && tb.isc.contains k
    | .bi b => decide (x = btN b) && glB Γ x && tb.fr.contains x
  | _ => false
def tysB (tb : Tb) (Γ : Gm) : List Ty → List Expr → Bool
  | [], [] => true
  | t :: ts, a :: as => tyB tb Γ t a && tysB tb Γ ts as
  | _, _ => false
def ownP (Γ : Gm) (own : List Nat) : List (Str × Nat) := own.map fun i => ((Γ.N[i]?).getD Str.empty, i)
/-- a test that is no test of its own is its value's truth -/
def tB (t : Bool) (a : Expr) : Bool := !t || plainT a
def frB (tb : Tb) (Γ : Gm) (x : Str) : Bool := glB Γ x && tb.fr.contains x

mutual
def ckE (tb : Tb) : E → Bool → Gm → Expr → Bool
  | .cst w, t, Γ, a => tB t a && match a with
    | .Constant c _ _ => cstB w c
    | _ => false
  | .var i, t, Γ, a => tB t a && match a with
    | .Name x _ => decide (Γ.N[i]? = some x) && visB Γ.sc x && nmOk x
    | _ => false
  | .glo w, t, Γ, a => tB t a && match a with
    | .Name x _ => glB Γ x && nmOk x && (match tb.cs.lookup x with
      | some w' => wEq w w'
      | none => false)
    | _ => false
  | .mut i, t, Γ, a => tB t a && ckE tb i false Γ a
  | .bin op i j, t, Γ, a => tB t a && match a with
    | .BinOp x o y _ => bopB o op && ckE tb i false Γ x && ckE tb j false Γ y
    | _ => false
  | .neg i, t, Γ, a => tB t a && match a with
    | .UnaryOp .USub x _ => ckE tb i false Γ x
    | _ => false
  | .notE i, t, Γ, a => match a with
    | .UnaryOp .Not x _ => ckE tb i t Γ x
    | _ => false
  | .andE i j, t, Γ, a => match a with
    | .BoolOp .And (x :: y :: rest) p => ckE tb i t Γ x && (match rest with
      | [] => ckE tb j t Γ y
      | z :: r => ckE tb j t Γ (.BoolOp .And (y :: z :: r) p))
    | _ => false
  | .orE i j, t, Γ, a => match a with
    | .BoolOp .Or (x :: y :: rest) p => ckE tb i t Γ x && (match rest with
      | [] => ckE tb j t Γ y
      | z :: r => ckE tb j t Γ (.BoolOp .Or (y :: z :: r) p))
    | _ => false
  | .cmp op i j, t, Γ, a => match a with
    | .Compare x [o] [y] _ => copB o op && ckE tb i false Γ x && ckE tb j false Γ y && notSet y
    | _ => false
  | .cmp2 op op' i j k, t, Γ, a => match a with
    | .Compare x [o, o'] [y, z] _ => copB o op && copB o' op' && ckE tb i false Γ x && ckE tb j false Γ y && ckE tb k false Γ z && notSet z
    | _ => false
  | .ife c i j, t, Γ, a => !t && match a with
    | .IfExp z x y _ => ckE tb c true Γ z && ckE tb i false Γ x && ckE tb j false Γ y
    | _ => false
  | .fld i f, t, Γ, a => tB t a && match a with
    | .Attribute o x _ => decide (tb.nm[f]? = some x) && ckE tb i false Γ o && plainB o
    | _ => false
  | .ix i j, t, Γ, a => tB t a && match a with
    | .Subscript x y _ => ckE tb i false Γ x && ckE tb j false Γ y && notSlice y
    | _ => false
  | .rev i, t, Γ, a => tB t a && match a with
    | .Subscript x (.Slice none none (some (.UnaryOp .USub (.Constant (.int k) _ _) _)) _) _ => decide (k = 1) && ckE tb i false Γ x
    | _ => false
  | .slc i l u, t, Γ, a => tB t a && match a with
    | .Subscript x (.Slice lo hi none _) _ => ckE tb i false Γ x && ckO tb l Γ lo && ckO tb u Γ hi
    | _ => false
  | .lst es, t, Γ, a => tB t a && match a with
    | .List xs _ => ckEs tb es Γ xs
    | _ => false
  | .tup es, t, Γ, a => tB t a && match a with
    | .Tuple xs _ _ => ckEs tb es Γ xs
    | _ => false
  | .dic0, t, Γ, a => tB t a && match a with
    | .Dict [] [] _ => true
    | _ => false
  | .dic _ _, _, _, _ => false
  | .call k es pm, t, Γ, a => tB t a && match a with
    | .Call (.Name x _) xs [] _ => pm.isEmpty && decide (tb.fn.lookup x = some k) && glB Γ x && nmOk x && ckEs tb es Γ xs
    | _ => false
  | .make k es pm, t, Γ, a => tB t a && match a with
    | .Call (.Name x _) xs [] _ => pm.isEmpty && decide (tb.cl.lookup x = some k) && glB Γ x && nmOk x && ckEs tb es Γ xs
    | _ => false
  | .meth i f es pm, t, Γ, a => tB t a && match a with
    | .Call (.Attribute o x apos) xs [] pos => pm.isEmpty && decide (tb.nm[f]? = some x) && tb.ms.contains f && ckE tb i false Γ o && ckEs tb es Γ xs && plainB o && decide (xs.length < 29) && (apos.endLine == pos.line)
    | _ => false
  | .callv _ _, _, _, _ => false
  | .bc b es, t, Γ, a => tB t a && match a with
    | .Call (.Name x _) (y :: ys) [] _ => decide (x = bcN b) && frB tb Γ x && ckEs tb es Γ (y :: ys)
    | _ => false
  | .bm b i es, t, Γ, a => tB t a && match a with
    | .Call (.Attribute o x apos) xs [] pos => decide (x = bmN b) && ckE tb i false Γ o && ckEs tb es Γ xs && plainB o && decide (xs.length < 29) && (apos.endLine == pos.line) && (match b with
      | .pop0 => xs.isEmpty
      | _ => !xs.isEmpty)
    | _ => false
  | .isi i tp ts, t, Γ, a => tB t a && match a with
    | .Call (.Name x _) [y, z] [] _ => decide (x = "isinstance") && frB tb Γ x && ckE tb i false Γ y && notStar y && (match tp with
      | false => tysB tb Γ ts [z]
      | true => match z with
        | .Tuple zs _ _ => tysB tb Γ ts zs && decide (ts.length ≤ 64) && !ts.isEmpty
        | _ => false)
    | _ => false
  | .rngL tp (.cons i .nil), t, Γ, a => tB t a && match a with
    | .Call (.Name x _) [.Call (.Name y _) [z] [] _] [] _ => decide (x = if tp then "tuple" else "list") && decide (y = "range") && frB tb Γ x && frB tb Γ y && ckE tb i false Γ z && notStar z
    | _ => false
  | .rngL tp (.cons i (.cons j .nil)), t, Γ, a => tB t a && match a with
    | .Call (.Name x _) [.Call (.Name y _) [z, z'] [] _] [] _ => decide (x = if tp then "tuple" else "list") && decide (y = "range") && frB tb Γ x && frB tb Γ y && ckE tb i false Γ z && notStar z && ckE tb j false Γ z' && notStar z'
    | _ => false
  | .rngL _ _, _, _, _ => false
  | .sset _, _, _, _ => false
  | .comp el tg it cd own, t, Γ, a => tB t a && match a with
    | .ListComp elt [⟨x, iter, ifs, as⟩] scope _ => (as == 0) && blkC Γ.N Γ.sc scope (ownP Γ own) && (tgIx tg).all (fun i => own.contains i) && ckI tb it Γ x iter && ckG tb tg (Γ.blk scope) x && ckC tb cd (Γ.blk scope) ifs && ckE tb el false (Γ.blk scope) elt
    | _ => false
def ckEs (tb : Tb) : Es → Gm → List Expr → Bool
  | .nil, _, xs => xs.isEmpty
  | .cons e es, Γ, xs => match xs with
    | x :: xs => ckE tb e false Γ x && ckEs tb es Γ xs && notStar x
    | [] => false
def ckO (tb : Tb) : Eo → Gm → Option Expr → Bool
  | .none, _, x => x.isNone
  | .some e, Γ, x => match x with
    | some a => ckE tb e false Γ a
    | none => false
def ckC (tb : Tb) : Eo → Gm → List Expr → Bool
  | .none, _, xs => xs.isEmpty
  | .some e, Γ, xs => match xs with
    | [x] => ckE tb e true Γ x
    | _ => false
def ckI (tb : Tb) : It → Gm → Expr → Expr → Bool
  | .seq e, Γ, _, a => ckE tb e false Γ a && notSet a
  | .rng1 e, Γ, _, a => match a with
    | .Call (.Name x _) [y] [] _ => decide (x = "range") && frB tb Γ x && ckE tb e false Γ y && notStar y
    | _ => false
  | .rng2 e e', Γ, _, a => match a with
    | .Call (.Name x _) [y, z] [] _ => decide (x = "range") && frB tb Γ x && ckE tb e false Γ y && notStar y && ckE tb e' false Γ z && notStar z
    | _ => false
  | .enm e, Γ, tg, a => match tg with
    | .Tuple _ _ _ => (match a with
      | .Call (.Name x _) [y] [] _ => decide (x = "enumerate") && frB tb Γ x && ckE tb e false Γ y && notStar y
      | _ => false)
    | _ => false
  | .zip e e', Γ, tg, a => match tg with
    | .Tuple _ _ _ => (match a with
      | .Call (.Name x _) [y, z] [] _ => decide (x = "zip") && frB tb Γ x && ckE tb e false Γ y && notStar y && ckE tb e' false Γ z && notStar z
      | _ => false)
    | _ => false
def ckG (tb : Tb) : Tg → Gm → Expr → Bool
  | .name i, Γ, a => match a with
    | .Name x _ => decide (Γ.N[i]? = some x) && locB Γ x
    | _ => false
  | .tup ts, Γ, a => match a with
    | .Tuple xs _ _ => ckGs tb ts Γ xs
    | _ => false
  | .sub o i, Γ, a => match a with
    | .Subscript x y _ => ckE tb o false Γ x && ckE tb i false Γ y && notSlice y
    | _ => false
  | .fld _ _, _, _ => false
  | .slc _ _ _, _, _ => false
def ckGs (tb : Tb) : Tgs → Gm → List Expr → Bool
  | .nil, _, xs => xs.isEmpty
  | .cons t ts, Γ, xs => match xs with
    | x :: xs => ckG tb t Γ x && ckGs tb ts Γ xs
    | [] => false
end
/-- name = [..] on one line -/
def unmut : E → E
  | .mut e => e
  | e => e
def setC0 (tb : Tb) (Γ : Gm) (t : Tg) (i : E) (x a : Expr) : Bool := match t with
  | .name k => (match i with
    | .comp el tg it cd own => (match x with
      | .Name y py => (match a with
        | .ListComp elt [⟨z, iter, ifs, as⟩] scope pos => (as == 0) && decide (Γ.N[k]? = some y) && lcB Γ y && (py.line == pos.line) && !(scope.names.any fun (n, k) => n == y && (k == .local || k == .cell)) &&
          blkC Γ.N Γ.sc scope (ownP Γ own) && (tgIx tg).all (fun i => own.contains i) && ckI tb it Γ z iter && ckG tb tg (Γ.blk scope) z && ckC tb cd (Γ.blk scope) ifs && ckE tb el false (Γ.blk scope) elt
        | _ => false)
      | _ => false)
    | _ => false)
  | _ => false
def setC (tb : Tb) (Γ : Gm) (t : Tg) (i : E) (x a : Expr) : Bool := setC0 tb Γ t (unmut i) x a
def asgC (tb : Tb) (Γ : Gm) (t : Tg) (i : E) (x a : Expr) : Bool := match t with
  | .fld o f => match x with
    | .Attribute y n _ => decide (tb.nm[f]? = some n) && ckE tb o false Γ y && ckE tb i false Γ a
    | _ => false
  | t => setC tb Γ t i x a || (ckG tb t Γ x && ckE tb i false Γ a && noComp a && noSwapS Γ.sc x a)
def nmB (Γ : Gm) (i : Nat) (x : Str) : Bool := decide (Γ.N[i]? = some x) && lcB Γ x
def parC (tb : Tb) (Γ : Gm) (is : List Nat) (es : Es) (x a : Expr) : Bool := match x, a with
  | .Tuple [.Name x px, .Name y py] _ _, .Tuple [a, b] _ _ => (match is, es with
    | [i, j], .cons u (.cons v .nil) => nmB Γ i x && nmB Γ j y && decide (i ≠ j) && ckE tb u false Γ a && ckE tb v false Γ b && notStar a && notStar b && parB Γ.sc [.Name x px, .Name y py] [a, b] && decide (py.line = px.line)
    | _, _ => false)
  | .Tuple [.Name x px, .Name y py, .Name z pz] _ _, .Tuple [a, b, c] _ _ => (match is, es with
    | [i, j, k], .cons u (.cons v (.cons w .nil)) => nmB Γ i x && nmB Γ j y && nmB Γ k z && decide (i ≠ j) && decide (i ≠ k) && decide (j ≠ k) && ckE tb u false Γ a && ckE tb v false Γ b && ckE tb w false Γ c && notStar a && notStar b && notStar c &&
        parB Γ.sc [.Name x px, .Name y py, .Name z pz] [a, b, c] && decide (py.line = px.line) && decide (pz.line = px.line)
    | _, _ => false)
  | _, _ => false
mutual
def ckS (tb : Tb) : Mi.S → Gm → Stmt → Bool
  | .expr e, Γ, a => match a with
    | .Expr x _ => ckE tb e false Γ x && noComp x
    | _ => false
  | .asg t e, Γ, a => match a with
    | .Assign [x] y _ => asgC tb Γ t e x y
    | _ => false
  | .par is es, Γ, a => match a with
    | .Assign [x] y _ => parC tb Γ is es x y
    | _ => false
  | .ret e, Γ, a => match a with
    | .Return (some x) _ => ckE tb e false Γ x
    | _ => false
  | .retN, _, a => match a with
    | .Return none _ => true
    | _ => false
  | .pass, _, a => match a with
    | .Pass _ => true
    | .Expr (.Constant (.str _) _ _) _ => true
    | _ => false
  | .brk, _, a => match a with
    | .Break _ => true
    | _ => false
  | .cont, _, a => match a with
    | .Continue _ => true
    | _ => false
  | .never, _, _ => true
  | .ifS c x y, Γ, a => match a with
    | .If z p q _ => ckE tb c true Γ z && ckSs tb x Γ p && ckSs tb y Γ q
    | _ => false
  | .whl c x, Γ, a => match a with
    | .While z p [] _ => ckE tb c true Γ z && ckSs tb x Γ p
    | _ => false
  | .forS t it x, Γ, a => match a with
    | .For y z p [] _ => ckG tb t Γ y && ckI tb it Γ y z && ckSs tb x Γ p
    | _ => false
def ckSs (tb : Tb) : Ss → Gm → List Stmt → Bool
  | .nil, _, xs => xs.isEmpty
  | .cons .never _, _, _ => true
  | .cons e es, Γ, xs => match xs with
    | x :: xs => ckS tb e Γ x && ckSs tb es Γ xs
    | [] => false
end
end Mi

set_option Elab.async false
set_option linter.all false
set_option maxRecDepth 100000
set_option maxHeartbeats 4000000
/-! The checker is sound. -/
namespace Mi
open PySem PySem.Spec PyProof.Rows L2

structure TbF (G : Gx) (C : Cal) (n : Nat) (tb : Tb) : Prop where
  cs : CsF G C n
  ne : NoEq C
  nm : G.nm = tb.nm
  fnF : ∀ x k, tb.fn.lookup x = some k → k < n ∧ G.mg x = some (.ref (G.fa k))
  clF : ∀ x c, tb.cl.lookup x = some c → G.mg x = some (.ref (G.ca c)) ∧ ∃ q, C.cs[c]? = some q
  csF : ∀ x w, tb.cs.lookup x = some w → GlV G x w
  frF : ∀ x, tb.fr.contains x = true → G.mg x = none
  msF : ∀ f, tb.ms.contains f = true → ∃ (c : Nat) (q : ClsI) (k : Nat), C.cs[c]? = some q ∧ q.ms.lookup f = some k
  isF : ∀ c, tb.isc.contains c = true → IsiF G c
def Snd (G : Gx) (EX : XK) (C : Cal) (Γ : Gm) (m : Nat) (a : Expr) (e : E) : Bool → Prop
  | false => SE G EX C Γ m a e
  | true => STt G EX C Γ m a e ∧ (isBool a = true → SW G EX C Γ m a e)
section
variable {G : Gx} {EX : XK} {C : Cal} {Γ : Gm} {m l n : Nat} {tb : Tb}
theorem plain_bool {a : Expr} (h : plainT a = true) : isBool a = false := by cases a <;> first | rfl | cases h
theorem snd_of {t : Bool} {a : Expr} {e : E} (ht : tB t a = true) (h : SE G EX C Γ m a e) (he : ∀ s h, evT C e s h = evTru C e s h) : Snd G EX C Γ m a e t := by
  cases t with
  | false => exact h
  | true =>
    have hp : plainT a = true := by simpa [tB] using ht
    exact ⟨st_tru h hp he, fun hb => by rw [plain_bool hp] at hb; cases hb⟩
theorem frB_ok (F : TbF G C n tb) {x : Str} (h : frB tb Γ x = true) : GL Γ x ∧ G.mg x = none := by
  simp only [frB, Bool.and_eq_true] at h
  exact ⟨glB_ok h.1, F.frF x h.2⟩
theorem tyB_ok (F : TbF G C n tb) {t : Ty} {a : Expr} (h : tyB tb Γ t a = true) : STy G Γ m a t ∧ ∀ c, t = .own c → IsiF G c := by
  unfold tyB at h
  split at h
  · split at h
    · simp only [Bool.and_eq_true, decide_eq_true_eq] at h
      exact ⟨sy_own (glB_ok h.1.1.1) h.1.1.2 (F.clF _ _ h.1.2).1, fun c e => by cases e; exact F.isF _ h.2⟩
    · simp only [Bool.and_eq_true, decide_eq_true_eq] at h
      obtain ⟨⟨rfl, h2⟩, h3⟩ := h
      exact ⟨sy_bi (glB_ok h2) (F.frF _ h3), fun c e => by cases e⟩
  · cases h
theorem tysB_ok (F : TbF G C n tb) : ∀ {ts : List Ty} {as : List Expr}, tysB tb Γ ts as = true → STys G Γ m as ts ∧ ∀ c, Ty.own c ∈ ts → IsiF G c
  | [], [], _ => ⟨.nil, fun c h => by cases h⟩
  | [], _ :: _, h => by simp [tysB] at h
  | _ :: _, [], h => by simp [tysB] at h
  | t :: ts, a :: as, h => by
    simp only [tysB, Bool.and_eq_true] at h
    obtain ⟨a1, a2⟩ := tyB_ok F h.1
    obtain ⟨b1, b2⟩ := tysB_ok F h.2
    refine ⟨.cons a1 b1, fun c hc => ?_⟩
    rcases List.mem_cons.mp hc with e | e
    · exact a2 c e.symm
    · exact b2 c e
theorem ownP_snd (own : List Nat) : (ownP Γ own).map (·.2) = own := by
  unfold ownP
  induction own with
  | nil => rfl
  | cons a t ih => simp only [List.map_cons, ih]
end
section
variable {G : Gx} {EX : XK} {C : Cal} {m l n : Nat} {tb : Tb}
mutual
theorem ckE_ok (F : TbF G C n tb) (hc : COk G C l n) (hl : l + 1 ≤ m) : ∀ (e : E) (t : Bool) (Γ : Gm) (a : Expr), ckE tb e t Γ a = true → Snd G EX C Γ m a e t
  | .cst w, t, Γ, a, h => by
    simp only [ckE, Bool.and_eq_true] at h
    refine snd_of h.1 ?_ fun s h => by simp only [evT]; rfl
    obtain ⟨_, h⟩ := h
    split at h
    · rename_i c k p
      unfold cstB at h
      split at h
      · exact se_non
      · have := beq_iff_eq.mp h; subst this; exact se_bl
      · have := beq_iff_eq.mp h; subst this; exact se_int
      · have := of_decide_eq_true h; subst this; exact se_str
      · cases h
    · cases h
  | .var i, t, Γ, a, h => by
    simp only [ckE, Bool.and_eq_true] at h
    refine snd_of h.1 ?_ fun s h => by simp only [evT]; rfl
    obtain ⟨_, h⟩ := h
    split at h
    · simp only [Bool.and_eq_true, decide_eq_true_eq] at h
      exact se_var h.1.1 h.1.2 h.2
    · cases h
  | .glo w, t, Γ, a, h => by
    simp only [ckE, Bool.and_eq_true] at h
    refine snd_of h.1 ?_ fun s h => by simp only [evT]; rfl
    obtain ⟨_, h⟩ := h
    split at h
    · simp only [Bool.and_eq_true] at h
      obtain ⟨⟨h1, h2⟩, h3⟩ := h
      split at h3
      · rename_i w' ew
        have := wEq_eq h3
        subst this
        exact se_glo (glB_ok h1) h2 (F.csF _ _ ew)
      · cases h3
    · cases h
  | .mut i, t, Γ, a, h => by
    simp only [ckE, Bool.and_eq_true] at h
    refine snd_of h.1 ?_ fun s h => by simp only [evT]; rfl
    have e : evE C (.mut i) = evE C i := by funext s h; simp only [evE]
    have : SE G EX C Γ m a i := ckE_ok F hc hl i false Γ a h.2
    show SE G EX C Γ m a (.mut i)
    unfold SE
    rw [e]
    exact this
  | .bin op i j, t, Γ, a, h => by
    simp only [ckE, Bool.and_eq_true] at h
    refine snd_of h.1 ?_ fun s h => by simp only [evT]; rfl
    obtain ⟨_, h⟩ := h
    split at h
    · simp only [Bool.and_eq_true] at h
      rw [bopB_ok h.1.1]
      exact se_bin (ckE_ok F hc hl i false Γ _ h.1.2) (ckE_ok F hc hl j false Γ _ h.2)
    · cases h
  | .neg i, t, Γ, a, h => by
    simp only [ckE, Bool.and_eq_true] at h
    refine snd_of h.1 ?_ fun s h => by simp only [evT]; rfl
    obtain ⟨_, h⟩ := h
    split at h
    · exact se_neg (ckE_ok F hc hl i false Γ _ h)
    · cases h
  | .notE i, t, Γ, a, h => by
    simp only [ckE] at h
    split at h
    · cases t with
      | false => exact se_not (ckE_ok F hc hl i false Γ _ h)
      | true => exact ⟨st_not (ckE_ok F hc hl i true Γ _ h).1, fun z => by cases z⟩
    · cases h
  | .andE i j, t, Γ, a, h => by
    simp only [ckE] at h
    split at h
    · rename_i x y rest p
      simp only [Bool.and_eq_true] at h
      obtain ⟨h1, h2⟩ := h
      have r1 := ckE_ok F hc hl i t Γ _ h1
      cases rest with
      | nil =>
        have r2 := ckE_ok F hc hl j t Γ _ h2
        cases t with
        | false => exact se_and r1 (se_one r2)
        | true =>
          have w := sw_and (p := p) r1.1 (sw_and1 r2.1)
          exact ⟨w.pt, fun _ => w⟩
      | cons z r =>
        have r2 := ckE_ok F hc hl j t Γ _ h2
        cases t with
        | false => exact se_and r1 r2
        | true =>
          have w := sw_and (p := p) r1.1 (r2.2 rfl)
          exact ⟨w.pt, fun _ => w⟩
    · cases h
  | .orE i j, t, Γ, a, h => by
    simp only [ckE] at h
    split at h
    · rename_i x y rest p
      simp only [Bool.and_eq_true] at h
      obtain ⟨h1, h2⟩ := h
      have r1 := ckE_ok F hc hl i t Γ _ h1
      cases rest with
      | nil =>
        have r2 := ckE_ok F hc hl j t Γ _ h2
        cases t with
        | false => exact se_or r1 (se_one r2)
        | true =>
          have w := sw_or (p := p) r1.1 (sw_or1 r2.1)
          exact ⟨w.pt, fun _ => w⟩
      | cons z r =>
        have r2 := ckE_ok F hc hl j t Γ _ h2
        cases t with
        | false => exact se_or r1 r2
        | true =>
          have w := sw_or (p := p) r1.1 (r2.2 rfl)
          exact ⟨w.pt, fun _ => w⟩
    · cases h
  | .cmp op i j, t, Γ, a, h => by
    simp only [ckE] at h
    split at h
    · simp only [Bool.and_eq_true] at h
      obtain ⟨⟨⟨h1, h2⟩, h3⟩, h4⟩ := h
      rw [copB_ok h1]
      have r1 : SE G EX C Γ m _ i := ckE_ok F hc hl i false Γ _ h2
      have r2 : SE G EX C Γ m _ j := ckE_ok F hc hl j false Γ _ h3
      cases t with
      | false => exact se_cmp F.ne r1 r2 h4
      | true => exact ⟨st_cmp F.ne r1 r2 h4, fun z => by cases z⟩
    · cases h
  | .cmp2 op op' i j k, t, Γ, a, h => by
    simp only [ckE] at h
    split at h
    · simp only [Bool.and_eq_true] at h
      obtain ⟨⟨⟨⟨⟨h1, h2⟩, h3⟩, h4⟩, h5⟩, h6⟩ := h
      rw [copB_ok h1, copB_ok h2]
      have r1 : SE G EX C Γ m _ i := ckE_ok F hc hl i false Γ _ h3
      have r2 : SE G EX C Γ m _ j := ckE_ok F hc hl j false Γ _ h4
      have r3 : SE G EX C Γ m _ k := ckE_ok F hc hl k false Γ _ h5
      cases t with
      | false => exact se_cmp2 F.ne r1 r2 r3 h6
      | true => exact ⟨st_cmp2 F.ne r1 r2 r3 h6, fun z => by cases z⟩
    · cases h
  | .ife c i j, t, Γ, a, h => by
    simp only [ckE, Bool.and_eq_true, Bool.not_eq_true'] at h
    obtain ⟨rfl, h⟩ := h
    split at h
    · simp only [Bool.and_eq_true] at h
      exact se_ife (ckE_ok F hc hl c true Γ _ h.1.1).1 (ckE_ok F hc hl i false Γ _ h.1.2) (ckE_ok F hc hl j false Γ _ h.2)
    · cases h
  | .fld i f, t, Γ, a, h => by
    simp only [ckE, Bool.and_eq_true] at h
    refine snd_of h.1 ?_ fun s h => by simp only [evT]; rfl
    obtain ⟨_, h⟩ := h
    split at h
    · simp only [Bool.and_eq_true, decide_eq_true_eq] at h
      exact se_fld hc F.cs (by rw [F.nm]; exact h.1.1) hl (ckE_ok F hc hl i false Γ _ h.1.2) h.2
    · cases h
  | .ix i j, t, Γ, a, h => by
    simp only [ckE, Bool.and_eq_true] at h
    refine snd_of h.1 ?_ fun s h => by simp only [evT]; rfl
    obtain ⟨_, h⟩ := h
    split at h
    · simp only [Bool.and_eq_true] at h
      exact se_ix (ckE_ok F hc hl i false Γ _ h.1.1) (ckE_ok F hc hl j false Γ _ h.1.2) h.2
    · cases h
  | .rev i, t, Γ, a, h => by
    simp only [ckE, Bool.and_eq_true] at h
    refine snd_of h.1 ?_ fun s h => by simp only [evT]; rfl
    obtain ⟨_, h⟩ := h
    split at h
    · simp only [Bool.and_eq_true, decide_eq_true_eq] at h
      obtain ⟨rfl, h⟩ := h
      exact se_rev (ckE_ok F hc hl i false Γ _ h)
    · cases h
  | .slc i lo u, t, Γ, a, h => by
    simp only [ckE, Bool.and_eq_true] at h
    refine snd_of h.1 ?_ fun s h => by simp only [evT]; rfl
    obtain ⟨_, h⟩ := h
    split at h
    · simp only [Bool.and_eq_true] at h
      exact se_slc (ckE_ok F hc hl i false Γ _ h.1.1) (ckO_ok F hc hl lo Γ _ h.1.2) (ckO_ok F hc hl u Γ _ h.2)
    · cases h
  | .lst es, t, Γ, a, h => by
    simp only [ckE, Bool.and_eq_true] at h
    refine snd_of h.1 ?_ fun s h => by simp only [evT]; rfl
    obtain ⟨_, h⟩ := h
    split at h
    · exact se_lst (ckEs_ok F hc hl es Γ _ h)
    · cases h
  | .tup es, t, Γ, a, h => by
    simp only [ckE, Bool.and_eq_true] at h
    refine snd_of h.1 ?_ fun s h => by simp only [evT]; rfl
    obtain ⟨_, h⟩ := h
    split at h
    · exact se_tup (ckEs_ok F hc hl es Γ _ h)
    · cases h
  | .dic0, t, Γ, a, h => by
    simp only [ckE, Bool.and_eq_true] at h
    refine snd_of h.1 ?_ fun s h => by simp only [evT]; rfl
    obtain ⟨_, h⟩ := h
    split at h
    · exact se_dic0
    · cases h
  | .dic _ _, t, Γ, a, h => by simp [ckE] at h
  | .call k es pm, t, Γ, a, h => by
    simp only [ckE, Bool.and_eq_true] at h
    refine snd_of h.1 ?_ fun s h => by simp only [evT]; rfl
    obtain ⟨_, h⟩ := h
    split at h
    · simp only [Bool.and_eq_true, decide_eq_true_eq, List.isEmpty_iff] at h
      obtain ⟨⟨⟨⟨rfl, h1⟩, h2⟩, h3⟩, h4⟩ := h
      obtain ⟨z1, z2⟩ := F.fnF _ _ h1
      exact se_call hc (by omega) z1 (ckEs_ok F hc hl es Γ _ h4) (glB_ok h2) h3 z2
    · cases h
  | .make k es pm, t, Γ, a, h => by
    simp only [ckE, Bool.and_eq_true] at h
    refine snd_of h.1 ?_ fun s h => by simp only [evT]; rfl
    obtain ⟨_, h⟩ := h
    split at h
    · simp only [Bool.and_eq_true, decide_eq_true_eq, List.isEmpty_iff] at h
      obtain ⟨⟨⟨⟨rfl, h1⟩, h2⟩, h3⟩, h4⟩ := h
      obtain ⟨z2, q, z1⟩ := F.clF _ _ h1
      exact se_make hc F.cs z1 hl (ckEs_ok F hc hl es Γ _ h4) (glB_ok h2) h3 z2
    · cases h
  | .meth i f es pm, t, Γ, a, h => by
    simp only [ckE, Bool.and_eq_true] at h
    refine snd_of h.1 ?_ fun s h => by simp only [evT]; rfl
    obtain ⟨_, h⟩ := h
    split at h
    · simp only [Bool.and_eq_true, decide_eq_true_eq, List.isEmpty_iff] at h
      obtain ⟨⟨⟨⟨⟨⟨⟨rfl, h1⟩, h2⟩, h3⟩, h4⟩, h5⟩, h6⟩, h7⟩ := h
      exact se_meth hc F.cs (F.msF f h2) (by rw [F.nm]; exact h1) (by omega) (ckE_ok F hc hl i false Γ _ h3) (ckEs_ok F hc hl es Γ _ h4) h5 h6 h7
    · cases h
  | .callv _ _, t, Γ, a, h => by simp [ckE] at h
  | .bc b es, t, Γ, a, h => by
    simp only [ckE, Bool.and_eq_true] at h
    refine snd_of h.1 ?_ fun s h => by simp only [evT]; rfl
    obtain ⟨_, h⟩ := h
    split at h
    · simp only [Bool.and_eq_true, decide_eq_true_eq] at h
      obtain ⟨⟨rfl, h2⟩, h3⟩ := h
      obtain ⟨z1, z2⟩ := frB_ok F h2
      exact se_bc (ckEs_ok F hc hl es Γ _ h3) z1 z2
    · cases h
  | .bm b i es, t, Γ, a, h => by
    simp only [ckE, Bool.and_eq_true] at h
    refine snd_of h.1 ?_ fun s h => by simp only [evT]; rfl
    obtain ⟨_, h⟩ := h
    split at h
    · rename_i o x apos xs pos _
      simp only [Bool.and_eq_true, decide_eq_true_eq] at h
      obtain ⟨⟨⟨⟨⟨⟨rfl, h2⟩, h3⟩, h4⟩, h5⟩, h6⟩, h7⟩ := h
      have r1 : SE G EX C Γ m _ i := ckE_ok F hc hl i false Γ _ h2
      have r2 : SEs' G EX C Γ m _ es := ckEs_ok F hc hl es Γ _ h3
      cases b with
      | append1 =>
        cases xs with
        | nil => cases h7
        | cons y ys => exact se_append r1 r2 h4 h5 h6
      | insert2 =>
        cases xs with
        | nil => cases h7
        | cons y ys => exact se_insert r1 r2 h4 h5 h6
      | pop0 =>
        have := List.isEmpty_iff.mp h7
        subst this
        have e := r2.nil rfl
        subst e
        exact se_pop0 r1 h4 h6
      | pop1 =>
        cases xs with
        | nil => cases h7
        | cons y ys => exact se_pop1 r1 r2 h4 h5 h6
      | remove1 =>
        cases xs with
        | nil => cases h7
        | cons y ys => exact se_remove r1 r2 h4 h5 h6
    · cases h
  | .isi i tp ts, t, Γ, a, h => by
    simp only [ckE, Bool.and_eq_true] at h
    refine snd_of h.1 ?_ fun s h => by simp only [evT]; rfl
    obtain ⟨_, h⟩ := h
    split at h
    · simp only [Bool.and_eq_true, decide_eq_true_eq] at h
      obtain ⟨⟨⟨⟨rfl, h2⟩, h3⟩, h4⟩, h5⟩ := h
      obtain ⟨z1, z2⟩ := frB_ok F h2
      have r1 : SE G EX C Γ m _ i := ckE_ok F hc hl i false Γ _ h3
      cases tp with
      | false =>
        obtain ⟨y1, y2⟩ := tysB_ok (m := m) F h5
        cases y1 with
        | cons y1 y3 =>
          cases y3
          exact se_isi1 r1 h4 y1 y2 z1 z2
      | true =>
        dsimp only at h5
        split at h5
        · simp only [Bool.and_eq_true, decide_eq_true_eq, Bool.not_eq_true', List.isEmpty_eq_false_iff] at h5
          obtain ⟨y1, y2⟩ := tysB_ok (m := m) F h5.1.1
          exact se_isiT r1 h4 y1 h5.2 h5.1.2 y2 z1 z2
        · cases h5
    · cases h
  | .rngL tp .nil, t, Γ, a, h => by simp [ckE] at h
  | .rngL tp (.cons i .nil), t, Γ, a, h => by
    simp only [ckE, Bool.and_eq_true] at h
    refine snd_of h.1 ?_ fun s h => by simp only [evT]; rfl
    obtain ⟨_, h⟩ := h
    split at h
    · simp only [Bool.and_eq_true, decide_eq_true_eq] at h
      obtain ⟨⟨⟨⟨⟨e1, e2⟩, h2⟩, h3⟩, h4⟩, h5⟩ := h
      subst e2
      have r1 : SE G EX C Γ m _ i := ckE_ok F hc hl i false Γ _ h4
      obtain ⟨z1, z2⟩ := frB_ok F h2
      obtain ⟨z3, z4⟩ := frB_ok F h3
      cases tp with
      | false => subst e1; exact se_listR1 r1 h5 z3 z4 z1 z2
      | true => subst e1; exact se_tupR1 r1 h5 z3 z4 z1 z2
    · cases h
  | .rngL tp (.cons i (.cons j .nil)), t, Γ, a, h => by
    simp only [ckE, Bool.and_eq_true] at h
    refine snd_of h.1 ?_ fun s h => by simp only [evT]; rfl
    obtain ⟨_, h⟩ := h
    split at h
    · simp only [Bool.and_eq_true, decide_eq_true_eq] at h
      obtain ⟨⟨⟨⟨⟨⟨⟨e1, e2⟩, h2⟩, h3⟩, h4⟩, h5⟩, h6⟩, h7⟩ := h
      subst e2
      have r1 : SE G EX C Γ m _ i := ckE_ok F hc hl i false Γ _ h4
      have r2 : SE G EX C Γ m _ j := ckE_ok F hc hl j false Γ _ h6
      obtain ⟨z1, z2⟩ := frB_ok F h2
      obtain ⟨z3, z4⟩ := frB_ok F h3
      cases tp with
      | false => subst e1; exact se_listR2 r1 r2 h5 h7 z3 z4 z1 z2
      | true => subst e1; exact se_tupR2 r1 r2 h5 h7 z3 z4 z1 z2
    · cases h
  | .rngL tp (.cons i (.cons j (.cons k es))), t, Γ, a, h => by simp [ckE] at h
  | .sset _, t, Γ, a, h => by simp [ckE] at h
  | .comp el tg it cd own, t, Γ, a, h => by
    simp only [ckE, Bool.and_eq_true] at h
    refine snd_of h.1 ?_ fun s h => by simp only [evT]; rfl
    obtain ⟨_, h⟩ := h
    split at h
    · simp only [Bool.and_eq_true, beq_iff_eq] at h
      obtain ⟨⟨⟨⟨⟨⟨rfl, h1⟩, h2⟩, h3⟩, h4⟩, h5⟩, h6⟩ := h
      have e := ownP_snd (Γ := Γ) own
      have := se_comp (EX := EX) (C := C) (m := m) (G := G) (own := ownP Γ own) (pos := by assumption) h1 (by rw [e]; exact h2) (ckI_ok F hc hl it Γ _ _ h3) (ckG_ok F hc hl tg _ _ h4) (ckC_ok F hc hl cd _ _ h5) (ckE_ok F hc hl el false _ _ h6)
      rw [e] at this
      exact this
    · cases h
theorem ckEs_ok (F : TbF G C n tb) (hc : COk G C l n) (hl : l + 1 ≤ m) : ∀ (e : Es) (Γ : Gm) (a : List Expr), ckEs tb e Γ a = true → SEs' G EX C Γ m a e
  | .nil, Γ, a, h => by
    simp only [ckEs, List.isEmpty_iff] at h
    subst h
    exact ss_nil
  | .cons e es, Γ, a, h => by
    simp only [ckEs] at h
    split at h
    · simp only [Bool.and_eq_true] at h
      exact ss_cons (ckE_ok F hc hl e false Γ _ h.1.1) (ckEs_ok F hc hl es Γ _ h.1.2) h.2
    · cases h
theorem ckO_ok (F : TbF G C n tb) (hc : COk G C l n) (hl : l + 1 ≤ m) : ∀ (e : Eo) (Γ : Gm) (a : Option Expr), ckO tb e Γ a = true → SO G EX C Γ m a e
  | .none, Γ, a, h => by
    simp only [ckO, Option.isNone_iff_eq_none] at h
    subst h
    exact so_none
  | .some e, Γ, a, h => by
    simp only [ckO] at h
    split at h
    · exact so_some (ckE_ok F hc hl e false Γ _ h)
    · cases h
theorem ckC_ok (F : TbF G C n tb) (hc : COk G C l n) (hl : l + 1 ≤ m) : ∀ (e : Eo) (Γ : Gm) (a : List Expr), ckC tb e Γ a = true → SC G EX C Γ m a e
  | .none, Γ, a, h => by
    simp only [ckC, List.isEmpty_iff] at h
    subst h
    exact sc_none
  | .some e, Γ, a, h => by
    simp only [ckC] at h
    split at h
    · exact sc_some (ckE_ok F hc hl e true Γ _ h).1
    · cases h
theorem ckI_ok (F : TbF G C n tb) (hc : COk G C l n) (hl : l + 1 ≤ m) : ∀ (e : It) (Γ : Gm) (tg a : Expr), ckI tb e Γ tg a = true → SI G EX C Γ m tg a e
  | .seq e, Γ, tg, a, h => by
    simp only [ckI, Bool.and_eq_true] at h
    exact si_seq (ckE_ok F hc hl e false Γ _ h.1) h.2
  | .rng1 e, Γ, tg, a, h => by
    simp only [ckI] at h
    split at h
    · simp only [Bool.and_eq_true, decide_eq_true_eq] at h
      obtain ⟨⟨⟨rfl, h2⟩, h3⟩, h4⟩ := h
      obtain ⟨z1, z2⟩ := frB_ok F h2
      exact si_rng1 (ckE_ok F hc hl e false Γ _ h3) h4 z1 z2
    · cases h
  | .rng2 e e', Γ, tg, a, h => by
    simp only [ckI] at h
    split at h
    · simp only [Bool.and_eq_true, decide_eq_true_eq] at h
      obtain ⟨⟨⟨⟨⟨rfl, h2⟩, h3⟩, h4⟩, h5⟩, h6⟩ := h
      obtain ⟨z1, z2⟩ := frB_ok F h2
      exact si_rng2 (ckE_ok F hc hl e false Γ _ h3) (ckE_ok F hc hl e' false Γ _ h5) h4 h6 z1 z2
    · cases h
  | .enm e, Γ, tg, a, h => by
    simp only [ckI] at h
    split at h
    · split at h
      · simp only [Bool.and_eq_true, decide_eq_true_eq] at h
        obtain ⟨⟨⟨rfl, h2⟩, h3⟩, h4⟩ := h
        obtain ⟨z1, z2⟩ := frB_ok F h2
        exact si_enm (ckE_ok F hc hl e false Γ _ h3) h4 z1 z2
      · cases h
    · cases h
  | .zip e e', Γ, tg, a, h => by
    simp only [ckI] at h
    split at h
    · split at h
      · simp only [Bool.and_eq_true, decide_eq_true_eq] at h
        obtain ⟨⟨⟨⟨⟨rfl, h2⟩, h3⟩, h4⟩, h5⟩, h6⟩ := h
        obtain ⟨z1, z2⟩ := frB_ok F h2
        exact si_zip (ckE_ok F hc hl e false Γ _ h3) (ckE_ok F hc hl e' false Γ _ h5) h4 h6 z1 z2
      · cases h
    · cases h
theorem ckG_ok (F : TbF G C n tb) (hc : COk G C l n) (hl : l + 1 ≤ m) : ∀ (e : Tg) (Γ : Gm) (a : Expr), ckG tb e Γ a = true → SG G EX C Γ m a e
  | .name i, Γ, a, h => by
    simp only [ckG] at h
    split at h
    · simp only [Bool.and_eq_true, decide_eq_true_eq] at h
      exact sg_name h.1 h.2
    · cases h
  | .tup ts, Γ, a, h => by
    simp only [ckG] at h
    split at h
    · exact sg_tup (ckGs_ok F hc hl ts Γ _ h)
    · cases h
  | .sub o i, Γ, a, h => by
    simp only [ckG] at h
    split at h
    · simp only [Bool.and_eq_true] at h
      exact sg_sub (ckE_ok F hc hl o false Γ _ h.1.1) (ckE_ok F hc hl i false Γ _ h.1.2) h.2
    · cases h
  | .fld _ _, Γ, a, h => by simp [ckG] at h
  | .slc _ _ _, Γ, a, h => by simp [ckG] at h
theorem ckGs_ok (F : TbF G C n tb) (hc : COk G C l n) (hl : l + 1 ≤ m) : ∀ (e : Tgs) (Γ : Gm) (a : List Expr), ckGs tb e Γ a = true → SGs G EX C Γ m a e
  | .nil, Γ, a, h => by
    simp only [ckGs, List.isEmpty_iff] at h
    subst h
    exact sgs_nil
  | .cons t ts, Γ, a, h => by
    simp only [ckGs] at h
    split at h
    · simp only [Bool.and_eq_true] at h
      exact sgs_cons (ckG_ok F hc hl t Γ _ h.1) (ckGs_ok F hc hl ts Γ _ h.2)
    · cases h
end
end
end Mi

set_option Elab.async false
set_option linter.all false
set_option maxRecDepth 100000
set_option maxHeartbeats 4000000
/-! Statements; a def; all defs by levels. -/
namespace Mi
open PySem PySem.Spec PyProof.Rows L2
section
variable {G : Gx} {EX : XK} {C : Cal} {Γ : Gm} {m l n : Nat} {tb : Tb}
theorem nmB_ok {i : Nat} {x : Str} (h : nmB Γ i x = true) : Γ.N[i]? = some x ∧ Γ.sc.names.lookup x = some .local := by
  simp only [nmB, Bool.and_eq_true, decide_eq_true_eq] at h
  exact ⟨h.1, lcB_ok h.2⟩
theorem setC0_ok (F : TbF G C n tb) (hc : COk G C l n) (hl : l + 1 ≤ m) {t : Tg} {i : E} {x a : Expr} {p : Pos} (h : setC0 tb Γ t i x a = true) : SS G EX C Γ m (.Assign [x] a p) (.asg t i) := by
  unfold setC0 at h
  split at h
  · split at h
    · split at h
      · split at h
        · simp only [Bool.and_eq_true, beq_iff_eq, decide_eq_true_eq, Bool.not_eq_true'] at h
          obtain ⟨⟨⟨⟨⟨⟨⟨⟨⟨⟨rfl, h1⟩, h2⟩, h3⟩, h4⟩, h5⟩, h6⟩, h7⟩, h8⟩, h9⟩, h10⟩ := h
          rename_i k _ el tg it cd own _ y py _ elt z iter ifs scope pos
          have e := ownP_snd (Γ := Γ) own
          have := s_setLc (EX := EX) (C := C) (m := m) (G := G) (own := ownP Γ own) (pos := pos) (spos := p) (py := py) h1 (lcB_ok h2) (by rw [h3]; exact beq_self_eq_true _) h4 h5 (by rw [e]; exact h6) (ckI_ok F hc hl it Γ _ _ h7) (ckG_ok F hc hl tg _ _ h8) (ckC_ok F hc hl cd _ _ h9) (ckE_ok F hc hl el false _ _ h10)
          rw [e] at this
          exact this
        · cases h
      · cases h
    · cases h
  · cases h
theorem unmut_ev {t : Tg} {i : E} : evS C (.asg t (unmut i)) = evS C (.asg t i) := by
  funext s h
  cases i <;> simp only [unmut, evS, evE]
theorem setC_ok (F : TbF G C n tb) (hc : COk G C l n) (hl : l + 1 ≤ m) {t : Tg} {i : E} {x a : Expr} {p : Pos} (h : setC tb Γ t i x a = true) : SS G EX C Γ m (.Assign [x] a p) (.asg t i) := by
  have := setC0_ok (EX := EX) F hc hl (p := p) h
  unfold SS at this ⊢
  rw [unmut_ev] at this
  exact this
theorem asgC_ok (F : TbF G C n tb) (hc : COk G C l n) (hl : l + 1 ≤ m) {t : Tg} {i : E} {x a : Expr} {p : Pos} (h : asgC tb Γ t i x a = true) : SS G EX C Γ m (.Assign [x] a p) (.asg t i) := by
  unfold asgC at h
  split at h
  · split at h
    · simp only [Bool.and_eq_true, decide_eq_true_eq] at h
      exact s_fld F.cs (by rw [F.nm]; exact h.1.1) (ckE_ok F hc hl _ false Γ _ h.1.2) (ckE_ok F hc hl _ false Γ _ h.2)
    · cases h
  · simp only [Bool.or_eq_true, Bool.and_eq_true] at h
    rcases h with h | ⟨⟨⟨h1, h2⟩, h3⟩, h4⟩
    · exact setC_ok F hc hl h
    · exact s_asgS (ckG_ok F hc hl _ _ _ h1) (ckE_ok F hc hl _ false Γ _ h2) h3 h4
theorem parC_ok (F : TbF G C n tb) (hc : COk G C l n) (hl : l + 1 ≤ m) {is : List Nat} {es : Es} {x a : Expr} {p : Pos} (h : parC tb Γ is es x a = true) : SS G EX C Γ m (.Assign [x] a p) (.par is es) := by
  unfold parC at h
  split at h
  · split at h
    · simp only [Bool.and_eq_true, decide_eq_true_eq] at h
      obtain ⟨⟨⟨⟨⟨⟨⟨⟨h1, h2⟩, h3⟩, h4⟩, h5⟩, h6⟩, h7⟩, h8⟩, h9⟩ := h
      obtain ⟨a1, a2⟩ := nmB_ok h1
      obtain ⟨b1, b2⟩ := nmB_ok h2
      exact s_par2 a1 b1 h3 a2 b2 (ckE_ok F hc hl _ false Γ _ h4) (ckE_ok F hc hl _ false Γ _ h5) h6 h7 h8 h9
    · cases h
  · split at h
    · simp only [Bool.and_eq_true, decide_eq_true_eq] at h
      obtain ⟨⟨⟨⟨⟨⟨⟨⟨⟨⟨⟨⟨⟨⟨h1, h2⟩, h3⟩, h4⟩, h5⟩, h6⟩, h7⟩, h8⟩, h9⟩, h10⟩, h11⟩, h12⟩, h13⟩, h14⟩, h15⟩ := h
      obtain ⟨a1, a2⟩ := nmB_ok h1
      obtain ⟨b1, b2⟩ := nmB_ok h2
      obtain ⟨c1, c2⟩ := nmB_ok h3
      exact s_par3 a1 b1 c1 h4 h5 h6 a2 b2 c2 (ckE_ok F hc hl _ false Γ _ h7) (ckE_ok F hc hl _ false Γ _ h8) (ckE_ok F hc hl _ false Γ _ h9) h10 h11 h12 h13 h14 h15
    · cases h
  · cases h
theorem ckSs_cons {e : Mi.S} {es : Ss} {xs : List Stmt} (en : e ≠ .never) : ckSs tb (.cons e es) Γ xs = match xs with
    | x :: xs => ckS tb e Γ x && ckSs tb es Γ xs
    | [] => false := by
  cases e <;> first | exact absurd rfl en | (cases xs <;> simp only [ckSs])
mutual
theorem ckS_ok (F : TbF G C n tb) (hc : COk G C l n) (hl : l + 1 ≤ m) : ∀ (e : Mi.S) (a : Stmt), ckS tb e Γ a = true → SS G EX C Γ m a e
  | .expr e, a, h => by
    simp only [ckS] at h
    split at h
    · simp only [Bool.and_eq_true] at h
      exact s_expr (ckE_ok F hc hl e false Γ _ h.1) h.2
    · cases h
  | .asg t e, a, h => by
    simp only [ckS] at h
    split at h
    · exact asgC_ok F hc hl h
    · cases h
  | .par is es, a, h => by
    simp only [ckS] at h
    split at h
    · exact parC_ok F hc hl h
    · cases h
  | .ret e, a, h => by
    simp only [ckS] at h
    split at h
    · exact s_ret (ckE_ok F hc hl e false Γ _ h)
    · cases h
  | .retN, a, h => by
    simp only [ckS] at h
    split at h
    · exact s_retN
    · cases h
  | .pass, a, h => by
    simp only [ckS] at h
    split at h
    · exact s_pass
    · exact s_doc
    · cases h
  | .brk, a, h => by
    simp only [ckS] at h
    split at h
    · exact s_brk
    · cases h
  | .cont, a, h => by
    simp only [ckS] at h
    split at h
    · exact s_cont
    · cases h
  | .never, a, h => s_never
  | .ifS c x y, a, h => by
    simp only [ckS] at h
    split at h
    · simp only [Bool.and_eq_true] at h
      exact s_if (ckE_ok F hc hl c true Γ _ h.1.1).1 (ckSs_ok F hc hl x _ h.1.2) (ckSs_ok F hc hl y _ h.2)
    · cases h
  | .whl c x, a, h => by
    simp only [ckS] at h
    split at h
    · simp only [Bool.and_eq_true] at h
      exact s_whl (ckE_ok F hc hl c true Γ _ h.1).1 (ckSs_ok F hc hl x _ h.2)
    · cases h
  | .forS t it x, a, h => by
    simp only [ckS] at h
    split at h
    · simp only [Bool.and_eq_true] at h
      exact s_for (ckI_ok F hc hl it Γ _ _ h.1.2) (ckG_ok F hc hl t Γ _ h.1.1) (ckSs_ok F hc hl x _ h.2)
    · cases h
theorem ckSs_ok (F : TbF G C n tb) (hc : COk G C l n) (hl : l + 1 ≤ m) : ∀ (e : Ss) (a : List Stmt), ckSs tb e Γ a = true → SSs G EX C Γ m a e
  | .nil, a, h => by
    simp only [ckSs, List.isEmpty_iff] at h
    subst h
    exact sss_nil
  | .cons e es, a, h => by
    by_cases en : e = .never
    · subst en
      exact fun X g => weakSs pss_never fun D σ H ⟨r, s, h, S, L, p⟩ => by
        simp only [evSs, evS] at p
        exact p
    · rw [ckSs_cons en] at h
      split at h
      · simp only [Bool.and_eq_true] at h
        exact sss_cons (ckS_ok F hc hl e _ h.1) (ckSs_ok F hc hl es _ h.2)
      · cases h
end
end

/-! ### a def keeps its promise -/
/-- a def of the text: its names, parameters, body, scope -/
structure Df where
  name : Str
  qual : Str
  params : Arguments
  body : List Stmt
  scope : Scope
  N : List Str
  ps : List Str
/-- positional parameters alone, no defaults -/
def parsB (d : Df) : Bool := match d.params with
  | ⟨[], as, none, [], [], none, []⟩ => decide (as.map (·.arg) = d.ps)
  | _ => false
def fnScB (N P : List Str) (sc : Scope) : Bool :=
  (match sc.kind with | .function => true | _ => false) && !sc.isCoroutine && !sc.isGenerator && decide N.Nodup && decide (N.take P.length = P) && (P.all fun x => match sc.names.lookup x with | some .local => true | some .cell => true | _ => false) &&
    sc.names.all fun y => match y.2 with | .free => false | _ => true
theorem fnScB_ok {N P : List Str} {sc : Scope} (h : fnScB N P sc = true) : FnScope N P sc := by
  simp only [fnScB, Bool.and_eq_true, Bool.not_eq_true', decide_eq_true_eq] at h
  obtain ⟨⟨⟨⟨⟨⟨h1, h2⟩, h3⟩, h4⟩, h5⟩, h6⟩, h7⟩ := h
  refine ⟨?_, h2, h3, h4, h5, fun x hx => ?_, fun y hy => ?_⟩
  · cases e : sc.kind <;> rw [e] at h1 <;> first | rfl | cases h1
  · have := List.all_eq_true.mp h6 x hx
    split at this
    · rename_i e; exact .inl e
    · rename_i e; exact .inr e
    · cases this
  · have := List.all_eq_true.mp h7 y hy
    intro e
    rw [e] at this
    cases this
/-- the def's checks -/
def dfB (tb : Tb) (d : Df) (f : FunI) : Bool := fnScB d.N d.ps d.scope && decide (d.ps.length = f.np) && decide (d.N.length = f.ns) && ckSs tb f.body ⟨d.N, d.scope, true⟩ d.body
structure DfF (G : Gx) (d : Df) (a : Addr) : Prop where
  ex : ∃ fd, FunD G.K d.name d.qual d.params d.body d.scope [] [] a fd ∧ Binds G.K fd d.ps []
end Mi

set_option Elab.async false
set_option linter.all false
set_option maxRecDepth 100000
set_option maxHeartbeats 4000000
/-! All defs by levels; the law's end. -/
namespace Mi
open PySem PySem.Spec PyProof.Rows L2

theorem start_rel {G : Gx} {r : Rho} {H : Hp} {ws : List W} {vs : List V} {ns : Nat} {N : List Str} (q : RelWs G r H ws vs) (hn : ns = N.length) : SlR G r H (startS ns ws) (L2.start N vs) := by
  have hl := q.length
  refine ⟨by simp [startS, L2.start, hl, hn], fun i w e => ?_⟩
  unfold startS at e
  unfold L2.start
  by_cases c : i < ws.length
  · rw [List.getElem?_append_left (by simpa using c)] at e
    rw [List.getElem?_append_left (by simpa [← hl] using c)]
    rw [List.getElem?_map] at e ⊢
    cases z : ws[i]? with
    | none => rw [z] at e; cases e
    | some u =>
      rw [z] at e
      simp at e
      subst e
      obtain ⟨v, ev, rv⟩ := q.get z
      exact ⟨v, by rw [ev]; rfl, rv⟩
  · rw [List.getElem?_append_right (by simpa using c)] at e
    have := List.mem_of_getElem? e
    rw [List.mem_replicate] at this
    cases this.2
section
variable {G : Gx} {P : Pr} {wf : Nat} {tb : Tb} {ds : List Df}
structure AllF (G : Gx) (P : Pr) (tb : Tb) (ds : List Df) : Prop where
  tbF : ∀ C : Cal, C.cs = P.cs → TbF G C P.fs.length tb
  df : ∀ (k : Nat) (d : Df), ds[k]? = some d → DfF G d (G.fa k)
  ck : ∀ (k : Nat) (f : FunI), P.fs[k]? = some f → ∃ d, ds[k]? = some d ∧ dfB tb d f = true
theorem call_post {r : Rho} {H : Hp} {Q : VK} {E : XK} {f : FunI} {d k : Nat} {ws : List W} {h : Hh} (ef : P.fs[k]? = some f) (p : Post G r H (RelW G) Q E (callN P wf (d + 1) k ws h)) :
    ws.length = f.np ∧ PostS G r H { nx := fun _ H' => Q .non H', rt := Q } E (evSs (calN P wf d) f.body (startS f.ns ws) h) := by
  simp only [callN, ef] at p
  split at p
  · rename_i hl
    refine ⟨hl, ?_⟩
    show PostS G r H _ E (evSs ⟨callN P wf d, P.cs, wf⟩ f.body (startS f.ns ws) h)
    cases e : evSs ⟨callN P wf d, P.cs, wf⟩ f.body (startS f.ns ws) h with
    | nx s h1 =>
      rw [e] at p
      intro r' H' σ' st S L
      exact p r' H' .non st S .non
    | rt w h1 => rw [e] at p; exact p
    | bk s h1 => rw [e] at p; exact False.elim p
    | ct s h1 => rw [e] at p; exact False.elim p
    | ex c fs s h1 => rw [e] at p; exact p
    | no => rw [e] at p; exact p
  · exact False.elim p
theorem fn_step (A : AllF G P tb ds) {d k : Nat} {f : FunI} {df : Df} {fd : FuncData} (ih : COk G (calN P wf d) (2 * d) P.fs.length) (ef : P.fs[k]? = some f) (hd : dfB tb df f = true) (F : FunD G.K df.name df.qual df.params df.body df.scope [] [] (G.fa k) fd) :
    FnOk G.P G.w G.K G.mg G.base CX0 (2 * d + 1 + 1) (G.fa k) fd df.ps (fun vs H Q EX => vs.length = df.ps.length ∧ ∃ r h ws, Sim G r h H ∧ RelWs G r H ws vs ∧ Post G r H (RelW G) Q EX (callN P wf (d + 1) k ws h)) := by
  simp only [dfB, Bool.and_eq_true, decide_eq_true_eq] at hd
  obtain ⟨⟨⟨h1, h2⟩, h3⟩, h4⟩ := hd
  have sc := fnScB_ok h1
  have T := A.tbF (calN P wf d) rfl
  refine FunD.ok (k := 2 * d + 1) F sc (fun vs H Q E h => h.1) fun cdv A' outer s H vs Q E hr h => ?_
  obtain ⟨hlen, r, h, ws, S, q, p⟩ := h
  obtain ⟨hl, ps⟩ := call_post ef p
  refine ⟨US G E (evSs (calN P wf d) f.body), ckSs_ok (EX := E) T ih (Nat.le_refl _) f.body df.body h4 _ ⟨⟨rfl, rfl, rfl, rfl, rfl, rfl, sc.nd, rfl, sc.kind, rfl, hr, fun _ _ => rfl⟩, passes_of rfl⟩, ?_⟩
  exact ⟨r, _, h, S, start_rel q h3.symm, ps⟩
theorem levels (A : AllF G P tb ds) : ∀ d, COk G (calN P wf d) (2 * d) P.fs.length
  | 0 => fun k hk => by
    obtain ⟨f, ef⟩ : ∃ f, P.fs[k]? = some f := ⟨P.fs[k], List.getElem?_eq_getElem hk⟩
    obtain ⟨d, ed, hd⟩ := A.ck k f ef
    obtain ⟨fd, F, hb⟩ := (A.df k d ed).ex
    refine ⟨fd, d.ps, ⟨fun vs H Q E h => h.1, fun A outer s H args us vs Q E _ _ _ _ h => ?_⟩, F.kp, hb, fun ws h e => absurd rfl e⟩
    obtain ⟨_, r, h, ws, _, _, p⟩ := h
    exact False.elim p
  | d + 1 => fun k hk => by
    have ih := levels A d
    obtain ⟨f, ef⟩ : ∃ f, P.fs[k]? = some f := ⟨P.fs[k], List.getElem?_eq_getElem hk⟩
    obtain ⟨df, ed, hd⟩ := A.ck k f ef
    obtain ⟨fd, F, hb⟩ := (A.df k df ed).ex
    refine ⟨fd, df.ps, fn_step A ih ef hd F, F.kp, hb, fun ws h e => ?_⟩
    simp only [dfB, Bool.and_eq_true, decide_eq_true_eq] at hd
    have : callN P wf (d + 1) k ws h ≠ .no := e
    simp only [callN, ef] at this
    split at this
    · rename_i hl; rw [hl, hd.1.1.2]
    · exact absurd rfl this
/-- a law's promise -/
def spN (G : Gx) (P : Pr) (wf d k : Nat) : Sp := fun vs H Q EX => vs.length = 1 ∧ ∃ r h ws, Sim G r h H ∧ RelWs G r H ws vs ∧ Post G r H (RelW G) Q EX (callN P wf d k ws h)
def h0 (ns : List Int) : Hh := ⟨.n .e (some (.frz (ns.map .int))) .e, 1⟩
theorem law_fn (A : AllF G P tb ds) {d k : Nat} {x : Str} {f : FunI} {df : Df} {fd : FuncData} (ef : P.fs[k]? = some f) (hd : dfB tb df f = true) (hps : df.ps = [x]) (F : FunD G.K df.name df.qual df.params df.body df.scope [] [] (G.fa k) fd) :
    FnOk G.P G.w G.K G.mg G.base CX0 (2 * d + 1 + 1) (G.fa k) fd [x] (spN G P wf (d + 1) k) := by
  have := fn_step (wf := wf) A (levels A d) ef hd F
  rw [hps] at this
  exact this
/-- at the start: the script alone -/
theorem sim0 {a : Addr} {H : Hp} {ns : List Int} (hs : SqF G.K H a (ns.map V.int)) : Sim G [a] (h0 ns) H where
  len := rfl
  ok := fun n b e => by
    cases n with
    | zero =>
      cases e
      exact ⟨.frz (ns.map .int), rfl, _, hs, RelWs.ofInts ns⟩
    | succ n => cases e
  inj := fun n m b o o' e1 e2 g1 g2 f1 f2 => by
    cases n with
    | zero =>
      cases m with
      | zero => rfl
      | succ m => cases e2
    | succ n => cases e1
theorem only_frz {K : PySem.W.Frag} {H : Hp} {a : Addr} {xs : List V} (ho : Only H) (h : SqL K H a xs) : SqF K H a xs := by
  rcases h with h | h
  · rcases h with h | ⟨o, h⟩
    · rcases ho a with z | ⟨o, ys, z⟩
      · rw [z] at h; cases h
      · rw [z] at h; cases h
    · exact .inl ⟨o, h⟩
  · exact .inr h
theorem law_sp {d k : Nat} {wf : Nat} (plain : ∀ ns : List Int, ns.length ≤ 63 → ∃ h', callN P wf d k [.ref 0] (h0 ns) = .ok (.bl true) h') (H : Hp) (a : Addr) (ns : List Int) (hl : ns.length ≤ 63) (ho : Only H) (hs : SqL G.K H a (ns.map V.int)) :
    spN G P wf d k [.ref a] H (fun v _ => v = .bl true) fun _ _ _ => False := by
  obtain ⟨h', e⟩ := plain ns hl
  refine ⟨rfl, [a], h0 ns, [.ref 0], sim0 (only_frz ho hs), .cons (.ref rfl) .nil, ?_⟩
  rw [e]
  intro r' H' b st S q
  cases q
  rfl
end
end Mi

set_option Elab.async false
set_option linter.all false
set_option maxRecDepth 100000
set_option maxHeartbeats 4000000
/-! The head: what the module holds, read by a Hook. -/
namespace Mi
open PySem PySem.Spec PyProof.Rows L2

/-- where a def stands: a global, a method, a property's getter -/
inductive Ad where
  | glo (x : Str) | meth (c m : Str) | prop (c m : Str)
  deriving DecidableEq
def getterAt (K : PySem.W.Frag) (p : Addr) : Addr := match PySem.W.recIn K p "property" with
  | some (.ref g :: _) => g
  | _ => 0
def Ad.at (K : PySem.W.Frag) : Ad → Addr
  | .glo x => He.ga K x
  | .meth c m => He.ma K (He.ga K c) m
  | .prop c m => getterAt K (He.ma K (He.ga K c) m)
/-- a law's tables -/
structure Lw where
  ads : List Ad
  cls : List Str
  pr : Pr
  tb : Tb
  ds : List Df
def adAt (K : PySem.W.Frag) (as : List Ad) (k : Nat) : Addr := match as[k]? with
  | some a => a.at K
  | none => 0
def clAt (K : PySem.W.Frag) (as : List Str) (k : Nat) : Addr := match as[k]? with
  | some a => He.ga K a
  | none => 0
def mkG (lw : Lw) (P : Program) (w : World) (K : PySem.W.Frag) (mg : Str → Option Value) (base : Heap) : Gx :=
  ⟨P, w, K, mg, base, lw.tb.nm, adAt K lw.ads, clAt K lw.cls⟩
/-! ### functions -/
def fnAt (K : PySem.W.Frag) (a : Addr) : He.FnW := match K.lookup a with
  | some ⟨_, _, .func fd, _⟩ => some (fd.name, fd.qualname, fd.params, fd.body, fd.scope, fd.globals, fd.closure, fd.builtins)
  | _ => none
def Df.val (d : Df) : He.FnW := some (d.name, d.qual, d.params, .stmts d.body, d.scope, mainGlobals, [], builtinsNs)
def fnOkB (K : PySem.W.Frag) (a : Addr) (d : Df) : Bool := PySem.W.keepIn K (.ref a) && (match K.lookup a with
  | some ⟨_, _, .func fd, _⟩ => PySem.W.codeIn K fd.code d.qual && (He.dflB K fd.defaults [] && He.kwdB K fd.kwdefaults [])
  | _ => false)
theorem funD_of {K : PySem.W.Frag} {d : Df} {a : Addr} (e : fnAt K a = d.val) (c : fnOkB K a d = true) : ∃ fd, FunD K d.name d.qual d.params d.body d.scope [] [] a fd := by
  obtain ⟨kp, c2⟩ := He.ba c
  unfold fnAt at e
  cases q : K.lookup a with
  | none =>
    rw [q] at c2
    cases c2
  | some o =>
    obtain ⟨oc, od, dt, osl⟩ := o
    rw [q] at c2 e
    cases dt with
    | func fd =>
      obtain ⟨n1, n2, n3, n4, n5, n6, n7, n8, n9, n10, n11, n12, n13, n14, n15⟩ := fd
      have e2 : (some (n1, n2, n3, n4, n5, n6, n7, n15) : He.FnW) = some (d.name, d.qual, d.params, .stmts d.body, d.scope, mainGlobals, [], builtinsNs) := e
      simp only [Option.some.injEq, Prod.mk.injEq] at e2
      obtain ⟨h1, h2, h3, h4, h5, h6, h7, h8⟩ := e2
      subst h1 h2 h3 h4 h5 h6 h7 h8
      have c3 : (PySem.W.codeIn K n13 d.qual && (He.dflB K n8 [] && He.kwdB K n9 [])) = true := c2
      obtain ⟨k1, k2⟩ := He.ba c3
      obtain ⟨k3, k4⟩ := He.ba k2
      exact ⟨_, ⟨oc, od, n8, n9, n10, n11, n12, n13, n14, osl, rfl, q, k1, He.dflB_ok k3, He.kwdB_ok k4⟩, kp⟩
    | _ => cases c2
def BindOk (d : Df) : Prop := ∀ (kV doc pm : Value) (an : Option Addr) (cdv ct : Value) (us : List Value), us.length = d.ps.length → bindArgs (PySem.W.fnOf d.name d.qual d.params d.body d.scope .none kV doc pm an cdv ct) ⟨us, []⟩ = pure (d.ps.zip us)
inductive AllB : List Df → Prop
  | nil : AllB []
  | cons {d : Df} {ds : List Df} : BindOk d → AllB ds → AllB (d :: ds)
theorem AllB.get : ∀ {ds : List Df} {k : Nat} {d : Df}, AllB ds → ds[k]? = some d → BindOk d
  | _, _, _, .nil, e => by simp at e
  | _, 0, _, .cons h _, e => by simp at e; subst e; exact h
  | _, k + 1, _, .cons _ t, e => AllB.get (k := k) t (by simpa using e)
/-! ### facts -/
def propB (K : PySem.W.Frag) (x m : Str) : Bool :=
  He.eqO (PySem.W.findIn K (.ref (He.ga K x)) m) (some (some (.ref (He.ma K (He.ga K x) m)))) && (He.eqO (PySem.W.specialIn K (.ref (He.ma K (He.ga K x) m)) "__get__") (some (some (.builtin "property.__get__"))) &&
    (decide (PySem.W.takesIn K (.ref (He.ma K (He.ga K x) m)) = some true) && (match PySem.W.recIn K (He.ma K (He.ga K x) m) "property" with
      | some (.ref _ :: _) => true
      | _ => false)))
theorem propB_ok {K : PySem.W.Frag} {x m : Str} (h : propB K x m = true) : PropOf K (He.ga K x) m (He.ma K (He.ga K x) m) (getterAt K (He.ma K (He.ga K x) m)) := by
  simp only [propB, Bool.and_eq_true, decide_eq_true_eq] at h
  obtain ⟨h1, h2, h3, h4⟩ := h
  refine ⟨He.eqO_ok h1, He.eqO_ok h2, h3, ?_⟩
  unfold getterAt
  split at h4
  · rename_i g rest e
    rw [e]
    exact ⟨rest, rfl⟩
  · cases h4
def wV : W → Option V
  | .non => some .non
  | .bl b => some (.bl b)
  | .int i => some (.int i)
  | .str x => some (.str x)
  | _ => none
def valB (K : PySem.W.Frag) (w : W) (u : Value) : Bool := match w with
  | .tup ws => (match u with
    | .ref a => (match K.lookup a with
      | some ⟨.type c, _, .seq its _, _⟩ => decide (c = "tuple") && (decide (its.size ≤ sizeLine) && (match ws.mapM wV with
        | some vs => He.relAll vs its.toList
        | none => false))
      | _ => false)
    | _ => false)
  | w => (match wV w with
    | some v => He.relB v u
    | none => false)
theorem wV_rel {G : Gx} {r : Rho} {H : Hp} {w : W} {v : V} (e : wV w = some v) : RelW G r H w v := by
  cases w <;> simp [wV] at e <;> subst e <;> constructor
theorem wVs_rel {G : Gx} {r : Rho} {H : Hp} : ∀ {ws : List W} {vs : List V}, ws.mapM wV = some vs → RelWs G r H ws vs
  | [], vs, e => by simp at e; subst e; exact .nil
  | w :: ws, vs, e => by
    simp only [List.mapM_cons, Option.bind_eq_bind, Option.bind_eq_some_iff] at e
    obtain ⟨v, e1, vs', e2, e3⟩ := e
    cases e3
    exact .cons (wV_rel e1) (wVs_rel e2)
theorem valB_ok {G : Gx} {w : W} {u : Value} (h : valB G.K w u = true) : ∃ v, RelV v u ∧ RelW G [] (fun _ => none) w v := by
  have sc : ∀ w, (match wV w with | some v => He.relB v u | none => false) = true → ∃ v, RelV v u ∧ RelW G [] (fun _ => none) w v := by
    intro w h
    split at h
    · rename_i v e
      exact ⟨v, He.relB_ok h, wV_rel e⟩
    · cases h
  cases w with
  | tup ws =>
    simp only [valB] at h
    split at h
    · rename_i a
      split at h
      · rename_i c od its n sl lk
        simp only [Bool.and_eq_true, decide_eq_true_eq] at h
        obtain ⟨rfl, h2, h3⟩ := h
        split at h3
        · rename_i vs ev
          exact ⟨.ref a, rfl, .tup (.inr ⟨_, its, n, lk, rfl, rfl, h2, He.relAll_ok h3⟩) (wVs_rel ev)⟩
        · cases h3
      · cases h
    · cases h
  | non => exact sc _ h
  | bl b => exact sc _ h
  | int b => exact sc _ h
  | str b => exact sc _ h
  | ref b => exact sc _ h
  | fn b => exact sc _ h
  | cl b => exact sc _ h
def clsB (lw : Lw) (K : PySem.W.Frag) (c : Nat) : Bool := match lw.cls[c]?, lw.pr.cs[c]? with
  | some x, some q => (He.Fa.cls x).ok K && q.eqm.isNone && decide (q.ini < lw.pr.fs.length) && decide (lw.ads[q.ini]? = some (.meth x "__init__")) && (He.Fa.mkr x).ok K &&
    (q.ms.all fun p => decide (p.2 < lw.pr.fs.length) && (match lw.tb.nm[p.1]? with
      | some m => decide (lw.ads[p.2]? = some (.meth x m)) && (He.Fa.meth x m).ok K
      | none => false)) &&
    (q.ps.all fun p => decide (p.2 < lw.pr.fs.length) && (match lw.tb.nm[p.1]? with
      | some m => decide (lw.ads[p.2]? = some (.prop x m)) && propB K x m
      | none => false)) &&
    ((List.range lw.tb.nm.length).all fun f => (q.ms.lookup f).isSome || (q.ps.lookup f).isSome || (match lw.tb.nm[f]? with
      | some m => (He.Fa.noat x m).ok K
      | none => false))
  | _, _ => false
def isiB (lw : Lw) (K : PySem.W.Frag) (c : Nat) : Bool := match lw.cls[c]? with
  | some x => (He.Fa.cls x).ok K && He.eqO (PySem.W.findIn K (.ref (He.ga K x)) "__class__") (some (some (.builtin "object.__class__"))) && He.eqO (PySem.W.specialIn K (.builtin "object.__class__") "__get__") (some (some (.builtin "getset_descriptor.__get__"))) &&
    decide (PySem.W.takesIn K (.builtin "object.__class__") = some true) && decide (PySem.W.mroIn K (He.ga K x) (.type "object") = some true) && decide (PySem.W.kitOne K (.ref (He.ga K x)) (.ref (He.ga K x)) = some true) &&
    (["NoneType", "bool", "int", "str", "list", "tuple", "dict"].all fun y => PySem.W.kitOne K (.type y) (.ref (He.ga K x)) == some false)
  | none => false
def exB (lw : Lw) (K : PySem.W.Frag) : Bool :=
  (lw.tb.fn.all fun p => decide (p.2 < lw.pr.fs.length) && decide (lw.ads[p.2]? = some (.glo p.1)) && (He.Fa.glo p.1).ok K) &&
  (lw.tb.cl.all fun p => decide (p.2 < lw.pr.cs.length) && decide (lw.cls[p.2]? = some p.1) && (He.Fa.glo p.1).ok K) &&
  (lw.tb.cs.all fun p => match PySem.W.nsIn K mainGlobals p.1 with
    | some (some u) => valB K p.2 u
    | _ => false) &&
  (lw.tb.fr.all fun x => (He.Fa.free x).ok K) &&
  ((List.range lw.pr.cs.length).all fun c => clsB lw K c) &&
  (lw.tb.isc.all fun c => isiB lw K c)
/-- what does not lean on the module -/
def ckL (lw : Lw) : Bool := decide lw.tb.nm.Nodup && (lw.tb.ms.all fun f => lw.pr.cs.any fun q => (q.ms.lookup f).isSome) &&
  (List.range lw.pr.fs.length).all fun k => match lw.pr.fs[k]?, lw.ds[k]? with
    | some f, some d => dfB lw.tb d f && parsB d
    | _, _ => false
end Mi

set_option Elab.async false
set_option linter.all false
set_option maxRecDepth 100000
set_option maxHeartbeats 4000000
/-! From the facts to all defs; the law. -/
namespace Mi
open PySem PySem.Spec PyProof.Rows L2

theorem lk_mem {α : Type} : ∀ {l : List (Nat × α)} {k : Nat} {v : α}, l.lookup k = some v → (k, v) ∈ l
  | [], k, v, h => by simp at h
  | (a, b) :: l, k, v, h => by
    by_cases c : k = a
    · subst c; simp [List.lookup] at h; subst h; simp
    · have : (k == a) = false := by simpa using c
      simp [List.lookup, this] at h
      exact List.mem_cons_of_mem _ (lk_mem h)
theorem lkS_mem {α : Type} : ∀ {l : List (Str × α)} {k : Str} {v : α}, l.lookup k = some v → (k, v) ∈ l
  | [], k, v, h => by simp at h
  | (a, b) :: l, k, v, h => by
    by_cases c : k = a
    · subst c; simp [List.lookup] at h; subst h; simp
    · have : (k == a) = false := by simpa using c
      simp [List.lookup, this] at h
      exact List.mem_cons_of_mem _ (lkS_mem h)
theorem adAt_of {K : PySem.W.Frag} {as : List Ad} {k : Nat} {a : Ad} (h : as[k]? = some a) : adAt K as k = a.at K := by simp only [adAt, h]
theorem clAt_of {K : PySem.W.Frag} {as : List Str} {k : Nat} {a : Str} (h : as[k]? = some a) : clAt K as k = He.ga K a := by simp only [clAt, h]
section
variable {lw : Lw} {P : Program} {w : World} {K : PySem.W.Frag} {mg : Str → Option Value} {base h : Heap}
theorem clsB_ok {c : Nat} {q : ClsI} (e : lw.pr.cs[c]? = some q) (hb : clsB lw K c = true) : ClsF (mkG lw P w K mg base) lw.pr.fs.length c q ∧ q.eqm = none := by
  unfold clsB at hb
  cases ex : lw.cls[c]? with
  | none => rw [ex] at hb; cases hb
  | some x =>
    rw [ex, e] at hb
    simp only [Bool.and_eq_true, decide_eq_true_eq] at hb
    obtain ⟨⟨⟨⟨⟨⟨⟨h1, h2⟩, h3⟩, h4⟩, h5⟩, h6⟩, h7⟩, h8⟩ := hb
    have ec : (mkG lw P w K mg base).ca c = He.ga K x := clAt_of ex
    have ei : (mkG lw P w K mg base).fa q.ini = He.ma K (He.ga K x) "__init__" := adAt_of h4
    refine ⟨⟨?_, fun f k hk => ?_, fun f k hk => ?_, fun f m hm hn hp => ?_, h3, ?_⟩, by simpa using h2⟩
    · rw [ec]; exact He.cls_ok h1
    · have := List.all_eq_true.mp h6 (f, k) (lk_mem hk)
      simp only [Bool.and_eq_true, decide_eq_true_eq] at this
      refine ⟨this.1, ?_⟩
      cases em : lw.tb.nm[f]? with
      | none => rw [em] at this; exact absurd this.2 (by simp)
      | some m =>
        rw [em] at this
        simp only [Bool.and_eq_true, decide_eq_true_eq] at this
        refine ⟨m, em, ?_⟩
        have ek : (mkG lw P w K mg base).fa k = He.ma K (He.ga K x) m := adAt_of this.2.1
        rw [ec, ek]; exact He.meth_ok this.2.2
    · have := List.all_eq_true.mp h7 (f, k) (lk_mem hk)
      simp only [Bool.and_eq_true, decide_eq_true_eq] at this
      refine ⟨this.1, ?_⟩
      cases em : lw.tb.nm[f]? with
      | none => rw [em] at this; exact absurd this.2 (by simp)
      | some m =>
        rw [em] at this
        simp only [Bool.and_eq_true, decide_eq_true_eq] at this
        refine ⟨m, He.ma K (He.ga K x) m, em, ?_⟩
        have ek : (mkG lw P w K mg base).fa k = getterAt K (He.ma K (He.ga K x) m) := adAt_of this.2.1
        rw [ec, ek]; exact propB_ok this.2.2
    · have hf : f < lw.tb.nm.length := (List.getElem?_eq_some_iff.mp hm).1
      have := List.all_eq_true.mp h8 f (List.mem_range.mpr hf)
      have hm' : lw.tb.nm[f]? = some m := hm
      rw [hn, hp, hm'] at this
      rw [ec]; exact He.noat_ok (K := K) (by simpa using this)
    · rw [ec, ei]; exact He.mkr_ok h5
theorem isiB_ok {c : Nat} (hb : isiB lw K c = true) : IsiF (mkG lw P w K mg base) c := by
  unfold isiB at hb
  cases ex : lw.cls[c]? with
  | none => rw [ex] at hb; cases hb
  | some x =>
    rw [ex] at hb
    simp only [Bool.and_eq_true, decide_eq_true_eq] at hb
    obtain ⟨⟨⟨⟨⟨⟨h1, h2⟩, h3⟩, h4⟩, h5⟩, h6⟩, h7⟩ := hb
    have ec : (mkG lw P w K mg base).ca c = He.ga K x := clAt_of ex
    refine ⟨?_, ?_, He.eqO_ok h3, h4, ?_, ?_, ?_⟩
    · rw [ec]; exact He.cls_ok h1
    · rw [ec]; exact He.eqO_ok h2
    · rw [ec]; exact h5
    · rw [ec]; exact h6
    · rw [ec]; exact h7
theorem tbF_of (hx : exB lw K = true) (hk : ckL lw = true) (X : K.In h) (N : h.Ns mainGlobals mg) (C : Cal) (hC : C.cs = lw.pr.cs) : TbF (mkG lw P w K mg base) C lw.pr.fs.length lw.tb := by
  simp only [exB, Bool.and_eq_true] at hx
  obtain ⟨⟨⟨⟨⟨h1, h2⟩, h3⟩, h4⟩, h5⟩, h6⟩ := hx
  simp only [ckL, Bool.and_eq_true, decide_eq_true_eq] at hk
  obtain ⟨⟨k1, k2⟩, k3⟩ := hk
  have hcls : ∀ (c : Nat) (q : ClsI), lw.pr.cs[c]? = some q → ClsF (mkG lw P w K mg base) lw.pr.fs.length c q ∧ q.eqm = none := fun c q e =>
    clsB_ok e (List.all_eq_true.mp h5 c (List.mem_range.mpr (List.getElem?_eq_some_iff.mp e).1))
  refine ⟨⟨k1, fun c q e => (hcls c q (by rw [← hC]; exact e)).1⟩, fun c q e => (hcls c q (by rw [← hC]; exact e)).2, rfl, fun x k e => ?_, fun x c e => ?_, fun x v e => ?_, fun x e => ?_, fun f e => ?_, fun c e => ?_⟩
  · have := List.all_eq_true.mp h1 (x, k) (lkS_mem e)
    simp only [Bool.and_eq_true, decide_eq_true_eq] at this
    refine ⟨this.1.1, ?_⟩
    have ek : (mkG lw P w K mg base).fa k = He.ga K x := adAt_of this.1.2
    rw [ek]; exact He.glo_ok X N this.2
  · have := List.all_eq_true.mp h2 (x, c) (lkS_mem e)
    simp only [Bool.and_eq_true, decide_eq_true_eq] at this
    have ek : (mkG lw P w K mg base).ca c = He.ga K x := clAt_of this.1.2
    refine ⟨by rw [ek]; exact He.glo_ok X N this.2, ?_⟩
    rw [hC]
    exact ⟨_, List.getElem?_eq_getElem this.1.1⟩
  · have := List.all_eq_true.mp h3 (x, v) (lkS_mem e)
    dsimp only at this
    split at this
    · rename_i u eu
      obtain ⟨v', r1, r2⟩ := valB_ok (G := mkG lw P w K mg base) this
      exact ⟨u, v', PySem.W.mg_of X N eu, r1, r2⟩
    · cases this
  · have hm : x ∈ lw.tb.fr := by simpa using e
    exact He.free_ok X N (List.all_eq_true.mp h4 x hm)
  · have hm : f ∈ lw.tb.ms := by simpa using e
    have := List.all_eq_true.mp k2 f hm
    rw [List.any_eq_true] at this
    obtain ⟨q, hq, hs⟩ := this
    obtain ⟨c, hc⟩ := List.mem_iff_getElem?.mp hq
    obtain ⟨k, ek⟩ := Option.isSome_iff_exists.mp hs
    exact ⟨c, q, k, by rw [hC]; exact hc, ek⟩
  · have hm : c ∈ lw.tb.isc := by simpa using e
    exact isiB_ok (List.all_eq_true.mp h6 c hm)
end
/-! ### the Hook -/
def obsM (lw : Lw) (K : PySem.W.Frag) : Bool × List He.FnW :=
  (exB lw K && (List.range lw.ds.length).all fun k => match lw.ds[k]? with
    | some d => fnOkB K (adAt K lw.ads k) d
    | none => true, (List.range lw.ds.length).map fun k => fnAt K (adAt K lw.ads k))
def valM (lw : Lw) : Bool × List He.FnW := (true, lw.ds.map Df.val)
def hookM (n : Nat) (lw : Lw) : PySem.W.Hook where
  α := Bool × List He.FnW
  obs := fun s => obsM lw (He.frG s.heap.get? (He.asD s.heap.get? n))
  val := fun _ => valM lw
  says := fun _ h => ∃ K : PySem.W.Frag, K.In h ∧ obsM lw K = valM lw
  of := fun _ _ e => ⟨_, He.frG_in, e⟩
  keeps := fun _ _ _ ⟨K, hK, c⟩ k => ⟨K, PySem.W.Frag.In.keeps hK k, c⟩
def obT (n : Nat) (lw : Lw) (s : PySem.W.SharedT) : Bool × List He.FnW := obsM lw (He.frG (HandSHeadRun.getT s) (He.asD (HandSHeadRun.getT s) n))
theorem obT_eq (n : Nat) (lw : Lw) (s : PySem.W.SharedT) : obT n lw s = (hookM n lw).obs s.abs := by
  have e : HandSHeadRun.getT s = s.abs.heap.get? := funext (HandSHeadRun.getT_eq s)
  show obsM lw (He.frG (HandSHeadRun.getT s) (He.asD (HandSHeadRun.getT s) n)) = obsM lw (He.frG s.abs.heap.get? (He.asD s.abs.heap.get? n))
  rw [e]
section
variable {lw : Lw} {P : Program} {w : World} {K : PySem.W.Frag} {mg : Str → Option Value} {base h : Heap}
theorem funs_of (e : obsM lw K = valM lw) {k : Nat} {d : Df} (hd : lw.ds[k]? = some d) : ∃ fd, FunD K d.name d.qual d.params d.body d.scope [] [] (adAt K lw.ads k) fd := by
  have e1 := congrArg Prod.fst e
  have e2 := congrArg Prod.snd e
  simp only [obsM, valM, Bool.and_eq_true] at e1 e2
  have hk : k < lw.ds.length := (List.getElem?_eq_some_iff.mp hd).1
  have e3 := List.all_eq_true.mp e1.2 k (List.mem_range.mpr hk)
  rw [hd] at e3
  have e4 := congrArg (fun l => l[k]?) e2
  simp only [List.getElem?_map, List.getElem?_range hk, hd, Option.map_some, Option.some.injEq] at e4
  exact funD_of e4 e3
theorem ex_of (e : obsM lw K = valM lw) : exB lw K = true := by
  have e1 := congrArg Prod.fst e
  simp only [obsM, valM, Bool.and_eq_true] at e1
  exact e1.1
theorem allF_of (e : obsM lw K = valM lw) (hk : ckL lw = true) (hb : AllB lw.ds) (X : K.In h) (N : h.Ns mainGlobals mg) : AllF (mkG lw P w K mg base) lw.pr lw.tb lw.ds where
  tbF := fun C hC => tbF_of (ex_of e) hk X N C hC
  df := fun k d hd => by
    obtain ⟨fd, F⟩ := funs_of e hd
    exact ⟨fd, F, FunD.bindsN F (hb.get hd)⟩
  ck := fun k f hf => by
    simp only [ckL, Bool.and_eq_true] at hk
    have := List.all_eq_true.mp hk.2 k (List.mem_range.mpr (List.getElem?_eq_some_iff.mp hf).1)
    rw [hf] at this
    cases hd : lw.ds[k]? with
    | none => rw [hd] at this; cases this
    | some d =>
      rw [hd] at this
      simp only [Bool.and_eq_true] at this
      exact ⟨d, rfl, this.1⟩
/-- what walk_ofE asks -/
theorem law_facts {d k wf : Nat} {x : Str} {f : FunI} {df : Df} {fa : Addr} {P : Program} {w : World} (hk : ckL lw = true) (hb : AllB lw.ds) (ef : lw.pr.fs[k]? = some f) (ed : lw.ds[k]? = some df) (hps : df.ps = [x]) (had : lw.ads[k]? = some (.glo "law"))
    (plain : ∀ ns : List Int, ns.length ≤ 63 → ∃ h', callN lw.pr wf (d + 1) k [.ref 0] (h0 ns) = .ok (.bl true) h') (hfn : lw.tb.fn.lookup ("law" : Str) = some k) (X : K.In h) (N : h.Ns mainGlobals mg) (e : obsM lw K = valM lw) (hmg : mg ("law" : Str) = some (.ref fa)) :
    ∃ (K : PySem.W.Frag) (fd : FuncData) (sp : Sp), K.In h ∧ (∀ (s : Shared) (u : Value), BindsTo s fd ⟨[u], []⟩ [(x, u)]) ∧
      (∀ (H : Hp) (a : Addr) (ns : List Int), ns.length ≤ 63 → Only H → SqL K H a (ns.map V.int) → sp [.ref a] H (fun v _ => v = .bl true) fun _ _ _ => False) ∧
      ∀ base : Heap, K.In base → base.Ns mainGlobals mg → FnOk P w K mg base CX0 (2 * d + 1 + 1) fa fd [x] sp := by
  obtain ⟨fd, F⟩ := funs_of e ed
  have eg := (tbF_of (P := P) (w := w) (base := h) (ex_of e) hk X N ⟨fun _ _ _ => .no, lw.pr.cs, 0⟩ rfl).fnF "law" k hfn
  have ea : fa = adAt K lw.ads k := by
    have := eg.2.symm.trans hmg
    cases this; rfl
  subst ea
  have b := FunD.bindsA (ps := df.ps) F (hb.get ed)
  have hd : dfB lw.tb df f = true := by
    have A := allF_of (P := P) (w := w) (base := h) e hk hb X N
    obtain ⟨d', e1, e2⟩ := A.ck k f ef
    rw [ed] at e1; cases e1; exact e2
  refine ⟨K, fd, fun vs H Q EX => vs.length = 1 ∧ ∀ base, ∃ r h ws, Sim (mkG lw P w K mg base) r h H ∧ RelWs (mkG lw P w K mg base) r H ws vs ∧ Post (mkG lw P w K mg base) r H (RelW (mkG lw P w K mg base)) Q EX (callN lw.pr wf (d + 1) k ws h), X, fun s u => by have := b s [u] (by rw [hps]; rfl); rw [hps] at this; exact this, fun H a ns hl ho hs => ?_, fun base KB NB => ?_⟩
  · exact ⟨rfl, fun base => (law_sp (G := mkG lw P w K mg base) plain H a ns hl ho hs).2⟩
  · have A := allF_of (P := P) (w := w) (base := base) e hk hb KB NB
    have := law_fn (wf := wf) (d := d) A ef hd hps F
    exact this.imp fun vs H Q EX h => ⟨h.1, h.2 base⟩
end
end Mi

set_option Elab.async false
set_option linter.all false
set_option maxRecDepth 100000
set_option maxHeartbeats 4000000
/-! A second interpreter: lists are values, but where the text says mut. -/
namespace Mu
open PySem
open Mi (E Es Eo It Tg Tgs Ss Key Bop Cop Bc Bm Bt Ty Pr FunI ClsI W tgsL keysI intsW boolsW insI sortI dedI minI maxI)

inductive U where
  | non | bl (b : Bool) | int (i : Int) | str (x : Str) | tup (us : List U) | lst (us : List U) | frz (us : List U) | ref (n : Nat) | fn (k : Nat) | cl (k : Nat)
abbrev Fu := List (Nat × U)
inductive OU where
  | lst (us : List U) | dic (kvs : List (Key × U)) | ins (c : Nat) (fs : Fu)
abbrev Hu := List OU
inductive R (α : Type) where
  | ok (a : α) (h : Hu) | ex (c : Nat) (fs : Fu) (h : Hu) | no
def R.bind {α β : Type} (r : R α) (f : α → Hu → R β) : R β := match r with
  | .ok a h => f a h
  | .ex c fs h => .ex c fs h
  | .no => .no
def R.nx {α : Type} (r : R α) : R α := match r with
  | .ok a h => .ok a h
  | _ => .no
def R.bindN {α β : Type} (r : R α) (f : α → Hu → R β) : R β := match r with
  | .ok a h => f a h
  | _ => .no
def R.of {α : Type} (h : Hu) : Option α → R α
  | some a => .ok a h
  | none => .no
abbrev Sl := List (Option U)
inductive RS where
  | nx (s : Sl) (h : Hu) | rt (w : U) (h : Hu) | bk (s : Sl) (h : Hu) | ct (s : Sl) (h : Hu) | ex (c : Nat) (fs : Fu) (s : Sl) (h : Hu) | no
def R.toS {α : Type} (r : R α) (s : Sl) (f : α → Hu → RS) : RS := match r with
  | .ok a h => f a h
  | .ex c fs h => .ex c fs s h
  | .no => .no
structure Cal where
  call : Nat → List U → Hu → R U
  cs : List ClsI
  wf : Nat

mutual
def ofW : W → Option U
  | .non => some .non
  | .bl b => some (.bl b)
  | .int i => some (.int i)
  | .str x => some (.str x)
  | .tup ws => match ofWs ws with
    | some us => some (.tup us)
    | none => none
  | .ref _ => none
  | .fn k => some (.fn k)
  | .cl k => some (.cl k)
def ofWs : List W → Option (List U)
  | [] => some []
  | w :: ws => match ofW w, ofWs ws with
    | some u, some us => some (u :: us)
    | _, _ => none
end

/-! ### values -/
def keyU : U → Option Key
  | .int i => some (.inl i)
  | .str x => some (.inr x)
  | _ => none
def kU : Key → U
  | .inl i => .int i
  | .inr x => .str x
/-- a list, not frozen -/
def lstU (h : Hu) : U → Option (List U)
  | .lst us => some us
  | .ref n => match h[n]? with
    | some (.lst us) => some us
    | _ => none
  | _ => none
/-- a list -/
def lsfU (h : Hu) : U → Option (List U)
  | .lst us => some us
  | .frz us => some us
  | .ref n => match h[n]? with
    | some (.lst us) => some us
    | _ => none
  | _ => none
def seqU (h : Hu) : U → Option (List U)
  | .tup us => some us
  | .lst us => some us
  | .frz us => some us
  | .ref n => match h[n]? with
    | some (.lst us) => some us
    | _ => none
  | _ => none
def dicU (h : Hu) : U → Option (List (Key × U))
  | .ref n => match h[n]? with
    | some (.dic kvs) => some kvs
    | _ => none
  | _ => none
def dat : Nat → Hu → U → Option PyData
  | 0, _, _ => none
  | n + 1, h, u => match u with
    | .non => some .none
    | .bl b => some (.bool b)
    | .int i => some (.int i)
    | .str x => if PyData.canLay0 (.str x) = true then some (.str x) else none
    | .tup us => (us.mapM fun w => dat n h w).map .tuple
    | .lst us => (us.mapM fun w => dat n h w).map .list
    | .frz us => (us.mapM fun w => dat n h w).map .list
    | .ref k => match h[k]? with
      | some (.lst us) => (us.mapM fun w => dat n h w).map .list
      | _ => none
    | _ => none
def tru (h : Hu) : U → Option Bool
  | .non => some false
  | .bl b => some b
  | .int i => some (i != 0)
  | .str x => if x.length ≤ sizeLine then some ((x.length : Int) != 0) else none
  | .tup us => some (!us.isEmpty)
  | .lst us => some (!us.isEmpty)
  | .frz us => some (!us.isEmpty)
  | .ref n => match h[n]? with
    | some (.lst us) => some (!us.isEmpty)
    | some (.dic kvs) => some (!kvs.isEmpty)
    | _ => none
  | _ => none
def newL (h : Hu) (us : List U) : R U := if us.length ≤ sizeLine then .ok (.lst us) h else .no
def newT (h : Hu) (us : List U) : R U := if us.length ≤ sizeLine then .ok (.tup us) h else .no

def intI (h : Hu) (x y : U) (f : Int → Int → Option U) : R U := match x, y with
  | .int i, .int j => .of h (f i j)
  | _, _ => .no
def addU (x y : U) (h : Hu) : R U := match lstU h x, lstU h y with
  | some xs, some ys => newL h (xs ++ ys)
  | _, _ => match x, y with
    | .int i, .int j => .ok (.int (i + j)) h
    | .str a, .str b => if a.length + b.length ≤ sizeLine then .ok (.str (a ++ b)) h else .no
    | .tup xs, .tup ys => if xs.isEmpty then .no else newT h (xs ++ ys)
    | _, _ => .no
def mulU (x y : U) (h : Hu) : R U := match lstU h x with
  | some xs => match y with
    | .int k => if -(2 ^ 63) ≤ k ∧ k < 2 ^ 63 ∧ xs.length * k.toNat ≤ sizeLine then .ok (.lst (List.replicate k.toNat xs).flatten) h else .no
    | _ => .no
  | none => match x, y with
    | .int i, .int j => if L2.CMul i j then .ok (.int (i * j)) h else .no
    | _, _ => .no
def binU (op : Bop) (x y : U) (h : Hu) : R U := match op with
  | .add => addU x y h
  | .mul => mulU x y h
  | .sub => intI h x y fun i j => some (.int (i - j))
  | .fdiv => intI h x y fun i j => if L2.CDiv i j then some (.int (i / j)) else none
  | .mod => intI h x y fun i j => if 0 < j then some (.int (i % j)) else none
  | .pow => intI h x y fun i j => if L2.CPow i j then some (.int (i ^ j.toNat)) else none
  | .shl => intI h x y fun i j => if L2.CPow i j then some (.int (i * 2 ^ j.toNat)) else none
  | .shr => intI h x y fun i j => if 0 ≤ j then some (.int (i / 2 ^ j.toNat)) else none
  | .band => intI h x y fun i j => some (.int (Builtin.bitAnd i j))
  | .bor => intI h x y fun i j => some (.int (Builtin.bitOr i j))
  | .bxor => intI h x y fun i j => some (.int (Builtin.bitXor i j))
def flatU : U → Bool
  | .non => true | .bl _ => true | .int _ => true | .str _ => true | _ => false
def eqF : U → U → Bool
  | .non, .non => true
  | .bl a, .bl b => a == b
  | .bl a, .int b => (if a then 1 else 0) == b
  | .int a, .bl b => a == (if b then 1 else 0)
  | .int a, .int b => a == b
  | .str a, .str b => a == b
  | _, _ => false
def isNon : U → Bool
  | .non => true | _ => false
def valK (kvs : List (Key × U)) (k : Key) : Option U := (kvs.find? fun kv => decide (kv.1 = k)).map (·.2)
def putK (kvs : List (Key × U)) (k : Key) (v : U) : List (Key × U) :=
  if (kvs.any fun kv => decide (kv.1 = k)) = true then kvs.map (fun kv => if kv.1 = k then (kv.1, v) else kv) else kvs ++ [(k, v)]
def dropK (kvs : List (Key × U)) (k : Key) : List (Key × U) := kvs.filter fun kv => decide (kv.1 ≠ k)
def inU (x y : U) (h : Hu) : Option Bool := match seqU h y with
  | some us => if flatU x && us.all flatU then some (us.any fun z => eqF z x) else none
  | none => match dicU h y, keyU x with
    | some kvs, some k => some (valK kvs k).isSome
    | _, _ => none
def eqData (x y : U) (h : Hu) : Option Bool := match dat Mi.dataD h x, dat Mi.dataD h y with
  | some d, some e => some (PyData.eqv d e)
  | _, _ => none
def ownEq (C : Cal) (x : U) (h : Hu) : Option Nat := match x with
  | .ref n => match h[n]? with
    | some (.ins c _) => (C.cs[c]?).bind fun q => q.eqm
    | _ => none
  | _ => none
def cmpU (C : Cal) (op : Cop) (x y : U) (h : Hu) : R U := match op with
  | .eq => match ownEq C x h with
    | some k => (C.call k [x, y] h).bindN fun r h1 => match r with
      | .bl b => .ok (.bl b) h1
      | _ => .no
    | none => .of h ((eqData x y h).map .bl)
  | .ne => match ownEq C x h with
    | some k => (C.call k [x, y] h).bindN fun r h1 => match r with
      | .bl b => .ok (.bl (!b)) h1
      | _ => .no
    | none => .of h ((eqData x y h).map fun b => .bl (!b))
  | .is => match y with
    | .non => .ok (.bl (isNon x)) h
    | .bl b => match x with
      | .bl a => .ok (.bl (decide (a = b))) h
      | _ => .no
    | _ => .no
  | .isn => match y with
    | .non => .ok (.bl (!isNon x)) h
    | .bl b => match x with
      | .bl a => .ok (.bl (!decide (a = b))) h
      | _ => .no
    | _ => .no
  | .lt => intI h x y fun i j => some (.bl (decide (i < j)))
  | .le => intI h x y fun i j => some (.bl (decide (i ≤ j)))
  | .gt => intI h x y fun i j => some (.bl (decide (j < i)))
  | .ge => intI h x y fun i j => some (.bl (decide (j ≤ i)))
  | .isin => .of h ((inU x y h).map .bl)
  | .nin => .of h ((inU x y h).map fun b => .bl (!b))
/-! ### built-ins -/
def intsU : List U → Option (List Int)
  | [] => some []
  | .int i :: r => (intsU r).map (i :: ·)
  | _ :: _ => none
def boolsU : List U → Option (List Bool)
  | [] => some []
  | .bl i :: r => (boolsU r).map (i :: ·)
  | _ :: _ => none
def lenU (h : Hu) (x : U) : Option Nat := match seqU h x with
  | some us => some us.length
  | none => match dicU h x with
    | some kvs => some kvs.length
    | none => match x with
      | .str x => if x.length ≤ sizeLine then some x.length else none
      | _ => none
def keysU : List (Key × U) → Option (List Int)
  | [] => some []
  | (.inl i, _) :: r => (keysU r).map (i :: ·)
  | _ :: _ => none
def sorted1 (h : Hu) (ns : List Int) : R U := if ns.length < 64 then .ok (.lst ((sortI ns).map .int)) h else .no
def reprU (x : U) : Option Str := match x with
  | .non => some "None"
  | .bl b => some (if b then "True" else "False")
  | .int i => if i.natAbs.log2 < 1920 then some (toString i) else none
  | .str x => if (reprText x).length ≤ sizeLine then some (reprText x) else none
  | _ => none
def bcU (b : Bc) (xs : List U) (h : Hu) : R U := match b, xs with
  | .len1, [x] => match lenU h x with
    | some n => .ok (.int (n : Int)) h
    | none => .no
  | .abs1, [.int i] => .ok (.int (if i < 0 then -i else i)) h
  | .int1, [.int i] => .ok (.int i) h
  | .int1, [.bl k] => .ok (.int (if k then 1 else 0)) h
  | .list1, [x] => match seqU h x with
    | some us => .ok (.lst us) h
    | none => match dicU h x with
      | some kvs => .ok (.lst (kvs.map fun kv => kU kv.1)) h
      | none => .no
  | .tuple1, [x] => match seqU h x with
    | some us => .ok (.tup us) h
    | none => .no
  | .sorted1, [x] => match lsfU h x with
    | some us => match intsU us with
      | some ns => sorted1 h ns
      | none => .no
    | none => match dicU h x with
      | some kvs => match keysU kvs with
        | some ns => sorted1 h ns
        | none => .no
      | none => .no
  | .dict1, [x] => match dicU h x with
    | some kvs => .ok (.ref h.length) (h ++ [.dic kvs])
    | none => .no
  | .repr1, [x] => .of h ((reprU x).map .str)
  | .any1, [x] => match (lsfU h x).bind boolsU with
    | some bs => .ok (.bl (bs.any id)) h
    | none => .no
  | .all1, [x] => match (lsfU h x).bind boolsU with
    | some bs => .ok (.bl (bs.all id)) h
    | none => .no
  | .sum1, [x] => match (lsfU h x).bind intsU with
    | some ns => .ok (.int ns.sum) h
    | none => .no
  | .min1, [x] => match (lsfU h x).bind intsU with
    | some (n :: ns) => .ok (.int (minI n ns)) h
    | _ => .no
  | .max1, [x] => match (lsfU h x).bind intsU with
    | some (n :: ns) => .ok (.int (maxI n ns)) h
    | _ => .no
  | .max2, [.int i, .int j] => .ok (.int (if j > i then j else i)) h
  | .min2, [.int i, .int j] => .ok (.int (if j < i then j else i)) h
  | .divmod2, [.int i, .int j] => if L2.CDiv i j then .ok (.tup [.int (i / j), .int (i % j)]) h else .no
  | _, _ => .no
def remAt (x : U) (h : Hu) (us : List U) : Option Nat := match us.mapM (fun w => dat Mi.dataD h w), dat Mi.dataD h x with
  | some ds, some d => ds.findIdx? fun z => PyData.eqv z d
  | _, _ => none
def bmU (b : Bm) (o : U) (xs : List U) (h : Hu) : R U := match o with
  | .ref n => match h[n]? with
    | some (.lst ws) => match b, xs with
      | .append1, [y] => if ws.length < sizeLine then .ok .non (h.set n (.lst (ws ++ [y]))) else .no
      | .insert2, [.int i, y] => if i = 0 ∧ ws.length < sizeLine then .ok .non (h.set n (.lst (y :: ws))) else .no
      | .pop0, [] => match ws[ws.length - 1]? with
        | some y => .ok y (h.set n (.lst ws.dropLast))
        | none => .no
      | .pop1, [.int i] => if -(2 ^ 63) ≤ i ∧ i < 2 ^ 63 then match L2.ixN ws.length i with
        | some k => match ws[k]? with
          | some y => .ok y (h.set n (.lst (ws.eraseIdx k)))
          | none => .no
        | none => .no else .no
      | .remove1, [x] => match remAt x h ws with
        | some k => .ok .non (h.set n (.lst (ws.eraseIdx k)))
        | none => .no
      | _, _ => .no
    | some (.dic kvs) => match b, xs with
      | .pop1, [x] => match keyU x with
        | some k => match valK kvs k with
          | some v => .ok v (h.set n (.dic (dropK kvs k)))
          | none => .no
        | none => .no
      | _, _ => .no
    | _ => .no
  | _ => .no
/-- the receiver is a list that may change -/
def kindU (h : Hu) (x : U) : Option Bool := match x with
  | .ref n => match h[n]? with
    | some (.lst _) => some true
    | some (.dic _) => some false
    | _ => none
  | _ => none
end Mu

set_option Elab.async false
set_option linter.all false
set_option maxRecDepth 100000
set_option maxHeartbeats 4000000
/-! The second interpreter's evaluation. -/
namespace Mu
open PySem
open Mi (E Es Eo It Tg Tgs Ss Key Bop Cop Bc Bm Bt Ty Pr FunI ClsI W tgsL keysI intsW boolsW insI sortI dedI minI maxI)

def tyName (h : Hu) : U → Option (Sum Nat (List Bt))
  | .non => some (.inr [])
  | .bl _ => some (.inr [.bool, .int])
  | .int _ => some (.inr [.int])
  | .str _ => some (.inr [.str])
  | .tup _ => some (.inr [.tuple])
  | .lst _ => some (.inr [.list])
  | .frz _ => some (.inr [.list])
  | .ref n => match h[n]? with
    | some (.lst _) => some (.inr [.list])
    | some (.dic _) => some (.inr [.dict])
    | some (.ins c _) => some (.inl c)
    | none => none
  | _ => none
def isOne (h : Hu) (x : U) (t : Ty) : Option Bool := match tyName h x, t with
  | some (.inl c), .own d => if c = d then some true else none
  | some (.inr _), .own _ => some false
  | some (.inr ns), .bi b => some (ns.contains b)
  | _, _ => none
def isiU (h : Hu) (x : U) : List Ty → Option Bool
  | [] => some false
  | t :: ts => match isOne h x t with
    | some true => some true
    | some false => isiU h x ts
    | none => none
def rngGo (istup : Bool) (h : Hu) (a b : Int) : R U :=
  if -(2 ^ 62) ≤ a ∧ a < 2 ^ 62 ∧ -(2 ^ 62) ≤ b ∧ b < 2 ^ 62 ∧ (b - a).toNat ≤ 2 ^ 24 then
    .ok ((if istup then U.tup else U.lst) ((List.range (b - a).toNat).map fun i => U.int (a + (i : Nat)))) h
  else .no
def rngU (istup : Bool) (xs : List U) (h : Hu) : R U := match xs with
  | [.int b] => rngGo istup h 0 b
  | [.int a, .int b] => rngGo istup h a b
  | _ => .no
def ssetU (x : U) (h : Hu) : R U := match (seqU h x).bind intsU with
  | some ns => if ns.length < 64 then .ok (.lst ((dedI (sortI ns)).map .int)) h else .no
  | none => .no
/-! ### subscripts, slices, fields -/
def ixU (x i : U) (h : Hu) : Option U := match seqU h x with
  | some us => match i with
    | .int j => L2.atI us j
    | _ => none
  | none => match dicU h x, keyU i with
    | some kvs, some k => valK kvs k
    | _, _ => none
def cutU (us : List U) (lo hi : Option Int) : List U := (us.drop (HT.sIx us.length 0 lo)).take (HT.sIx us.length us.length hi - HT.sIx us.length 0 lo)
def slcU (x : U) (lo hi : Option Int) (h : Hu) : R U := match x with
  | .tup us => if HT.sIx us.length 0 lo = 0 ∧ HT.sIx us.length us.length hi = us.length then .no else .ok (.tup (cutU us lo hi)) h
  | _ => match seqU h x with
    | some us => .ok (.lst (cutU us lo hi)) h
    | none => .no
def revU (x : U) (h : Hu) : R U := match lsfU h x with
  | some us => .ok (.lst us.reverse) h
  | none => .no
def fldU (C : Cal) (x : U) (f : Nat) (h : Hu) : R U := match x with
  | .ref n => match h[n]? with
    | some (.ins c fs) => match C.cs[c]? with
      | some q => match q.ps.lookup f with
        | some k => C.call k [x] h
        | none => match q.ms.lookup f with
          | some _ => .no
          | none => .of h (fs.lookup f)
      | none => .no
    | _ => .no
  | _ => .no
def putF (f : Nat) (v : U) : Fu → Fu
  | [] => [(f, v)]
  | (g, x) :: r => if g = f then (g, v) :: r else (g, x) :: putF f v r
def setFld (C : Cal) (x : U) (f : Nat) (v : U) (h : Hu) : Option Hu := match x with
  | .ref n => match h[n]? with
    | some (.ins c fs) => match C.cs[c]? with
      | some q => match q.ps.lookup f, q.ms.lookup f with
        | none, none => if fs.length < 1000 then some (h.set n (.ins c (putF f v fs))) else none
        | _, _ => none
      | none => none
    | _ => none
  | _ => none
def setIx (x i v : U) (h : Hu) : Option Hu := match x with
  | .ref n => match h[n]? with
    | some (.lst us) => match i with
      | .int k => match L2.ixN us.length k with
        | some j => some (h.set n (.lst (us.set j v)))
        | none => none
      | _ => none
    | some (.dic kvs) => match keyU i with
      | some k => if kvs.length < sizeLine then some (h.set n (.dic (putK kvs k v))) else none
      | none => none
    | _ => none
  | _ => none
/-- x[:] = v -/
def setAll (x v : U) (h : Hu) : Option Hu := match x with
  | .ref n => match h[n]?, v with
    | some (.lst _), .lst vs => some (h.set n (.lst vs))
    | some (.lst _), .ref m => match h[m]? with
      | some (.lst vs) => if n = m then none else some (h.set n (.lst vs))
      | _ => none
    | _, _ => none
  | _ => none
def methOf (C : Cal) (x : U) (m : Nat) (h : Hu) : Option Nat := match x with
  | .ref n => match h[n]? with
    | some (.ins c fs) => match C.cs[c]?, fs.lookup m with
      | some q, none => q.ms.lookup m
      | _, _ => none
    | _ => none
  | _ => none
def permU (pm : List Nat) (us : List U) : Option (List U) := match pm with
  | [] => some us
  | _ => pm.mapM fun i => us[i]?
def makeU (C : Cal) (c : Nat) (us : List U) (h : Hu) : R U := match C.cs[c]? with
  | some q => (C.call q.ini (.ref h.length :: us) (h ++ [.ins c []])).bind fun r h1 => match r with
    | .non => .ok (.ref h.length) h1
    | _ => .no
  | none => .no
/-! ### what is walked -/
inductive J where
  | seq (u : U) | rng (lo : Int) (n : Nat) | enm (u : U) | zip (a b : U)
def J.next (j : J) (i : Nat) (h : Hu) : Option (Option U) := match j with
  | .seq u => (seqU h u).map fun us => us[i]?
  | .rng lo n => some (if i < n then some (.int (lo + (i : Nat))) else none)
  | .enm u => (lsfU h u).map fun us => (us[i]?).map fun w => .tup [.int (i : Nat), w]
  | .zip a b => match lsfU h a, lsfU h b with
    | some xs, some ys => match xs[i]?, ys[i]? with
      | some x, some y => some (some (.tup [x, y]))
      | _, _ => some none
    | _, _ => none
def J.fuel (j : J) (h : Hu) : Nat := match j with
  | .seq u => match seqU h u with
    | some us => us.length + 1
    | none => 0
  | .rng _ n => n + 1
  | .enm u => match lsfU h u with
    | some us => us.length + 1
    | none => 0
  | .zip a b => match lsfU h a with
    | some xs => xs.length + 1
    | none => 0
def rngJ (a b : Int) (h : Hu) : R J := if -(2 ^ 62) ≤ a ∧ a < 2 ^ 62 ∧ -(2 ^ 62) ≤ b ∧ b < 2 ^ 62 then .ok (.rng a (b - a).toNat) h else .no
def wipeS (s : Sl) : List Nat → Sl
  | [] => s
  | v :: vs => (wipeS s vs).set v none
def compL (asg : U → Sl → Hu → R Sl) (tst : Sl → Hu → R Bool) (elt : Sl → Hu → R U) (j : J) (s : Sl) : Nat → Nat → List U → Hu → R (List U)
  | 0, _, _, _ => .no
  | k + 1, i, acc, h => match j.next i h with
    | none => .no
    | some none => .ok acc h
    | some (some w) => (asg w s h).bindN fun s1 h1 => (tst s1 h1).bindN fun b h2 => match b with
      | true => (elt s1 h2).bindN fun y h3 => if acc.length < sizeLine then compL asg tst elt j s k (i + 1) (acc ++ [y]) h3 else .no
      | false => compL asg tst elt j s k (i + 1) acc h2
def forL (asg : U → Sl → Hu → R Sl) (body : Sl → Hu → RS) (j : J) : Nat → Nat → Sl → Hu → RS
  | 0, _, _, _ => .no
  | k + 1, i, s, h => match j.next i h with
    | none => .no
    | some none => .nx s h
    | some (some w) => (asg w s h).toS s fun s1 h1 => match body s1 h1 with
      | .nx s2 h2 => forL asg body j k (i + 1) s2 h2
      | .ct s2 h2 => forL asg body j k (i + 1) s2 h2
      | .bk s2 h2 => .nx s2 h2
      | r => r
def whlL (tst : Sl → Hu → R Bool) (body : Sl → Hu → RS) : Nat → Sl → Hu → RS
  | 0, _, _ => .no
  | k + 1, s, h => (tst s h).toS s fun b h1 => match b with
    | false => .nx s h1
    | true => match body s h1 with
      | .nx s2 h2 => whlL tst body k s2 h2
      | .ct s2 h2 => whlL tst body k s2 h2
      | .bk s2 h2 => .nx s2 h2
      | r => r
def getS (s : Sl) (i : Nat) : Option U := match s[i]? with
  | some (some w) => some w
  | _ => none
/-- what makes a list of its own -/
def isFr : E → Bool
  | .lst _ => true
  | .bin op _ _ => decide (op = .add) || decide (op = .mul)
  | .rev _ => true
  | .slc _ _ _ => true
  | .bc b _ => decide (b = .list1) || decide (b = .sorted1)
  | .rngL _ _ => true
  | .sset _ => true
  | .comp _ _ _ _ _ => true
  | _ => false
def thaw (fr : Bool) (u : U) (h : Hu) : R U := match fr, u with
  | true, .lst us => .ok (.ref h.length) (h ++ [.lst us])
  | _, _ => .no

/-! ### evaluation -/
mutual
def evE (C : Cal) : E → Sl → Hu → R U
  | .cst w, _, h => .of h (ofW w)
  | .glo w, _, h => .of h (ofW w)
  | .var i, s, h => .of h (getS s i)
  | .mut e, s, h => (evE C e s h).bind fun u h1 => thaw (isFr e) u h1
  | .bin op a b, s, h => (evE C a s h).bind fun x h1 => (evE C b s h1).bind fun y h2 => (binU op x y h2).nx
  | .neg a, s, h => (evE C a s h).bind fun x h1 => match x with
    | .int i => .ok (.int (-i)) h1
    | _ => .no
  | .notE a, s, h => (evE C a s h).bind fun x h1 => .of h1 ((tru h1 x).map fun k => .bl (!k))
  | .andE a b, s, h => (evE C a s h).bind fun x h1 => match tru h1 x with
    | some true => evE C b s h1
    | some false => .ok x h1
    | none => .no
  | .orE a b, s, h => (evE C a s h).bind fun x h1 => match tru h1 x with
    | some true => .ok x h1
    | some false => evE C b s h1
    | none => .no
  | .cmp op a b, s, h => (evE C a s h).bind fun x h1 => (evE C b s h1).bind fun y h2 => (cmpU C op x y h2).nx
  | .cmp2 op op' a b c, s, h => (evE C a s h).bind fun x h1 => (evE C b s h1).bind fun y h2 => (cmpU C op x y h2).bindN fun r h3 => match r with
    | .bl true => (evE C c s h3).bind fun z h4 => (cmpU C op' y z h4).nx
    | .bl false => .ok (.bl false) h3
    | _ => .no
  | .ife c a b, s, h => (evT C c s h).bind fun k h1 => match k with
    | true => evE C a s h1
    | false => evE C b s h1
  | .fld o f, s, h => (evE C o s h).bind fun x h1 => (fldU C x f h1).nx
  | .ix o i, s, h => (evE C o s h).bind fun x h1 => (evE C i s h1).bind fun y h2 => .of h2 (ixU x y h2)
  | .rev o, s, h => (evE C o s h).bind fun x h1 => (revU x h1).nx
  | .slc o lo hi, s, h => (evE C o s h).bind fun x h1 => (evO C lo s h1).bind fun a h2 => (evO C hi s h2).bind fun b h3 => (slcU x a b h3).nx
  | .lst es, s, h => (evEs C es s h).bind fun ws h1 => (newL h1 ws).nx
  | .tup es, s, h => (evEs C es s h).bind fun ws h1 => (newT h1 ws).nx
  | .dic0, _, h => .ok (.ref h.length) (h ++ [.dic []])
  | .dic _ _, _, _ => .no
  | .call k es pm, s, h => (evEs C es s h).bind fun ws h1 => match permU pm ws with
    | some vs => C.call k vs h1
    | none => .no
  | .make c es pm, s, h => (evEs C es s h).bind fun ws h1 => match permU pm ws with
    | some vs => makeU C c vs h1
    | none => .no
  | .meth o m es pm, s, h => (evE C o s h).bind fun x h1 => match methOf C x m h1 with
    | some k => (evEs C es s h1).bind fun ws h2 => match permU pm ws with
      | some vs => C.call k (x :: vs) h2
      | none => .no
    | none => .no
  | .callv i es, s, h => match getS s i with
    | some (.fn k) => (evEs C es s h).bind fun ws h1 => C.call k ws h1
    | _ => .no
  | .bc b es, s, h => (evEs C es s h).bind fun ws h1 => (bcU b ws h1).nx
  | .bm b o es, s, h => (evE C o s h).bind fun x h1 => match kindU h1 x with
    | some k => if (k || decide (b = .pop1)) = true then (evEs C es s h1).bind fun ws h2 => if kindU h2 x = some k then (bmU b x ws h2).nx else .no else .no
    | none => .no
  | .isi a _ ts, s, h => (evE C a s h).bind fun x h1 => .of h1 ((isiU h1 x ts).map .bl)
  | .rngL tp es, s, h => (evEs C es s h).bind fun ws h1 => (rngU tp ws h1).nx
  | .sset a, s, h => (evE C a s h).bind fun x h1 => (ssetU x h1).nx
  | .comp elt tg it cond own, s, h => (evI C it s h).bind fun j h1 =>
    (compL (evG C tg) (evC C cond) (evE C elt) j (wipeS s own) (j.fuel h1) 0 [] h1).bindN fun us h2 => .ok (.lst us) h2
def evEs (C : Cal) : Es → Sl → Hu → R (List U)
  | .nil, _, h => .ok [] h
  | .cons e es, s, h => (evE C e s h).bind fun x h1 => (evEs C es s h1).bind fun xs h2 => .ok (x :: xs) h2
def evO (C : Cal) : Eo → Sl → Hu → R (Option Int)
  | .none, _, h => .ok none h
  | .some e, s, h => (evE C e s h).bind fun x h1 => match x with
    | .int i => .ok (some i) h1
    | _ => .no
def evC (C : Cal) : Eo → Sl → Hu → R Bool
  | .none, _, h => .ok true h
  | .some e, s, h => evT C e s h
def evT (C : Cal) : E → Sl → Hu → R Bool
  | .notE a, s, h => (evT C a s h).bind fun k h1 => .ok (!k) h1
  | .andE a b, s, h => (evT C a s h).bind fun k h1 => match k with
    | true => evT C b s h1
    | false => .ok false h1
  | .orE a b, s, h => (evT C a s h).bind fun k h1 => match k with
    | true => .ok true h1
    | false => evT C b s h1
  | .ife c a b, s, h => (evT C c s h).bind fun k h1 => match k with
    | true => evT C a s h1
    | false => evT C b s h1
  | .cmp op a b, s, h => (evE C a s h).bind fun x h1 => (evE C b s h1).bind fun y h2 => (cmpU C op x y h2).bindN fun r h3 => match r with
    | .bl k => .ok k h3
    | _ => .no
  | .cmp2 op op' a b c, s, h => (evE C a s h).bind fun x h1 => (evE C b s h1).bind fun y h2 => (cmpU C op x y h2).bindN fun r h3 => match r with
    | .bl true => (evE C c s h3).bind fun z h4 => (cmpU C op' y z h4).bindN fun r h5 => match r with
      | .bl k => .ok k h5
      | _ => .no
    | .bl false => .ok false h3
    | _ => .no
  | e, s, h => (evE C e s h).bind fun x h1 => .of h1 (tru h1 x)
def evI (C : Cal) : It → Sl → Hu → R J
  | .seq e, s, h => (evE C e s h).bind fun x h1 => match seqU h1 x with
    | some _ => .ok (.seq x) h1
    | none => .no
  | .rng1 a, s, h => (evE C a s h).bind fun x h1 => match x with
    | .int b => rngJ 0 b h1
    | _ => .no
  | .rng2 a b, s, h => (evE C a s h).bind fun x h1 => (evE C b s h1).bind fun y h2 => match x, y with
    | .int a, .int b => rngJ a b h2
    | _, _ => .no
  | .enm e, s, h => (evE C e s h).bind fun x h1 => match lsfU h1 x with
    | some _ => .ok (.enm x) h1
    | none => .no
  | .zip a b, s, h => (evE C a s h).bind fun x h1 => (evE C b s h1).bind fun y h2 => match lsfU h2 x, lsfU h2 y with
    | some _, some _ => .ok (.zip x y) h2
    | _, _ => .no
def evG (C : Cal) : Tg → U → Sl → Hu → R Sl
  | .name i, w, s, h => .ok (s.set i (some w)) h
  | .tup ts, w, s, h => match w with
    | .tup ws => if ws.length = tgsL ts then evGs C ts ws s h else .no
    | _ => .no
  | .fld o f, w, s, h => (evE C o s h).bind fun x h1 => match setFld C x f w h1 with
    | some h2 => .ok s h2
    | none => .no
  | .sub o i, w, s, h => (evE C o s h).bind fun x h1 => (evE C i s h1).bind fun y h2 => match setIx x y w h2 with
    | some h3 => .ok s h3
    | none => .no
  | .slc o lo hi, w, s, h => match lo, hi with
    | .none, .none => (evE C o s h).bind fun x h1 => match setAll x w h1 with
      | some h2 => .ok s h2
      | none => .no
    | _, _ => .no
def evGs (C : Cal) : Tgs → List U → Sl → Hu → R Sl
  | .nil, ws, s, h => match ws with
    | [] => .ok s h
    | _ => .no
  | .cons t ts, ws, s, h => match ws with
    | w :: ws => (evG C t w s h).bind fun s1 h1 => evGs C ts ws s1 h1
    | [] => .no
end
def setPar : List Nat → List U → Sl → Option Sl
  | [], [], s => some s
  | i :: is, w :: ws, s => setPar is ws (s.set i (some w))
  | _, _, _ => none
mutual
def evS (C : Cal) : Mi.S → Sl → Hu → RS
  | .expr e, s, h => (evE C e s h).toS s fun _ h1 => .nx s h1
  | .asg t e, s, h => (evE C e s h).toS s fun x h1 => (evG C t x s h1).toS s fun s1 h2 => .nx s1 h2
  | .par is es, s, h => (evEs C es s h).toS s fun ws h1 => match setPar is ws s with
    | some s1 => .nx s1 h1
    | none => .no
  | .ret e, s, h => (evE C e s h).toS s fun x h1 => .rt x h1
  | .retN, _, h => .rt .non h
  | .pass, s, h => .nx s h
  | .brk, s, h => .bk s h
  | .cont, s, h => .ct s h
  | .never, _, _ => .no
  | .ifS c a b, s, h => (evT C c s h).toS s fun k h1 => match k with
    | true => evSs C a s h1
    | false => evSs C b s h1
  | .whl c b, s, h => whlL (evT C c) (evSs C b) C.wf s h
  | .forS t it b, s, h => (evI C it s h).toS s fun j h1 => forL (evG C t) (evSs C b) j (j.fuel h1) 0 s h1
def evSs (C : Cal) : Ss → Sl → Hu → RS
  | .nil, s, h => .nx s h
  | .cons a r, s, h => match evS C a s h with
    | .nx s1 h1 => evSs C r s1 h1
    | x => x
end
def startS (ns : Nat) (ws : List U) : Sl := ws.map some ++ List.replicate (ns - ws.length) none
def callN (P : Pr) (wf : Nat) : Nat → Nat → List U → Hu → R U
  | 0, _, _, _ => .no
  | d + 1, k, ws, h => match P.fs[k]? with
    | some f => if ws.length = f.np then (match evSs ⟨callN P wf d, P.cs, wf⟩ f.body (startS f.ns ws) h with
      | .nx _ h1 => .ok .non h1
      | .rt w h1 => .ok w h1
      | .ex c fs _ h1 => .ex c fs h1
      | _ => .no) else .no
    | none => .no
def calN (P : Pr) (wf d : Nat) : Cal := ⟨callN P wf d, P.cs, wf⟩
end Mu

set_option Elab.async false
set_option linter.all false
set_option maxRecDepth 100000
set_option maxHeartbeats 4000000
/-! The second interpreter's state against the first one's. -/
namespace Mu
open PySem
open Mi (E Es Eo It Tg Tgs Ss Key Bop Cop Bc Bm Bt Ty Pr FunI ClsI W Hh O tgsL keysI intsW boolsW insI sortI dedI minI maxI)

mutual
inductive Rp (μ χ : List Nat) (h : Hh) : U → W → Prop
  | non : Rp μ χ h .non .non
  | bl (b : Bool) : Rp μ χ h (.bl b) (.bl b)
  | int (i : Int) : Rp μ χ h (.int i) (.int i)
  | str (x : Str) : Rp μ χ h (.str x) (.str x)
  | tup {us : List U} {ws : List W} : Rps μ χ h us ws → Rp μ χ h (.tup us) (.tup ws)
  | lst {n : Nat} {us : List U} {ws : List W} : h.get n = some (.lst ws) → n < h.n → n ∉ μ → n ∉ χ → Rps μ χ h us ws → Rp μ χ h (.lst us) (.ref n)
  | frz {n : Nat} {us : List U} {ws : List W} : h.get n = some (.frz ws) → n < h.n → n ∉ μ → n ∉ χ → Rps μ χ h us ws → Rp μ χ h (.frz us) (.ref n)
  | ref {i n : Nat} : μ[i]? = some n → Rp μ χ h (.ref i) (.ref n)
  | fn (k : Nat) : Rp μ χ h (.fn k) (.fn k)
  | cl (k : Nat) : Rp μ χ h (.cl k) (.cl k)
inductive Rps (μ χ : List Nat) (h : Hh) : List U → List W → Prop
  | nil : Rps μ χ h [] []
  | cons {u : U} {w : W} {us : List U} {ws : List W} : Rp μ χ h u w → Rps μ χ h us ws → Rps μ χ h (u :: us) (w :: ws)
end
inductive RpK (μ χ : List Nat) (h : Hh) : List (Key × U) → List (Key × W) → Prop
  | nil : RpK μ χ h [] []
  | cons {k : Key} {u : U} {w : W} {us : List (Key × U)} {ws : List (Key × W)} : Rp μ χ h u w → RpK μ χ h us ws → RpK μ χ h ((k, u) :: us) ((k, w) :: ws)
inductive RpF (μ χ : List Nat) (h : Hh) : Fu → Mi.Fs → Prop
  | nil : RpF μ χ h [] []
  | cons {k : Nat} {u : U} {w : W} {us : Fu} {ws : Mi.Fs} : Rp μ χ h u w → RpF μ χ h us ws → RpF μ χ h ((k, u) :: us) ((k, w) :: ws)

structure Ex (μ : List Nat) (h : Hh) (μ' : List Nat) (h' : Hh) : Prop where
  mu : ∃ l, μ' = μ ++ l ∧ ∀ n ∈ l, h.n ≤ n
  le : h.n ≤ h'.n
  keep : ∀ n, n < h.n → n ∉ μ → h'.get n = h.get n
theorem Ex.refl {μ : List Nat} {h : Hh} : Ex μ h μ h := ⟨⟨[], by simp⟩, Nat.le_refl _, fun _ _ _ => rfl⟩
theorem Ex.notin {μ : List Nat} {h : Hh} {μ' : List Nat} {h' : Hh} (e : Ex μ h μ' h') {n : Nat} (l : n < h.n) (m : n ∉ μ) : n ∉ μ' := by
  obtain ⟨l', rfl, q⟩ := e.mu
  intro c
  rcases List.mem_append.mp c with c | c
  · exact m c
  · have := q n c; omega
theorem Ex.trans {μ μ1 μ2 : List Nat} {h h1 h2 : Hh} (a : Ex μ h μ1 h1) (b : Ex μ1 h1 μ2 h2) : Ex μ h μ2 h2 := by
  refine ⟨?_, Nat.le_trans a.le b.le, fun n l m => (b.keep n (Nat.lt_of_lt_of_le l a.le) (a.notin l m)).trans (a.keep n l m)⟩
  obtain ⟨l, rfl, q⟩ := a.mu
  obtain ⟨l', rfl, q'⟩ := b.mu
  refine ⟨l ++ l', by simp, fun n c => ?_⟩
  have := a.le
  rcases List.mem_append.mp c with c | c
  · exact q n c
  · have := q' n c; omega
theorem Ex.get {μ : List Nat} {h : Hh} {μ' : List Nat} {h' : Hh} (e : Ex μ h μ' h') {i n : Nat} (g : μ[i]? = some n) : μ'[i]? = some n := by
  obtain ⟨l, rfl, _⟩ := e.mu
  rw [List.getElem?_append_left (List.getElem?_eq_some_iff.mp g).1]; exact g
theorem Ex.push {μ : List Nat} {h : Hh} {o : O} : Ex μ h μ (h.push o) := ⟨⟨[], by simp⟩, Nat.le_succ _, fun n l _ => by rw [Hh.get_push, if_neg (by omega)]⟩
/-- what a value leans on is as it was -/
structure Kp (μ χ : List Nat) (h : Hh) (μ' χ' : List Nat) (h' : Hh) : Prop where
  gt : ∀ {i n : Nat}, μ[i]? = some n → μ'[i]? = some n
  im : ∀ {n : Nat}, n < h.n → n ∉ μ → n ∉ χ → h'.get n = h.get n ∧ n < h'.n ∧ n ∉ μ' ∧ n ∉ χ'
mutual
theorem Rp.kp {μ χ : List Nat} {h : Hh} {μ' χ' : List Nat} {h' : Hh} (e : Kp μ χ h μ' χ' h') : ∀ {u : U} {w : W}, Rp μ χ h u w → Rp μ' χ' h' u w
  | _, _, .non => .non
  | _, _, .bl b => .bl b
  | _, _, .int b => .int b
  | _, _, .str b => .str b
  | _, _, .tup t => .tup (Rps.kp e t)
  | _, _, .lst g l m x t => .lst ((e.im l m x).1.trans g) (e.im l m x).2.1 (e.im l m x).2.2.1 (e.im l m x).2.2.2 (Rps.kp e t)
  | _, _, .frz g l m x t => .frz ((e.im l m x).1.trans g) (e.im l m x).2.1 (e.im l m x).2.2.1 (e.im l m x).2.2.2 (Rps.kp e t)
  | _, _, .ref g => .ref (e.gt g)
  | _, _, .fn k => .fn k
  | _, _, .cl k => .cl k
theorem Rps.kp {μ χ : List Nat} {h : Hh} {μ' χ' : List Nat} {h' : Hh} (e : Kp μ χ h μ' χ' h') : ∀ {u : List U} {w : List W}, Rps μ χ h u w → Rps μ' χ' h' u w
  | _, _, .nil => .nil
  | _, _, .cons a t => .cons (Rp.kp e a) (Rps.kp e t)
end
theorem RpK.kp {μ χ : List Nat} {h : Hh} {μ' χ' : List Nat} {h' : Hh} (e : Kp μ χ h μ' χ' h') : ∀ {u : List (Key × U)} {w : List (Key × W)}, RpK μ χ h u w → RpK μ' χ' h' u w
  | _, _, .nil => .nil
  | _, _, .cons a t => .cons (Rp.kp e a) (RpK.kp e t)
theorem RpF.kp {μ χ : List Nat} {h : Hh} {μ' χ' : List Nat} {h' : Hh} (e : Kp μ χ h μ' χ' h') : ∀ {u : Fu} {w : Mi.Fs}, RpF μ χ h u w → RpF μ' χ' h' u w
  | _, _, .nil => .nil
  | _, _, .cons a t => .cons (Rp.kp e a) (RpF.kp e t)
theorem Ex.kp {μ χ : List Nat} {h : Hh} {μ' χ' : List Nat} {h' : Hh} (e : Ex μ h μ' h') (hx : ∀ n ∈ χ', n ∈ χ ∨ h.n ≤ n) : Kp μ χ h μ' χ' h' :=
  ⟨e.get, fun l m x => ⟨e.keep _ l m, Nat.lt_of_lt_of_le l e.le, e.notin l m, fun c => (hx _ c).elim x fun q => absurd l (by omega)⟩⟩
section
variable {μ χ : List Nat} {h : Hh} {μ' χ' : List Nat} {h' : Hh} (e : Ex μ h μ' h') (hx : ∀ n ∈ χ', n ∈ χ ∨ h.n ≤ n)
include e hx
theorem Rp.ex {u : U} {w : W} (q : Rp μ χ h u w) : Rp μ' χ' h' u w := q.kp (e.kp hx)
theorem Rps.ex {u : List U} {w : List W} (q : Rps μ χ h u w) : Rps μ' χ' h' u w := q.kp (e.kp hx)
theorem RpK.ex {u : List (Key × U)} {w : List (Key × W)} (q : RpK μ χ h u w) : RpK μ' χ' h' u w := q.kp (e.kp hx)
theorem RpF.ex {u : Fu} {w : Mi.Fs} (q : RpF μ χ h u w) : RpF μ' χ' h' u w := q.kp (e.kp hx)
end
theorem same_x {χ : List Nat} {h : Hh} : ∀ n ∈ χ, n ∈ χ ∨ h.n ≤ n := fun _ c => .inl c
theorem less_x {χ : List Nat} {D : Nat} {h : Hh} : ∀ n ∈ χ, n ∈ D :: χ ∨ h.n ≤ n := fun _ c => .inl (List.mem_cons_of_mem _ c)
theorem more_x {χ : List Nat} {D : Nat} {h : Hh} (l : h.n ≤ D) : ∀ n ∈ D :: χ, n ∈ χ ∨ h.n ≤ n := fun n c => by
  rcases List.mem_cons.mp c with c | c
  · exact .inr (c ▸ l)
  · exact .inl c

/-! ### lists of related values -/
section
variable {μ χ : List Nat} {h : Hh}
theorem Rps.length : ∀ {us : List U} {ws : List W}, Rps μ χ h us ws → us.length = ws.length
  | _, _, .nil => rfl
  | _, _, .cons _ t => by simp [Rps.length t]
theorem Rps.append : ∀ {us us' : List U} {ws ws' : List W}, Rps μ χ h us ws → Rps μ χ h us' ws' → Rps μ χ h (us ++ us') (ws ++ ws')
  | _, _, _, _, .nil, q => q
  | _, _, _, _, .cons a t, q => .cons a (Rps.append t q)
theorem Rps.get : ∀ {us : List U} {ws : List W} {i : Nat} {u : U}, Rps μ χ h us ws → us[i]? = some u → ∃ w, ws[i]? = some w ∧ Rp μ χ h u w
  | _, _, _, _, .nil, e => by simp at e
  | _, _, 0, _, .cons a _, e => by simp at e; subst e; exact ⟨_, rfl, a⟩
  | _, _, i + 1, _, .cons _ t, e => by
    obtain ⟨v, a, b⟩ := Rps.get (i := i) t (by simpa using e)
    exact ⟨v, by simpa using a, b⟩
theorem Rps.none {us : List U} {ws : List W} {i : Nat} (q : Rps μ χ h us ws) (e : us[i]? = Option.none) : ws[i]? = Option.none := by
  have := q.length
  rw [List.getElem?_eq_none_iff] at e ⊢
  omega
theorem Rps.set : ∀ {us : List U} {ws : List W} {u : U} {w : W} (i : Nat), Rps μ χ h us ws → Rp μ χ h u w → Rps μ χ h (us.set i u) (ws.set i w)
  | _, _, _, _, _, .nil, _ => .nil
  | _, _, _, _, 0, .cons _ t, q => .cons q t
  | _, _, _, _, i + 1, .cons a t, q => .cons a (Rps.set i t q)
theorem Rps.drop : ∀ {us : List U} {ws : List W} (n : Nat), Rps μ χ h us ws → Rps μ χ h (us.drop n) (ws.drop n)
  | _, _, 0, q => q
  | _, _, _ + 1, .nil => .nil
  | _, _, n + 1, .cons _ t => Rps.drop n t
theorem Rps.take : ∀ {us : List U} {ws : List W} (n : Nat), Rps μ χ h us ws → Rps μ χ h (us.take n) (ws.take n)
  | _, _, 0, _ => .nil
  | _, _, _ + 1, .nil => .nil
  | _, _, n + 1, .cons a t => .cons a (Rps.take n t)
theorem Rps.eraseIdx : ∀ {us : List U} {ws : List W} (n : Nat), Rps μ χ h us ws → Rps μ χ h (us.eraseIdx n) (ws.eraseIdx n)
  | _, _, _, .nil => .nil
  | _, _, 0, .cons _ t => t
  | _, _, n + 1, .cons a t => .cons a (Rps.eraseIdx n t)
theorem Rps.dropLast : ∀ {us : List U} {ws : List W}, Rps μ χ h us ws → Rps μ χ h us.dropLast ws.dropLast
  | _, _, .nil => .nil
  | _, _, .cons _ .nil => .nil
  | _, _, .cons a (.cons b t) => .cons a (Rps.dropLast (.cons b t))
theorem Rps.reverse : ∀ {us : List U} {ws : List W}, Rps μ χ h us ws → Rps μ χ h us.reverse ws.reverse
  | _, _, .nil => .nil
  | _, _, .cons a t => by rw [List.reverse_cons, List.reverse_cons]; exact (Rps.reverse t).append (.cons a .nil)
theorem Rps.rep {us : List U} {ws : List W} (q : Rps μ χ h us ws) : ∀ k : Nat, Rps μ χ h (List.replicate k us).flatten (List.replicate k ws).flatten
  | 0 => .nil
  | k + 1 => by simp only [List.replicate_succ, List.flatten_cons]; exact q.append (Rps.rep q k)
theorem Rps.ints : ∀ {us : List U} {ws : List W} {ns : List Int}, Rps μ χ h us ws → intsU us = some ns → intsW ws = some ns
  | _, _, ns, .nil, e => by simp [intsU] at e; subst e; rfl
  | _, _, ns, .cons (u := u) a t, e => by
    cases u <;> simp [intsU] at e
    cases a
    obtain ⟨ms, e1, rfl⟩ := e
    simp [intsW, Rps.ints t e1]
theorem Rps.bools : ∀ {us : List U} {ws : List W} {ns : List Bool}, Rps μ χ h us ws → boolsU us = some ns → boolsW ws = some ns
  | _, _, ns, .nil, e => by simp [boolsU] at e; subst e; rfl
  | _, _, ns, .cons (u := u) a t, e => by
    cases u <;> simp [boolsU] at e
    cases a
    obtain ⟨ms, e1, rfl⟩ := e
    simp [boolsW, Rps.bools t e1]
theorem Rps.ofInts : ∀ (ns : List Int), Rps μ χ h (ns.map U.int) (ns.map W.int)
  | [] => .nil
  | n :: ns => .cons (.int n) (Rps.ofInts ns)
theorem Rps.isEmpty {us : List U} {ws : List W} (q : Rps μ χ h us ws) : us.isEmpty = ws.isEmpty := by cases q <;> rfl
theorem RpK.isEmpty {us : List (Key × U)} {ws : List (Key × W)} (q : RpK μ χ h us ws) : us.isEmpty = ws.isEmpty := by cases q <;> rfl
/-! ### dicts -/
theorem RpK.val : ∀ {us : List (Key × U)} {ws : List (Key × W)} (k : Key), RpK μ χ h us ws → (valK us k = none ∧ Mi.valK ws k = none) ∨ ∃ u w, valK us k = some u ∧ Mi.valK ws k = some w ∧ Rp μ χ h u w
  | _, _, k, .nil => .inl ⟨rfl, rfl⟩
  | _, _, k, .cons (k := k') (u := u) (w := w) (us := us) (ws := ws) a t => by
    by_cases c : k' = k
    · subst c
      exact .inr ⟨u, w, by simp [valK], by simp [Mi.valK], a⟩
    · have e1 : valK ((k', u) :: us) k = valK us k := by simp [valK, c]
      have e2 : Mi.valK ((k', w) :: ws) k = Mi.valK ws k := by simp [Mi.valK, c]
      rw [e1, e2]
      exact RpK.val k t
theorem RpK.any : ∀ {us : List (Key × U)} {ws : List (Key × W)} (k : Key), RpK μ χ h us ws → (us.any fun kv => decide (kv.1 = k)) = (ws.any fun kv => decide (kv.1 = k))
  | _, _, k, .nil => rfl
  | _, _, k, .cons a t => by simp only [List.any_cons]; rw [RpK.any k t]
theorem RpK.append : ∀ {us us' : List (Key × U)} {ws ws' : List (Key × W)}, RpK μ χ h us ws → RpK μ χ h us' ws' → RpK μ χ h (us ++ us') (ws ++ ws')
  | _, _, _, _, .nil, q => q
  | _, _, _, _, .cons a t, q => .cons a (RpK.append t q)
theorem RpK.repl : ∀ {us : List (Key × U)} {ws : List (Key × W)} (k : Key) {u : U} {w : W}, RpK μ χ h us ws → Rp μ χ h u w →
    RpK μ χ h (us.map fun kv => if kv.1 = k then (kv.1, u) else kv) (ws.map fun kv => if kv.1 = k then (kv.1, w) else kv)
  | _, _, k, _, _, .nil, _ => .nil
  | _, _, k, _, _, .cons (k := k') a t, q => by
    simp only [List.map_cons]
    by_cases c : k' = k
    · rw [if_pos c, if_pos c]; exact .cons q (RpK.repl k t q)
    · rw [if_neg c, if_neg c]; exact .cons a (RpK.repl k t q)
theorem RpK.put {us : List (Key × U)} {ws : List (Key × W)} (k : Key) {u : U} {w : W} (q : RpK μ χ h us ws) (p : Rp μ χ h u w) : RpK μ χ h (putK us k u) (Mi.putKW ws k w) := by
  unfold putK Mi.putKW
  rw [RpK.any k q]
  split
  · exact RpK.repl k q p
  · exact q.append (.cons p .nil)
theorem RpK.drop : ∀ {us : List (Key × U)} {ws : List (Key × W)} (k : Key), RpK μ χ h us ws → RpK μ χ h (dropK us k) (Mi.dropKW ws k)
  | _, _, k, .nil => .nil
  | _, _, k, .cons (k := k') (u := u) (w := w) (us := us) (ws := ws) a t => by
    have ih := RpK.drop k t
    by_cases c : k' = k
    · have e1 : dropK ((k', u) :: us) k = dropK us k := by simp [dropK, c]
      have e2 : Mi.dropKW ((k', w) :: ws) k = Mi.dropKW ws k := by simp [Mi.dropKW, c]
      rw [e1, e2]; exact ih
    · have e1 : dropK ((k', u) :: us) k = (k', u) :: dropK us k := by simp [dropK, c]
      have e2 : Mi.dropKW ((k', w) :: ws) k = (k', w) :: Mi.dropKW ws k := by simp [Mi.dropKW, c]
      rw [e1, e2]; exact .cons a ih
theorem RpK.length : ∀ {us : List (Key × U)} {ws : List (Key × W)}, RpK μ χ h us ws → us.length = ws.length
  | _, _, .nil => rfl
  | _, _, .cons _ t => by simp [RpK.length t]
theorem rp_key {k : Key} : Rp μ χ h (kU k) (Mi.kW k) := by cases k <;> constructor
theorem RpK.keys : ∀ {us : List (Key × U)} {ws : List (Key × W)}, RpK μ χ h us ws → Rps μ χ h (us.map fun kv => kU kv.1) (ws.map fun kv => Mi.kW kv.1)
  | _, _, .nil => .nil
  | _, _, .cons _ t => .cons rp_key (RpK.keys t)
theorem RpK.keysI : ∀ {us : List (Key × U)} {ws : List (Key × W)} {ns : List Int}, RpK μ χ h us ws → keysU us = some ns → Mi.keysI ws = some ns
  | _, _, ns, .nil, e => by simp [keysU] at e; subst e; rfl
  | _, _, ns, .cons (k := k) a t, e => by
    cases k <;> simp [keysU] at e
    obtain ⟨ms, e1, rfl⟩ := e
    simp [Mi.keysI, RpK.keysI t e1]
theorem key_rp {u : U} {w : W} {k : Key} (e : keyU u = some k) (q : Rp μ χ h u w) : Mi.keyW w = some k := by
  cases q <;> simp [keyU] at e <;> subst e <;> rfl
/-! ### fields -/
theorem RpF.lookup : ∀ {us : Fu} {ws : Mi.Fs} (k : Nat), RpF μ χ h us ws → (us.lookup k = none ∧ ws.lookup k = none) ∨ ∃ u w, us.lookup k = some u ∧ ws.lookup k = some w ∧ Rp μ χ h u w
  | _, _, k, .nil => .inl ⟨rfl, rfl⟩
  | _, _, k, .cons (k := k') (u := u) (w := w) (us := us) (ws := ws) a t => by
    by_cases c : k = k'
    · subst c
      exact .inr ⟨u, w, by simp [List.lookup], by simp [List.lookup], a⟩
    · have q : (k == k') = false := by simpa using c
      have e1 : List.lookup k ((k', u) :: us) = List.lookup k us := by simp [List.lookup, q]
      have e2 : List.lookup k ((k', w) :: ws) = List.lookup k ws := by simp [List.lookup, q]
      rw [e1, e2]; exact RpF.lookup k t
theorem RpF.put : ∀ {us : Fu} {ws : Mi.Fs} (k : Nat) {u : U} {w : W}, RpF μ χ h us ws → Rp μ χ h u w → RpF μ χ h (putF k u us) (Mi.putFW k w ws)
  | _, _, k, _, _, .nil, q => .cons q .nil
  | _, _, k, _, _, .cons (k := k') a t, q => by
    unfold putF Mi.putFW
    by_cases c : k' = k
    · subst c; rw [if_pos rfl, if_pos rfl]; exact .cons q t
    · rw [if_neg c, if_neg c]; exact .cons a (RpF.put k t q)
theorem RpF.length : ∀ {us : Fu} {ws : Mi.Fs}, RpF μ χ h us ws → us.length = ws.length
  | _, _, .nil => rfl
  | _, _, .cons _ t => by simp [RpF.length t]
end
theorem nd_ix {N : List Nat} (hN : N.Nodup) {i j : Nat} {x : Nat} (a : N[i]? = some x) (b : N[j]? = some x) : i = j := by
  obtain ⟨l1, e1⟩ := List.getElem?_eq_some_iff.mp a
  obtain ⟨l2, e2⟩ := List.getElem?_eq_some_iff.mp b
  exact (List.getElem_inj hN).mp (e1.trans e2.symm)
/-! ### objects, heaps -/
def RpO (μ χ : List Nat) (h : Hh) : OU → O → Prop
  | .lst us, .lst ws => Rps μ χ h us ws
  | .dic us, .dic ws => RpK μ χ h us ws
  | .ins c fs, .ins d gs => c = d ∧ RpF μ χ h fs gs
  | _, _ => False
theorem RpO.kp {μ χ : List Nat} {h : Hh} {μ' χ' : List Nat} {h' : Hh} (e : Kp μ χ h μ' χ' h') {u : OU} {o : O} (q : RpO μ χ h u o) : RpO μ' χ' h' u o := by
  cases u <;> cases o <;> first | exact False.elim q | exact Rps.kp e q | exact RpK.kp e q | exact ⟨q.1, RpF.kp e q.2⟩
theorem RpO.ex {μ χ : List Nat} {h : Hh} {μ' χ' : List Nat} {h' : Hh} (e : Ex μ h μ' h') (hx : ∀ n ∈ χ', n ∈ χ ∨ h.n ≤ n) {u : OU} {o : O} (q : RpO μ χ h u o) : RpO μ' χ' h' u o := q.kp (e.kp hx)
structure SU (μ χ : List Nat) (hu : Hu) (h : Hh) : Prop where
  len : hu.length = μ.length
  nd : μ.Nodup
  disj : ∀ n ∈ μ, n ∉ χ
  lt : ∀ n ∈ μ, n < h.n
  lx : ∀ n ∈ χ, n < h.n
  ok : ∀ i n : Nat, μ[i]? = some n → ∃ u o, hu[i]? = some u ∧ h.get n = some o ∧ RpO μ χ h u o
section
variable {μ χ : List Nat} {h : Hh} {hu : Hu} {D : Nat}
theorem SU.at (S : SU μ χ hu h) {i n : Nat} {u : OU} (e : μ[i]? = some n) (g : hu[i]? = some u) : ∃ o, h.get n = some o ∧ RpO μ χ h u o := by
  obtain ⟨u', o, a, b, c⟩ := S.ok i n e
  rw [g] at a; cases a
  exact ⟨o, b, c⟩
theorem SU.lst (S : SU μ χ hu h) {i n : Nat} {us : List U} (e : μ[i]? = some n) (g : hu[i]? = some (.lst us)) : ∃ ws, h.get n = some (.lst ws) ∧ Rps μ χ h us ws := by
  obtain ⟨o, a, b⟩ := S.at e g
  cases o <;> first | exact False.elim b | exact ⟨_, a, b⟩
theorem SU.dic (S : SU μ χ hu h) {i n : Nat} {us : List (Key × U)} (e : μ[i]? = some n) (g : hu[i]? = some (.dic us)) : ∃ ws, h.get n = some (.dic ws) ∧ RpK μ χ h us ws := by
  obtain ⟨o, a, b⟩ := S.at e g
  cases o <;> first | exact False.elim b | exact ⟨_, a, b⟩
theorem SU.ins (S : SU μ χ hu h) {i n c : Nat} {us : Fu} (e : μ[i]? = some n) (g : hu[i]? = some (.ins c us)) : ∃ ws, h.get n = some (.ins c ws) ∧ RpF μ χ h us ws := by
  obtain ⟨o, a, b⟩ := S.at e g
  cases o <;> first | exact False.elim b | (obtain ⟨rfl, b⟩ := b; exact ⟨_, a, b⟩)
/-- what the first interpreter allocates and the second does not follow -/
theorem SU.push (S : SU μ χ hu h) {o : O} : SU μ (h.n :: χ) hu (h.push o) where
  len := S.len
  nd := S.nd
  disj := fun n m c => by
    rcases List.mem_cons.mp c with c | c
    · have := S.lt n m; omega
    · exact S.disj n m c
  lt := fun n m => Nat.lt_succ_of_lt (S.lt n m)
  lx := fun n c => by
    rcases List.mem_cons.mp c with c | c
    · show n < h.n + 1; omega
    · exact Nat.lt_succ_of_lt (S.lx n c)
  ok := fun i n e => by
    obtain ⟨u, o', a, b, c⟩ := S.ok i n e
    have l := S.lt n (List.mem_of_getElem? e)
    exact ⟨u, o', a, by rw [Hh.get_push, if_neg (by omega)]; exact b, c.ex Ex.push (more_x (Nat.le_refl _))⟩
theorem SU.less (S : SU μ χ hu h) {χ' : List Nat} (s : ∀ n ∈ χ', n ∈ χ) : SU μ χ' hu h where
  len := S.len
  nd := S.nd
  disj := fun n m c => S.disj n m (s n c)
  lt := S.lt
  lx := fun n c => S.lx n (s n c)
  ok := fun i n e => by
    obtain ⟨u, o', a, b, c⟩ := S.ok i n e
    exact ⟨u, o', a, b, c.ex Ex.refl fun n m => .inl (s n m)⟩
theorem kp_hid {D : Nat} {o : O} (m : D ∈ χ) : Kp μ χ h μ χ (h.put D o) :=
  ⟨fun g => g, fun l a x => ⟨by rw [Hh.get_put, if_neg (by rintro rfl; exact x m)], l, a, x⟩⟩
/-- a hidden cell changes -/
theorem SU.hid (S : SU μ χ hu h) {D : Nat} {o : O} (m : D ∈ χ) : SU μ χ hu (h.put D o) where
  len := S.len
  nd := S.nd
  disj := S.disj
  lt := S.lt
  lx := S.lx
  ok := fun i n e => by
    obtain ⟨u, o', a, b, c⟩ := S.ok i n e
    have ne : n ≠ D := fun q => S.disj n (List.mem_of_getElem? e) (q ▸ m)
    exact ⟨u, o', a, by rw [Hh.get_put, if_neg ne]; exact b, c.kp (kp_hid m)⟩
theorem kp_put {i n : Nat} {o : O} (e : μ[i]? = some n) : Kp μ χ h μ χ (h.put n o) :=
  ⟨fun g => g, fun l a x => ⟨by rw [Hh.get_put, if_neg (by rintro rfl; exact a (List.mem_of_getElem? e))], l, a, x⟩⟩
theorem ex_put {i n : Nat} {o : O} (e : μ[i]? = some n) : Ex μ h μ (h.put n o) :=
  ⟨⟨[], by simp⟩, Nat.le_refl _, fun m _ a => by rw [Hh.get_put, if_neg (by rintro rfl; exact a (List.mem_of_getElem? e))]⟩
/-- a cell that both follow changes -/
theorem SU.put (S : SU μ χ hu h) {i n : Nat} {u : OU} {o : O} (e : μ[i]? = some n) (q : RpO μ χ h u o) : SU μ χ (hu.set i u) (h.put n o) where
  len := by simp [S.len]
  nd := S.nd
  disj := S.disj
  lt := S.lt
  lx := S.lx
  ok := fun j m ej => by
    obtain ⟨u', o', a, b, c⟩ := S.ok j m ej
    have li : i < hu.length := by rw [S.len]; exact (List.getElem?_eq_some_iff.mp e).1
    by_cases z : i = j
    · subst z
      rw [e] at ej; cases ej
      exact ⟨u, o, by rw [List.getElem?_set_self li], by rw [Hh.get_put, if_pos rfl], q.kp (kp_put e)⟩
    · have ne : m ≠ n := by
        rintro rfl
        exact z (nd_ix S.nd e ej)
      exact ⟨u', o', by rw [List.getElem?_set_ne z]; exact a, by rw [Hh.get_put, if_neg ne]; exact b, c.kp (kp_put e)⟩
/-- a new cell that both follow, from a hidden one -/
theorem SU.take (S : SU μ (D :: χ) hu h) {u : OU} {o : O} (g : h.get D = some o) (q : RpO μ (D :: χ) h u o) (nx : D ∉ χ) : SU (μ ++ [D]) χ (hu ++ [u]) h := by
  have nm : D ∉ μ := fun c => S.disj D c (by simp)
  have k : Kp μ (D :: χ) h (μ ++ [D]) χ h := ⟨fun {i n} g => by rw [List.getElem?_append_left (List.getElem?_eq_some_iff.mp g).1]; exact g, fun {n} l a x => ⟨rfl, l, by
    intro c
    rcases List.mem_append.mp c with c | c
    · exact a c
    · simp at c; subst c; exact x (by simp), fun c => x (List.mem_cons_of_mem _ c)⟩⟩
  refine ⟨by simp [S.len], ?_, ?_, ?_, fun n c => S.lx n (List.mem_cons_of_mem _ c), ?_⟩
  · refine List.nodup_append.mpr ⟨S.nd, by simp, fun a ha b hb => ?_⟩
    simp at hb; subst hb
    exact fun c => nm (c ▸ ha)
  · intro n c d
    rcases List.mem_append.mp c with c | c
    · exact S.disj n c (List.mem_cons_of_mem _ d)
    · simp at c; subst c; exact nx d
  · intro n c
    rcases List.mem_append.mp c with c | c
    · exact S.lt n c
    · simp at c; subst c; exact S.lx n (by simp)
  · intro i n e
    by_cases c : i < μ.length
    · rw [List.getElem?_append_left c] at e
      obtain ⟨u', o', a, b, c'⟩ := S.ok i n e
      exact ⟨u', o', by rw [List.getElem?_append_left (by rw [S.len]; exact c)]; exact a, b, c'.kp k⟩
    · have l := (List.getElem?_eq_some_iff.mp e).1
      have : i = μ.length := by simp at l; omega
      subst this
      simp at e; subst e
      exact ⟨u, o, by rw [← S.len]; simp, g, q.kp k⟩
end
end Mu

set_option Elab.async false
set_option linter.all false
set_option maxRecDepth 100000
set_option maxHeartbeats 4000000
/-! What is wanted; operations. -/
namespace Mu
open PySem
open Mi (E Es Eo It Tg Tgs Ss Key Bop Cop Bc Bm Bt Ty Pr FunI ClsI W Hh O tgsL keysI intsW boolsW insI sortI dedI minI maxI)

def PU {α β : Type} (μ χ : List Nat) (h : Hh) (rel : List Nat → Hh → α → β → Prop) : R α → Mi.R β → Prop
  | .ok a hu, r => ∃ b h' μ', r = .ok b h' ∧ Ex μ h μ' h' ∧ SU μ' χ hu h' ∧ rel μ' h' a b
  | .ex c fs hu, r => ∃ fs' h' μ', r = .ex c fs' h' ∧ Ex μ h μ' h' ∧ SU μ' χ hu h' ∧ RpF μ' χ h' fs fs'
  | .no, _ => True
abbrev rV (χ : List Nat) : List Nat → Hh → U → W → Prop := fun μ h u w => Rp μ χ h u w
abbrev rVs (χ : List Nat) : List Nat → Hh → List U → List W → Prop := fun μ h u w => Rps μ χ h u w
abbrev rE {α : Type} : List Nat → Hh → α → α → Prop := fun _ _ a b => a = b
/-- a list is its own -/
def rF (χ : List Nat) (h0 : Hh) (hu : Hu) : List Nat → Hh → U → W → Prop := fun μ h u w =>
  (∃ us n ws, u = .lst us ∧ w = .ref n ∧ h.get n = some (.lst ws) ∧ n < h.n ∧ h0.n ≤ n ∧ n ∉ μ ∧ n ∉ χ ∧ SU μ (n :: χ) hu h ∧ Rps μ (n :: χ) h us ws) ∨ ((∀ us, u ≠ .lst us) ∧ SU μ χ hu h ∧ Rp μ χ h u w)
def PF (μ χ : List Nat) (h : Hh) : R U → Mi.R W → Prop
  | .ok a hu, r => ∃ b h' μ', r = .ok b h' ∧ Ex μ h μ' h' ∧ rF χ h hu μ' h' a b
  | .ex c fs hu, r => ∃ fs' h' μ', r = .ex c fs' h' ∧ Ex μ h μ' h' ∧ SU μ' χ hu h' ∧ RpF μ' χ h' fs fs'
  | .no, _ => True
section
variable {μ χ : List Nat} {h : Hh} {hu : Hu} {α β γ δ : Type} {rel : List Nat → Hh → α → β → Prop} {rel' : List Nat → Hh → γ → δ → Prop}
theorem rF.rp {h0 : Hh} {hu : Hu} {u : U} {w : W} (q : rF χ h0 hu μ h u w) : SU μ χ hu h ∧ Rp μ χ h u w := by
  rcases q with ⟨us, n, ws, rfl, rfl, g, l, _, m, x, S, q⟩ | ⟨_, S, q⟩
  · exact ⟨S.less fun n c => List.mem_cons_of_mem _ c, .lst g l m x (q.ex Ex.refl less_x)⟩
  · exact ⟨S, q⟩
theorem PF.pu {x : R U} {y : Mi.R W} (p : PF μ χ h x y) : PU μ χ h (rV χ) x y := by
  cases x with
  | ok a hu =>
    obtain ⟨b, h', μ', e, E, q⟩ := p
    exact ⟨b, h', μ', e, E, q.rp.1, q.rp.2⟩
  | ex c fs hu => exact p
  | no => trivial
theorem PU.ok0 {a : α} {b : β} (S : SU μ χ hu h) (q : rel μ h a b) : PU μ χ h rel (.ok a hu) (.ok b h) := ⟨b, h, μ, rfl, Ex.refl, S, q⟩
theorem PU.of {o : Option α} {o' : Option β} (S : SU μ χ hu h) (q : ∀ a, o = some a → ∃ b, o' = some b ∧ rel μ h a b) : PU μ χ h rel (.of hu o) (.of h o') := by
  cases o with
  | none => trivial
  | some a =>
    obtain ⟨b, rfl, q'⟩ := q a rfl
    exact PU.ok0 S q'
theorem PU.later {x : R α} {y : Mi.R β} {μ1 : List Nat} {h1 : Hh} (E : Ex μ h μ1 h1) (p : PU μ1 χ h1 rel x y) : PU μ χ h rel x y := by
  cases x with
  | ok a hu =>
    obtain ⟨b, h', μ', e, E', S, q⟩ := p
    exact ⟨b, h', μ', e, E.trans E', S, q⟩
  | ex c fs hu =>
    obtain ⟨b, h', μ', e, E', S, q⟩ := p
    exact ⟨b, h', μ', e, E.trans E', S, q⟩
  | no => trivial
theorem PF.later {x : R U} {y : Mi.R W} {μ1 : List Nat} {h1 : Hh} (E : Ex μ h μ1 h1) (p : PF μ1 χ h1 x y) : PF μ χ h x y := by
  cases x with
  | ok a hu =>
    obtain ⟨b, h', μ', e, E', q⟩ := p
    refine ⟨b, h', μ', e, E.trans E', ?_⟩
    rcases q with ⟨us, n, ws, q1, q2, q3, q4, q5, q6⟩ | q
    · exact .inl ⟨us, n, ws, q1, q2, q3, q4, Nat.le_trans E.le q5, q6⟩
    · exact .inr q
  | ex c fs hu =>
    obtain ⟨b, h', μ', e, E', S, q⟩ := p
    exact ⟨b, h', μ', e, E.trans E', S, q⟩
  | no => trivial
theorem PU.bind {x : R α} {y : Mi.R β} {f : α → Hu → R γ} {g : β → Hh → Mi.R δ} (p : PU μ χ h rel x y)
    (k : ∀ a hu1 b h1 μ1, Ex μ h μ1 h1 → SU μ1 χ hu1 h1 → rel μ1 h1 a b → PU μ1 χ h1 rel' (f a hu1) (g b h1)) : PU μ χ h rel' (x.bind f) (y.bind g) := by
  cases x with
  | ok a hu =>
    obtain ⟨b, h', μ', rfl, E, S, q⟩ := p
    exact PU.later E (k a hu b h' μ' E S q)
  | ex c fs hu =>
    obtain ⟨b, h', μ', rfl, q⟩ := p
    exact ⟨b, h', μ', rfl, q⟩
  | no => trivial
theorem PF.bind {x : R α} {y : Mi.R β} {f : α → Hu → R U} {g : β → Hh → Mi.R W} (p : PU μ χ h rel x y)
    (k : ∀ a hu1 b h1 μ1, Ex μ h μ1 h1 → SU μ1 χ hu1 h1 → rel μ1 h1 a b → PF μ1 χ h1 (f a hu1) (g b h1)) : PF μ χ h (x.bind f) (y.bind g) := by
  cases x with
  | ok a hu =>
    obtain ⟨b, h', μ', rfl, E, S, q⟩ := p
    exact PF.later E (k a hu b h' μ' E S q)
  | ex c fs hu =>
    obtain ⟨b, h', μ', rfl, q⟩ := p
    exact ⟨b, h', μ', rfl, q⟩
  | no => trivial
theorem PU.bindN {x : R α} {y : Mi.R β} {f : α → Hu → R γ} {g : β → Hh → Mi.R δ} (p : PU μ χ h rel x y)
    (k : ∀ a hu1 b h1 μ1, Ex μ h μ1 h1 → SU μ1 χ hu1 h1 → rel μ1 h1 a b → PU μ1 χ h1 rel' (f a hu1) (g b h1)) : PU μ χ h rel' (x.bindN f) (y.bindN g) := by
  cases x with
  | ok a hu =>
    obtain ⟨b, h', μ', rfl, E, S, q⟩ := p
    exact PU.later E (k a hu b h' μ' E S q)
  | ex c fs hu => trivial
  | no => trivial
theorem PU.nx {x : R α} {y : Mi.R β} (p : PU μ χ h rel x y) : PU μ χ h rel x.nx y.nx := by
  cases x with
  | ok a hu =>
    obtain ⟨b, h', μ', rfl, q⟩ := p
    exact ⟨b, h', μ', rfl, q⟩
  | ex c fs hu => trivial
  | no => trivial
theorem PF.nx {x : R U} {y : Mi.R W} (p : PF μ χ h x y) : PF μ χ h x.nx y.nx := by
  cases x with
  | ok a hu =>
    obtain ⟨b, h', μ', rfl, q⟩ := p
    exact ⟨b, h', μ', rfl, q⟩
  | ex c fs hu => trivial
  | no => trivial
/-- no list -/
theorem PF.ofPU {x : R U} {y : Mi.R W} (p : PU μ χ h (rV χ) x y) (n : ∀ us hu, x ≠ .ok (.lst us) hu) : PF μ χ h x y := by
  cases x with
  | ok a hu =>
    obtain ⟨b, h', μ', rfl, E, S, q⟩ := p
    exact ⟨b, h', μ', rfl, E, .inr ⟨fun us e => n us hu (e ▸ rfl), S, q⟩⟩
  | ex c fs hu => exact p
  | no => trivial
/-- a new list -/
theorem PF.new {us : List U} {ws : List W} (S : SU μ χ hu h) (q : Rps μ χ h us ws) : PF μ χ h (.ok (.lst us) hu) (.ok (.ref h.n) (h.push (.lst ws))) := by
  refine ⟨_, _, μ, rfl, Ex.push, .inl ⟨us, h.n, ws, rfl, rfl, by rw [Hh.get_push, if_pos rfl], Nat.lt_succ_self _, Nat.le_refl _, fun c => ?_, fun c => ?_, S.push, q.ex Ex.push (more_x (Nat.le_refl _))⟩⟩
  · have := S.lt _ c; omega
  · have := S.lx _ c; omega
theorem PF.newL {us : List U} {ws : List W} (S : SU μ χ hu h) (q : Rps μ χ h us ws) : PF μ χ h (Mu.newL hu us) (Mi.newL h ws) := by
  unfold Mu.newL Mi.newL
  rw [q.length]
  split
  · exact PF.new S q
  · trivial
/-- a list of its own may change from here on -/
theorem PF.thaw {fr : Bool} {x : R U} {y : Mi.R W} (p : PF μ χ h x y) : PU μ χ h (rV χ) (x.bind fun u h1 => Mu.thaw fr u h1) y := by
  cases x with
  | ok u hu =>
    obtain ⟨w, h', μ', rfl, E, q⟩ := p
    show PU μ χ h (rV χ) (Mu.thaw fr u hu) _
    unfold Mu.thaw
    split
    · rcases q with ⟨us, n, ws, e, rfl, g, l, ln, m, x, S, q⟩ | ⟨c, _, _⟩
      · cases e
        refine ⟨_, h', μ' ++ [n], rfl, ⟨?_, E.le, E.keep⟩, S.take g q x, .ref ?_⟩
        · obtain ⟨l', rfl, q'⟩ := E.mu
          refine ⟨l' ++ [n], by simp, fun k c => ?_⟩
          rcases List.mem_append.mp c with c | c
          · exact q' k c
          · simp at c; subst c; exact ln
        · rw [S.len]; simp
      · exact absurd rfl (c _)
    · trivial
  | ex c fs hu => exact p
  | no => trivial
/-! ### values -/
theorem seq_rp (S : SU μ χ hu h) {u : U} {w : W} {us : List U} (q : Rp μ χ h u w) (e : seqU hu u = some us) : ∃ ws, Mi.seqAt h w = some ws ∧ Rps μ χ h us ws := by
  cases q with
  | tup t => simp [seqU] at e; subst e; exact ⟨_, rfl, t⟩
  | lst g l m x t => simp [seqU] at e; subst e; exact ⟨_, by simp [Mi.seqAt, g], t⟩
  | frz g l m x t => simp [seqU] at e; subst e; exact ⟨_, by simp [Mi.seqAt, g], t⟩
  | ref q =>
    simp only [seqU] at e
    split at e
    · rename_i g; cases e
      obtain ⟨ws, a, b⟩ := S.lst q g
      exact ⟨ws, by simp [Mi.seqAt, a], b⟩
    · cases e
  | _ => simp [seqU] at e
theorem lst_rp (S : SU μ χ hu h) {u : U} {w : W} {us : List U} (q : Rp μ χ h u w) (e : lstU hu u = some us) : ∃ n ws, w = .ref n ∧ h.get n = some (.lst ws) ∧ Rps μ χ h us ws := by
  cases q with
  | lst g l m x t => simp [lstU] at e; subst e; exact ⟨_, _, rfl, g, t⟩
  | ref q =>
    simp only [lstU] at e
    split at e
    · rename_i g; cases e
      obtain ⟨ws, a, b⟩ := S.lst q g
      exact ⟨_, ws, rfl, a, b⟩
    · cases e
  | _ => simp [lstU] at e
theorem lsf_rp (S : SU μ χ hu h) {u : U} {w : W} {us : List U} (q : Rp μ χ h u w) (e : lsfU hu u = some us) : ∃ n ws, w = .ref n ∧ Mi.lstAt h n = some ws ∧ Mi.seqAt h w = some ws ∧ Rps μ χ h us ws := by
  cases q with
  | lst g l m x t => simp [lsfU] at e; subst e; exact ⟨_, _, rfl, by simp [Mi.lstAt, g], by simp [Mi.seqAt, g], t⟩
  | frz g l m x t => simp [lsfU] at e; subst e; exact ⟨_, _, rfl, by simp [Mi.lstAt, g], by simp [Mi.seqAt, g], t⟩
  | ref q =>
    simp only [lsfU] at e
    split at e
    · rename_i g; cases e
      obtain ⟨ws, a, b⟩ := S.lst q g
      exact ⟨_, ws, rfl, by simp [Mi.lstAt, a], by simp [Mi.seqAt, a], b⟩
    · cases e
  | _ => simp [lsfU] at e
theorem dic_rp (S : SU μ χ hu h) {u : U} {w : W} {us : List (Key × U)} (q : Rp μ χ h u w) (e : dicU hu u = some us) : ∃ n ws, w = .ref n ∧ h.get n = some (.dic ws) ∧ RpK μ χ h us ws := by
  cases q with
  | ref q =>
    simp only [dicU] at e
    split at e
    · rename_i g; cases e
      obtain ⟨ws, a, b⟩ := S.dic q g
      exact ⟨_, ws, rfl, a, b⟩
    · cases e
  | _ => simp [dicU] at e
mutual
theorem ofW_rp : ∀ {w : W} {u : U}, ofW w = some u → Rp μ χ h u w
  | .non, u, e => by cases e; exact .non
  | .bl b, u, e => by cases e; exact .bl b
  | .int b, u, e => by cases e; exact .int b
  | .str b, u, e => by cases e; exact .str b
  | .tup ws, u, e => by
    simp only [ofW] at e
    split at e
    · rename_i us e'
      cases e; exact .tup (ofWs_rp e')
    · cases e
  | .ref n, u, e => by cases e
  | .fn k, u, e => by cases e; exact .fn k
  | .cl k, u, e => by cases e; exact .cl k
theorem ofWs_rp : ∀ {ws : List W} {us : List U}, ofWs ws = some us → Rps μ χ h us ws
  | [], us, e => by cases e; exact .nil
  | w :: ws, us, e => by
    simp only [ofWs] at e
    split at e
    · rename_i u us' e1 e2
      cases e; exact .cons (ofW_rp e1) (ofWs_rp e2)
    · cases e
end
theorem mapM_rp {α : Type} {f : U → Option α} {g : W → Option α} (hf : ∀ {u w a}, Rp μ χ h u w → f u = some a → g w = some a) : ∀ {us : List U} {ws : List W} {l : List α}, Rps μ χ h us ws → us.mapM f = some l → ws.mapM g = some l
  | _, _, l, .nil, e => by simpa using e
  | _, _, l, .cons a t, e => by
    simp only [List.mapM_cons, Option.bind_eq_bind, Option.bind_eq_some_iff] at e ⊢
    obtain ⟨x, e1, xs, e2, e3⟩ := e
    exact ⟨x, hf a e1, xs, mapM_rp hf t e2, e3⟩
theorem dat_rp (S : SU μ χ hu h) : ∀ (n : Nat) {u : U} {w : W} {d : PyData}, Rp μ χ h u w → dat n hu u = some d → Mi.dat n h w = some d
  | 0, u, w, d, q, e => by simp [dat] at e
  | n + 1, u, w, d, q, e => by
    cases q with
    | tup t =>
      simp only [dat, Option.map_eq_some_iff] at e
      obtain ⟨l, e, rfl⟩ := e
      simp [Mi.dat, mapM_rp (fun q e => dat_rp S n q e) t e]
    | lst g l m x t =>
      simp only [dat, Option.map_eq_some_iff] at e
      obtain ⟨l, e, rfl⟩ := e
      simp [Mi.dat, g, mapM_rp (fun q e => dat_rp S n q e) t e]
    | frz g l m x t =>
      simp only [dat, Option.map_eq_some_iff] at e
      obtain ⟨l, e, rfl⟩ := e
      simp [Mi.dat, g, mapM_rp (fun q e => dat_rp S n q e) t e]
    | ref q =>
      simp only [dat] at e
      split at e
      · rename_i g
        simp only [Option.map_eq_some_iff] at e
        obtain ⟨l, e, rfl⟩ := e
        obtain ⟨ws, a, t⟩ := S.lst q g
        simp [Mi.dat, a, mapM_rp (fun q e => dat_rp S n q e) t e]
      · cases e
    | _ => simpa [dat, Mi.dat] using e
theorem tru_rp (S : SU μ χ hu h) {u : U} {w : W} {b : Bool} (q : Rp μ χ h u w) (e : tru hu u = some b) : Mi.tru h w = some b := by
  cases q with
  | tup t => simpa [tru, Mi.tru, t.isEmpty] using e
  | lst g l m x t => simpa [tru, Mi.tru, g, t.isEmpty] using e
  | frz g l m x t => simpa [tru, Mi.tru, g, t.isEmpty] using e
  | ref q =>
    simp only [tru] at e
    split at e
    · rename_i g
      obtain ⟨ws, a, t⟩ := S.lst q g
      simpa [Mi.tru, a, t.isEmpty] using e
    · rename_i g
      obtain ⟨ws, a, t⟩ := S.dic q g
      simpa [Mi.tru, a, t.isEmpty] using e
    · cases e
  | _ => simpa [tru, Mi.tru] using e
theorem intI_rp (S : SU μ χ hu h) {x y : U} {a b : W} (qx : Rp μ χ h x a) (qy : Rp μ χ h y b) {f : Int → Int → Option U} {g : Int → Int → Option W} (k : ∀ i j u, f i j = some u → ∃ w, g i j = some w ∧ Rp μ χ h u w) : PU μ χ h (rV χ) (intI hu x y f) (Mi.intI h a b g) := by
  cases qx <;> first | trivial | skip
  cases qy <;> first | trivial | skip
  exact PU.of S fun u e => k _ _ _ e
end
end Mu

set_option Elab.async false
set_option linter.all false
set_option maxRecDepth 100000
set_option maxHeartbeats 4000000
/-! Operations. -/
namespace Mu
open PySem
open Mi (E Es Eo It Tg Tgs Ss Key Bop Cop Bc Bm Bt Ty Pr FunI ClsI W Hh O tgsL keysI intsW boolsW insI sortI dedI minI maxI)
section
variable {μ χ : List Nat} {h : Hh} {hu : Hu}
theorem add_rp (S : SU μ χ hu h) {x y : U} {a b : W} (qx : Rp μ χ h x a) (qy : Rp μ χ h y b) : PF μ χ h (addU x y hu) (Mi.addW a b h) := by
  unfold addU
  split
  · rename_i xs ys ex ey
    obtain ⟨m, us, rfl, g1, t1⟩ := lst_rp S qx ex
    obtain ⟨n, vs, rfl, g2, t2⟩ := lst_rp S qy ey
    simp only [Mi.addW, g1, g2]
    exact PF.newL S (t1.append t2)
  · split
    · cases qx; cases qy
      exact .ofPU (PU.ok0 S (.int _)) fun us hu e => by cases e
    · cases qx; cases qy
      simp only [Mi.addW]
      split
      · exact .ofPU (PU.ok0 S (.str _)) fun us hu e => by cases e
      · trivial
    · cases qx with
      | tup t1 =>
        cases qy with
        | tup t2 =>
          simp only [Mi.addW, t1.isEmpty]
          split
          · trivial
          · have t := t1.append t2
            unfold newT Mi.newT
            rw [t.length]
            split
            · exact .ofPU (PU.ok0 S (.tup t)) fun us hu e => by cases e
            · trivial
    · trivial
theorem mul_rp (S : SU μ χ hu h) {x y : U} {a b : W} (qx : Rp μ χ h x a) (qy : Rp μ χ h y b) : PF μ χ h (mulU x y hu) (Mi.mulW a b h) := by
  unfold mulU
  split
  · rename_i xs ex
    obtain ⟨m, us, rfl, g1, t1⟩ := lst_rp S qx ex
    split
    · cases qy
      simp only [Mi.mulW, g1, t1.length]
      split
      · exact PF.new S (t1.rep _)
      · trivial
    · trivial
  · split
    · cases qx; cases qy
      simp only [Mi.mulW]
      split
      · exact .ofPU (PU.ok0 S (.int _)) fun us hu e => by cases e
      · trivial
    · trivial
theorem intI_f {x y : U} {f : Int → Int → Option U} (k : ∀ i j u, f i j = some u → ∀ us, u ≠ .lst us) : ∀ us hu', intI hu x y f ≠ .ok (.lst us) hu' := by
  intro us hu' e
  unfold intI at e
  split at e
  · rename_i i j
    cases z : f i j with
    | none => rw [z] at e; cases e
    | some u =>
      rw [z] at e
      cases e
      exact k i j _ z us rfl
  · cases e
theorem bin_rp (S : SU μ χ hu h) {op : Bop} {x y : U} {a b : W} (qx : Rp μ χ h x a) (qy : Rp μ χ h y b) : PF μ χ h (binU op x y hu) (Mi.binW op a b h) := by
  cases op
  case add => exact add_rp S qx qy
  case mul => exact mul_rp S qx qy
  all_goals
    refine .ofPU (intI_rp S qx qy ?_) (intI_f ?_)
    · intro i j u e
      (first | (cases e; exact ⟨_, rfl, .int _⟩) | (split at e <;> first | cases e | skip))
      all_goals (try (rename_i c; rw [if_pos c]; exact ⟨_, rfl, .int _⟩))
    · intro i j u e us z
      subst z
      (first | cases e | (split at e <;> cases e))
theorem flat_rp {u : U} {w : W} (q : Rp μ χ h u w) : flatU u = Mi.flatW w := by cases q <;> rfl
theorem flats_rp : ∀ {us : List U} {ws : List W}, Rps μ χ h us ws → us.all flatU = ws.all Mi.flatW
  | _, _, .nil => rfl
  | _, _, .cons a t => by rw [List.all_cons, List.all_cons, flat_rp a, flats_rp t]
theorem eqF_rp {u u' : U} {w w' : W} (q : Rp μ χ h u w) (q' : Rp μ χ h u' w') : eqF u u' = Mi.eqF w w' := by cases q <;> cases q' <;> rfl
theorem anyF_rp {u : U} {w : W} (q : Rp μ χ h u w) : ∀ {us : List U} {ws : List W}, Rps μ χ h us ws → (us.any fun z => eqF z u) = (ws.any fun z => Mi.eqF z w)
  | _, _, .nil => rfl
  | _, _, .cons a t => by rw [List.any_cons, List.any_cons, eqF_rp a q, anyF_rp q t]
theorem isNon_rp {u : U} {w : W} (q : Rp μ χ h u w) : isNon u = Mi.isNonW w := by cases q <;> rfl
theorem in_rp (S : SU μ χ hu h) {x y : U} {a b : W} {k : Bool} (qx : Rp μ χ h x a) (qy : Rp μ χ h y b) (e : inU x y hu = some k) : Mi.inW a b h = some k := by
  unfold inU at e
  split at e
  · rename_i us eu
    obtain ⟨ws, e1, t⟩ := seq_rp S qy eu
    simp only [Mi.inW, e1]
    rw [flat_rp qx, flats_rp t, anyF_rp qx t] at e
    exact e
  · split at e
    · rename_i kvs k' ed ek
      obtain ⟨n, ws, rfl, g, t⟩ := dic_rp S qy ed
      have := key_rp ek qx
      simp only [Mi.inW, Mi.seqAt, g, this]
      cases e
      rcases t.val k' with ⟨e1, e2⟩ | ⟨u, w, e1, e2, _⟩ <;> rw [e1, e2] <;> rfl
    · cases e
theorem eqD_rp (S : SU μ χ hu h) {x y : U} {a b : W} {k : Bool} (qx : Rp μ χ h x a) (qy : Rp μ χ h y b) (e : eqData x y hu = some k) : Mi.eqData a b h = some k := by
  unfold eqData at e
  split at e
  · rename_i d d' e1 e2
    simp only [Mi.eqData, dat_rp S _ qx e1, dat_rp S _ qy e2]
    exact e
  · cases e
structure CalOk (C : Cal) (C' : Mi.Cal) : Prop where
  cs : C.cs = C'.cs
  wf : C.wf = C'.wf
  call : ∀ (k : Nat) (us : List U) (ws : List W) (μ χ : List Nat) (hu : Hu) (h : Hh), SU μ χ hu h → Rps μ χ h us ws → PU μ χ h (rV χ) (C.call k us hu) (C'.call k ws h)
variable {C : Cal} {C' : Mi.Cal}
theorem own_rp (K : CalOk C C') (S : SU μ χ hu h) {x : U} {a : W} (qx : Rp μ χ h x a) : ownEq C x hu = Mi.ownEq C' a h := by
  cases qx with
  | lst g => simp [ownEq, Mi.ownEq, g]
  | frz g => simp [ownEq, Mi.ownEq, g]
  | ref g =>
    obtain ⟨u, o, a, b, c⟩ := S.ok _ _ g
    simp only [ownEq, Mi.ownEq, a, b, K.cs]
    cases u <;> cases o <;> first | exact False.elim c | rfl | (rw [c.1])
  | _ => rfl
theorem PU.of1 {α β : Type} {rel : List Nat → Hh → α → β → Prop} {a : α} {b : β} (S : SU μ χ hu h) (q : rel μ h a b) : PU μ χ h rel (.ok a hu) (.ok b h) := PU.ok0 S q
theorem bl_of (S : SU μ χ hu h) {o : Option Bool} {o' : Option Bool} (f : Bool → Bool) (k : ∀ b, o = some b → o' = some b) : PU μ χ h (rV χ) (.of hu (o.map fun b => U.bl (f b))) (.of h (o'.map fun b => W.bl (f b))) := by
  refine PU.of S fun u e => ?_
  cases o with
  | none => cases e
  | some b => cases e; rw [k b rfl]; exact ⟨_, rfl, .bl _⟩
theorem cmp_rp (K : CalOk C C') (S : SU μ χ hu h) {op : Cop} {x y : U} {a b : W} (qx : Rp μ χ h x a) (qy : Rp μ χ h y b) : PU μ χ h (rV χ) (cmpU C op x y hu) (Mi.cmpW C' op a b h) := by
  cases op
  case eq =>
    simp only [cmpU, Mi.cmpW, own_rp K S qx]
    cases z : Mi.ownEq C' a h with
    | some k =>
      dsimp only
      refine PU.bindN (K.call _ _ _ _ _ _ _ S (.cons qx (.cons qy .nil))) fun u hu1 w h1 μ1 E S1 q => ?_
      cases q <;> first | trivial | exact PU.ok0 S1 (.bl _)
    | none => exact bl_of S id fun b e => eqD_rp S qx qy e
  case ne =>
    simp only [cmpU, Mi.cmpW, own_rp K S qx]
    cases z : Mi.ownEq C' a h with
    | some k =>
      dsimp only
      refine PU.bindN (K.call _ _ _ _ _ _ _ S (.cons qx (.cons qy .nil))) fun u hu1 w h1 μ1 E S1 q => ?_
      cases q <;> first | trivial | exact PU.ok0 S1 (.bl _)
    | none => exact bl_of S not fun b e => eqD_rp S qx qy e
  case is =>
    simp only [cmpU, Mi.cmpW]
    cases qy <;> first | trivial | skip
    · rw [isNon_rp qx]; exact PU.ok0 S (.bl _)
    · cases qx <;> first | trivial | exact PU.ok0 S (.bl _)
  case isn =>
    simp only [cmpU, Mi.cmpW]
    cases qy <;> first | trivial | skip
    · rw [isNon_rp qx]; exact PU.ok0 S (.bl _)
    · cases qx <;> first | trivial | exact PU.ok0 S (.bl _)
  case isin => exact bl_of S id fun b e => in_rp S qx qy e
  case nin => exact bl_of S not fun b e => in_rp S qx qy e
  all_goals exact intI_rp S qx qy fun i j u e => by cases e; exact ⟨_, rfl, .bl _⟩
/-! ### built-ins -/
theorem sorted_rp (S : SU μ χ hu h) (ns : List Int) : PF μ χ h (sorted1 hu ns) (Mi.sorted1 h ns) := by
  unfold sorted1 Mi.sorted1
  split
  · exact PF.new S (Rps.ofInts _)
  · trivial
theorem len_rp (S : SU μ χ hu h) {x : U} {a : W} {k : Nat} (qx : Rp μ χ h x a) (e : lenU hu x = some k) : Mi.lenW h a = some k := by
  unfold lenU at e
  split at e
  · rename_i us eu
    cases e
    cases qx with
    | tup t => simp [seqU] at eu; subst eu; simp [Mi.lenW, t.length]
    | lst g l m x t => simp [seqU] at eu; subst eu; simp [Mi.lenW, g, t.length]
    | frz g l m x t => simp [seqU] at eu; subst eu; simp [Mi.lenW, g, t.length]
    | ref q =>
      simp only [seqU] at eu
      split at eu
      · rename_i g; cases eu
        obtain ⟨ws, a, b⟩ := S.lst q g
        simp [Mi.lenW, a, b.length]
      · cases eu
    | _ => simp [seqU] at eu
  · split at e
    · rename_i kvs ed
      cases e
      obtain ⟨n, ws, rfl, g, t⟩ := dic_rp S qx ed
      simp [Mi.lenW, g, t.length]
    · split at e
      · cases qx
        simpa [Mi.lenW] using e
      · cases e
theorem repr_rp {x : U} {a : W} {k : Str} (qx : Rp μ χ h x a) (e : reprU x = some k) : Mi.reprW a h = some k := by
  cases qx <;> first | exact e | cases e
theorem int_nf {x : R U} (k : ∀ u hu', x = .ok u hu' → ∀ us, u ≠ .lst us) : ∀ us hu', x ≠ .ok (.lst us) hu' := fun us hu' e => k _ _ e us rfl
/-- related values, one, two, none -/
theorem rps1 {us : List U} {ws : List W} {u : U} (q : Rps μ χ h us ws) (e : us = [u]) : ∃ w, ws = [w] ∧ Rp μ χ h u w := by
  subst e
  cases q with
  | cons a t => cases t; exact ⟨_, rfl, a⟩
theorem rps2 {us : List U} {ws : List W} {u v : U} (q : Rps μ χ h us ws) (e : us = [u, v]) : ∃ w w', ws = [w, w'] ∧ Rp μ χ h u w ∧ Rp μ χ h v w' := by
  subst e
  cases q with
  | cons a t =>
    cases t with
    | cons b t => cases t; exact ⟨_, _, rfl, a, b⟩
theorem PF.okN {u : U} {w : W} (S : SU μ χ hu h) (q : Rp μ χ h u w) (n : ∀ us, u ≠ .lst us) : PF μ χ h (.ok u hu) (.ok w h) := ⟨_, _, μ, rfl, Ex.refl, .inr ⟨n, S, q⟩⟩
theorem PF.newD {us : List (Key × U)} {ws : List (Key × W)} (S : SU μ χ hu h) (q : RpK μ χ h us ws) : PU μ χ h (rV χ) (.ok (.ref hu.length) (hu ++ [.dic us])) (.ok (.ref h.n) (h.push (.dic ws))) := by
  refine ⟨_, _, μ ++ [h.n], rfl, ⟨⟨[h.n], rfl, by simp⟩, Nat.le_succ _, Ex.push.keep⟩, S.push.take (o := .dic ws) (by rw [Hh.get_push, if_pos rfl]) (show RpK _ _ _ _ _ from q.ex Ex.push (more_x (Nat.le_refl _))) (fun c => ?_), .ref ?_⟩
  · have := S.lx _ c; omega
  · rw [S.len]; simp
theorem bc_rp (S : SU μ χ hu h) {b : Bc} {us : List U} {ws : List W} (q : Rps μ χ h us ws) : PF μ χ h (bcU b us hu) (Mi.bcW b ws h) := by
  unfold bcU
  split
  · obtain ⟨a, rfl, p⟩ := rps1 q rfl
    split
    · rename_i n e
      have := len_rp S p e
      simp only [Mi.bcW, this]
      exact PF.okN S (.int _) nofun
    · trivial
  · obtain ⟨a, rfl, p⟩ := rps1 q rfl
    cases p; exact PF.okN S (.int _) nofun
  · obtain ⟨a, rfl, p⟩ := rps1 q rfl
    cases p; exact PF.okN S (.int _) nofun
  · obtain ⟨a, rfl, p⟩ := rps1 q rfl
    cases p; exact PF.okN S (.int _) nofun
  · obtain ⟨a, rfl, p⟩ := rps1 q rfl
    split
    · rename_i us e
      obtain ⟨ws, e1, t⟩ := seq_rp S p e
      simp only [Mi.bcW, e1]
      exact PF.new S t
    · split
      · rename_i kvs e
        obtain ⟨n, ws, rfl, g, t⟩ := dic_rp S p e
        simp only [Mi.bcW, Mi.seqAt, g]
        exact PF.new S t.keys
      · trivial
  · obtain ⟨a, rfl, p⟩ := rps1 q rfl
    split
    · rename_i us e
      obtain ⟨ws, e1, t⟩ := seq_rp S p e
      simp only [Mi.bcW, e1]
      exact PF.okN S (.tup t) nofun
    · trivial
  · obtain ⟨a, rfl, p⟩ := rps1 q rfl
    split
    · rename_i us e
      obtain ⟨n, ws, rfl, e1, e2, t⟩ := lsf_rp S p e
      split
      · rename_i ns en
        simp only [Mi.bcW, e2, t.ints en]
        exact sorted_rp S ns
      · trivial
    · split
      · rename_i kvs e
        obtain ⟨n, ws, rfl, g, t⟩ := dic_rp S p e
        split
        · rename_i ns en
          simp only [Mi.bcW, Mi.seqAt, g, t.keysI en]
          exact sorted_rp S ns
        · trivial
      · trivial
  · obtain ⟨a, rfl, p⟩ := rps1 q rfl
    split
    · rename_i kvs e
      obtain ⟨n, ws, rfl, g, t⟩ := dic_rp S p e
      simp only [Mi.bcW, g]
      exact .ofPU (PF.newD S t) fun us hu' e => by cases e
    · trivial
  · obtain ⟨a, rfl, p⟩ := rps1 q rfl
    refine .ofPU (PU.of S fun u e => ?_) fun us hu' e => ?_
    · simp only [Option.map_eq_some_iff] at e
      obtain ⟨n, e, rfl⟩ := e
      exact ⟨.str n, by simp [repr_rp p e], .str _⟩
    · revert e
      generalize reprU _ = z
      cases z <;> nofun
  · obtain ⟨a, rfl, p⟩ := rps1 q rfl
    split
    · rename_i bs e
      simp only [Option.bind_eq_some_iff] at e
      obtain ⟨us, e, eb⟩ := e
      obtain ⟨n, ws, rfl, e1, e2, t⟩ := lsf_rp S p e
      simp only [Mi.bcW, e2, Option.bind_some, t.bools eb]
      exact PF.okN S (.bl _) nofun
    · trivial
  · obtain ⟨a, rfl, p⟩ := rps1 q rfl
    split
    · rename_i bs e
      simp only [Option.bind_eq_some_iff] at e
      obtain ⟨us, e, eb⟩ := e
      obtain ⟨n, ws, rfl, e1, e2, t⟩ := lsf_rp S p e
      simp only [Mi.bcW, e2, Option.bind_some, t.bools eb]
      exact PF.okN S (.bl _) nofun
    · trivial
  · obtain ⟨a, rfl, p⟩ := rps1 q rfl
    split
    · rename_i bs e
      simp only [Option.bind_eq_some_iff] at e
      obtain ⟨us, e, eb⟩ := e
      obtain ⟨n, ws, rfl, e1, e2, t⟩ := lsf_rp S p e
      simp only [Mi.bcW, e2, Option.bind_some, t.ints eb]
      exact PF.okN S (.int _) nofun
    · trivial
  · obtain ⟨a, rfl, p⟩ := rps1 q rfl
    split
    · rename_i bs e
      simp only [Option.bind_eq_some_iff] at e
      obtain ⟨us, e, eb⟩ := e
      obtain ⟨n, ws, rfl, e1, e2, t⟩ := lsf_rp S p e
      simp only [Mi.bcW, e2, Option.bind_some, t.ints eb]
      exact PF.okN S (.int _) nofun
    · trivial
  · obtain ⟨a, rfl, p⟩ := rps1 q rfl
    split
    · rename_i bs e
      simp only [Option.bind_eq_some_iff] at e
      obtain ⟨us, e, eb⟩ := e
      obtain ⟨n, ws, rfl, e1, e2, t⟩ := lsf_rp S p e
      simp only [Mi.bcW, e2, Option.bind_some, t.ints eb]
      exact PF.okN S (.int _) nofun
    · trivial
  · obtain ⟨a, b, rfl, q1, q2⟩ := rps2 q rfl
    cases q1; cases q2; exact PF.okN S (.int _) nofun
  · obtain ⟨a, b, rfl, q1, q2⟩ := rps2 q rfl
    cases q1; cases q2; exact PF.okN S (.int _) nofun
  · obtain ⟨a, b, rfl, q1, q2⟩ := rps2 q rfl
    cases q1; cases q2
    simp only [Mi.bcW]
    split
    · exact PF.okN S (.tup (.cons (.int _) (.cons (.int _) .nil))) nofun
    · trivial
  · trivial
end
end Mu

set_option Elab.async false
set_option linter.all false
set_option maxRecDepth 100000
set_option maxHeartbeats 4000000
/-! Operations: methods, subscripts, fields, instances. -/
namespace Mu
open PySem
open Mi (E Es Eo It Tg Tgs Ss Key Bop Cop Bc Bm Bt Ty Pr FunI ClsI W Hh O tgsL keysI intsW boolsW insI sortI dedI minI maxI)
section
variable {μ χ : List Nat} {h : Hh} {hu : Hu} {C : Cal} {C' : Mi.Cal}
theorem rem_rp (S : SU μ χ hu h) {x : U} {a : W} {us : List U} {ws : List W} {k : Nat} (p : Rp μ χ h x a) (q : Rps μ χ h us ws) (e : remAt x hu us = some k) : Mi.remAt a h ws = some k := by
  unfold remAt at e
  split at e
  · rename_i ds d e1 e2
    have e3 : (ws.mapM fun w => Mi.dat Mi.dataD h w) = some ds := mapM_rp (fun q e => dat_rp S _ q e) q e1
    simp only [Mi.remAt, e3, dat_rp S _ p e2]
    exact e
  · cases e
theorem PU.put {α β : Type} {rel : List Nat → Hh → α → β → Prop} {i n : Nat} {u : OU} {o : O} {a : α} {b : β} (S : SU μ χ hu h) (e : μ[i]? = some n) (q : RpO μ χ h u o) (r : rel μ (h.put n o) a b) : PU μ χ h rel (.ok a (hu.set i u)) (.ok b (h.put n o)) :=
  ⟨_, _, μ, rfl, ex_put e, S.put e q, r⟩
theorem kp_rp {i n : Nat} {o : O} (e : μ[i]? = some n) {u : U} {w : W} (q : Rp μ χ h u w) : Rp μ χ (h.put n o) u w := q.kp (kp_put e)
theorem bm_rp (S : SU μ χ hu h) {b : Bm} {x : U} {a : W} {us : List U} {ws : List W} (p : Rp μ χ h x a) (q : Rps μ χ h us ws) : PU μ χ h (rV χ) (bmU b x us hu) (Mi.bmW b a ws h) := by
  unfold bmU
  split
  · rename_i i
    cases p with
    | ref g =>
      rename_i n
      split
      · rename_i vs gv
        obtain ⟨zs, gz, t⟩ := S.lst g gv
        split
        · obtain ⟨y, rfl, p⟩ := rps1 q rfl
          simp only [Mi.bmW, gz, t.length]
          split
          · exact PU.put S g (show Rps _ _ _ _ _ from t.append (.cons p .nil)) .non
          · trivial
        · obtain ⟨y, z, rfl, p1, p2⟩ := rps2 q rfl
          cases p1
          simp only [Mi.bmW, gz, t.length]
          split
          · exact PU.put S g (show Rps _ _ _ _ _ from .cons p2 t) .non
          · trivial
        · cases q
          split
          · rename_i y ey
            rw [t.length] at ey
            have ey' : vs[zs.length - 1]? = some y := ey
            obtain ⟨w, ew, pw⟩ := t.get ey'
            simp only [Mi.bmW, gz, ew]
            exact PU.put S g (show Rps _ _ _ _ _ from t.dropLast) (kp_rp g pw)
          · trivial
        · obtain ⟨y, rfl, p⟩ := rps1 q rfl
          cases p
          simp only [Mi.bmW, gz, t.length]
          split
          · split
            · rename_i k ek
              split
              · rename_i y ey
                obtain ⟨w, ew, pw⟩ := t.get ey
                simp only [ek, ew]
                exact PU.put S g (show Rps _ _ _ _ _ from t.eraseIdx k) (kp_rp g pw)
              · trivial
            · trivial
          · trivial
        · obtain ⟨y, rfl, p⟩ := rps1 q rfl
          split
          · rename_i k ek
            simp only [Mi.bmW, gz, rem_rp S p t ek]
            exact PU.put S g (show Rps _ _ _ _ _ from t.eraseIdx k) .non
          · trivial
        · trivial
      · rename_i vs gv
        obtain ⟨zs, gz, t⟩ := S.dic g gv
        split
        · obtain ⟨y, rfl, p⟩ := rps1 q rfl
          split
          · rename_i k ek
            split
            · rename_i v ev
              rcases t.val k with ⟨e1, e2⟩ | ⟨u, w, e1, e2, pw⟩
              · rw [ev] at e1; cases e1
              · rw [ev] at e1; cases e1
                simp only [Mi.bmW, gz, key_rp ek p, e2]
                exact PU.put S g (show RpK _ _ _ _ _ from t.drop k) (kp_rp g pw)
            · trivial
          · trivial
        · trivial
      · trivial
  · trivial
theorem kind_rp (S : SU μ χ hu h) {x : U} {a : W} {k : Bool} (p : Rp μ χ h x a) (e : kindU hu x = some k) : Mi.kindW h a = some k := by
  cases p with
  | ref g =>
    simp only [kindU] at e
    split at e
    · rename_i gv; cases e
      obtain ⟨zs, gz, t⟩ := S.lst g gv
      simp [Mi.kindW, Mi.isL, gz]
    · rename_i gv; cases e
      obtain ⟨zs, gz, t⟩ := S.dic g gv
      simp [Mi.kindW, Mi.isL, Mi.isD, gz]
    · cases e
  | _ => cases e
theorem ty_rp (S : SU μ χ hu h) {x : U} {a : W} (p : Rp μ χ h x a) : tyName hu x = Mi.tyName h a := by
  cases p with
  | lst g => simp [tyName, Mi.tyName, g]
  | frz g => simp [tyName, Mi.tyName, g]
  | ref g =>
    obtain ⟨u, o, a, b, c⟩ := S.ok _ _ g
    simp only [tyName, Mi.tyName, a, b]
    cases u <;> cases o <;> first | exact False.elim c | rfl | (rw [c.1])
  | _ => rfl
theorem isi_rp (S : SU μ χ hu h) {x : U} {a : W} (p : Rp μ χ h x a) : ∀ ts, isiU hu x ts = Mi.isiW h a ts
  | [] => rfl
  | t :: ts => by
    have e : isOne hu x t = Mi.isOne h a t := by
      unfold isOne Mi.isOne
      rw [ty_rp S p]
      try rfl
    simp only [isiU, Mi.isiW, e, isi_rp S p ts]
    try rfl
theorem ofRng (a : Int) (n : Nat) : Rps μ χ h ((List.range n).map fun i => U.int (a + (i : Nat))) ((List.range n).map fun i => W.int (a + (i : Nat))) := by
  have := Rps.ofInts (μ := μ) (χ := χ) (h := h) ((List.range n).map fun i => a + (i : Nat))
  simpa [Function.comp_def] using this
theorem rng_rp (S : SU μ χ hu h) {tp : Bool} {us : List U} {ws : List W} (q : Rps μ χ h us ws) : PF μ χ h (rngU tp us hu) (Mi.rngW tp ws h) := by
  unfold rngU
  split
  · obtain ⟨y, rfl, p⟩ := rps1 q rfl
    cases p
    simp only [Mi.rngW, rngGo]
    split
    · cases tp
      · exact PF.new S (ofRng _ _)
      · exact PF.okN S (.tup (ofRng _ _)) nofun
    · trivial
  · obtain ⟨y, z, rfl, p1, p2⟩ := rps2 q rfl
    cases p1; cases p2
    simp only [Mi.rngW, rngGo]
    split
    · cases tp
      · exact PF.new S (ofRng _ _)
      · exact PF.okN S (.tup (ofRng _ _)) nofun
    · trivial
  · trivial
theorem sset_rp (S : SU μ χ hu h) {x : U} {a : W} (p : Rp μ χ h x a) : PF μ χ h (ssetU x hu) (Mi.ssetW a h) := by
  unfold ssetU
  split
  · rename_i ns e
    simp only [Option.bind_eq_some_iff] at e
    obtain ⟨us, e, en⟩ := e
    obtain ⟨ws, e1, t⟩ := seq_rp S p e
    simp only [Mi.ssetW, e1, Option.bind_some, t.ints en]
    split
    · exact PF.new S (Rps.ofInts _)
    · trivial
  · trivial
theorem at_rp {us : List U} {ws : List W} {j : Int} {u : U} (t : Rps μ χ h us ws) (e : L2.atI us j = some u) : ∃ w, L2.atI ws j = some w ∧ Rp μ χ h u w := by
  unfold L2.atI at e ⊢
  rw [t.length] at e
  cases z : L2.ixN ws.length j with
  | none => rw [z] at e; cases e
  | some k => rw [z] at e; exact t.get e
theorem ix_rp (S : SU μ χ hu h) {x y u : U} {a b : W} (p : Rp μ χ h x a) (q : Rp μ χ h y b) (e : ixU x y hu = some u) : ∃ w, Mi.ixW a b h = some w ∧ Rp μ χ h u w := by
  unfold ixU at e
  split at e
  · rename_i us eu
    obtain ⟨ws, e1, t⟩ := seq_rp S p eu
    split at e
    · cases q
      obtain ⟨w, e2, r⟩ := at_rp t e
      exact ⟨w, by simp only [Mi.ixW, e1]; exact e2, r⟩
    · cases e
  · split at e
    · rename_i kvs k ed ek
      obtain ⟨n, ws, rfl, g, t⟩ := dic_rp S p ed
      rcases t.val k with ⟨e1, e2⟩ | ⟨u, w, e1, e2, pw⟩
      · rw [e] at e1; cases e1
      · rw [e] at e1; cases e1
        exact ⟨w, by simp only [Mi.ixW, Mi.seqAt, g, key_rp ek q, e2], pw⟩
    · cases e
theorem cut_rp {us : List U} {ws : List W} {lo hi : Option Int} (t : Rps μ χ h us ws) : Rps μ χ h (cutU us lo hi) (Mi.cutW ws lo hi) := by
  unfold cutU Mi.cutW
  rw [t.length]
  exact (t.drop _).take _
theorem slc_rp (S : SU μ χ hu h) {x : U} {a : W} {lo hi : Option Int} (p : Rp μ χ h x a) : PF μ χ h (slcU x lo hi hu) (Mi.slcW a lo hi h) := by
  unfold slcU
  split
  · cases p with
    | tup t =>
      simp only [Mi.slcW, t.length]
      split
      · trivial
      · exact PF.okN S (.tup (cut_rp t)) nofun
  · rename_i hn
    split
    · rename_i us e
      have nt : ∀ ws, a ≠ .tup ws := by
        rintro ws rfl
        cases p; exact hn _ rfl
      obtain ⟨ws, e1, t⟩ := seq_rp S p e
      have : Mi.slcW a lo hi h = .ok (.ref h.n) (h.push (.lst (Mi.cutW ws lo hi))) := by
        cases a <;> first | exact absurd rfl (nt _) | simp only [Mi.slcW, e1]
      rw [this]
      exact PF.new S (cut_rp t)
    · trivial
theorem rev_rp (S : SU μ χ hu h) {x : U} {a : W} (p : Rp μ χ h x a) : PF μ χ h (revU x hu) (Mi.revW a h) := by
  unfold revU
  split
  · rename_i us e
    obtain ⟨n, ws, rfl, e1, e2, t⟩ := lsf_rp S p e
    simp only [Mi.revW, e2]
    exact PF.new S t.reverse
  · trivial
theorem fld_rp (K : CalOk C C') (S : SU μ χ hu h) {x : U} {a : W} {f : Nat} (p : Rp μ χ h x a) : PU μ χ h (rV χ) (fldU C x f hu) (Mi.fldW C' a f h) := by
  cases p with
  | ref g =>
    rename_i i n
    simp only [fldU, Mi.fldW]
    split
    · rename_i c fs gv
      obtain ⟨gs, gz, t⟩ := S.ins g gv
      rw [gz, K.cs]
      dsimp only
      cases z : C'.cs[c]? with
      | none => trivial
      | some q =>
        dsimp only
        cases z1 : q.ps.lookup f with
        | some k => exact K.call _ _ _ _ _ _ _ S (.cons (.ref g) .nil)
        | none =>
          dsimp only
          cases z2 : q.ms.lookup f with
          | some k => trivial
          | none =>
            refine PU.of S fun u e => ?_
            rcases t.lookup f with ⟨e1, e2⟩ | ⟨u, w, e1, e2, pw⟩
            · rw [e] at e1; cases e1
            · rw [e] at e1; cases e1
              exact ⟨w, e2, pw⟩
    · trivial
  | _ => trivial
theorem setFld_rp (K : CalOk C C') (S : SU μ χ hu h) {x v : U} {a w : W} {f : Nat} {hu' : Hu} (p : Rp μ χ h x a) (pv : Rp μ χ h v w) (e : setFld C x f v hu = some hu') : ∃ h', Mi.setFld C' a f w h = some h' ∧ Ex μ h μ h' ∧ SU μ χ hu' h' := by
  cases p with
  | ref g =>
    rename_i i n
    simp only [setFld] at e
    split at e
    · rename_i c fs gv
      obtain ⟨gs, gz, t⟩ := S.ins g gv
      rw [K.cs] at e
      split at e
      · rename_i q eq
        split at e
        · rename_i e1 e2
          split at e
          · rename_i l
            cases e
            refine ⟨h.put n (.ins c (Mi.putFW f w gs)), ?_, ex_put g, S.put g ⟨rfl, t.put f pv⟩⟩
            rw [t.length] at l
            simp only [Mi.setFld, gz, eq, e1, e2, if_pos l]
          · cases e
        · cases e
      · cases e
    · cases e
  | _ => simp [setFld] at e
theorem setIx_rp (S : SU μ χ hu h) {x y v : U} {a b w : W} {hu' : Hu} (p : Rp μ χ h x a) (q : Rp μ χ h y b) (pv : Rp μ χ h v w) (e : setIx x y v hu = some hu') : ∃ h', Mi.setIx a b w h = some h' ∧ Ex μ h μ h' ∧ SU μ χ hu' h' := by
  cases p with
  | ref g =>
    rename_i i n
    simp only [setIx] at e
    split at e
    · rename_i us gv
      obtain ⟨ws, gz, t⟩ := S.lst g gv
      split at e
      · cases q
        rename_i k
        split at e
        · rename_i j ej
          cases e
          rw [t.length] at ej
          exact ⟨h.put n (.lst (ws.set j w)), by simp only [Mi.setIx, gz, ej], ex_put g, S.put g (show Rps _ _ _ _ _ from t.set j pv)⟩
        · cases e
      · cases e
    · rename_i kvs gv
      obtain ⟨ws, gz, t⟩ := S.dic g gv
      split at e
      · rename_i k ek
        split at e
        · rename_i l
          cases e
          rw [t.length] at l
          exact ⟨h.put n (.dic (Mi.putKW ws k w)), by simp only [Mi.setIx, gz, key_rp ek q, if_pos l], ex_put g, S.put g (show RpK _ _ _ _ _ from t.put k pv)⟩
        · cases e
      · cases e
    · cases e
  | _ => simp [setIx] at e
theorem setAll_rp (S : SU μ χ hu h) {x v : U} {a w : W} {hu' : Hu} (p : Rp μ χ h x a) (pv : Rp μ χ h v w) (e : setAll x v hu = some hu') : ∃ h', Mi.setAll a w h = some h' ∧ Ex μ h μ h' ∧ SU μ χ hu' h' := by
  cases p with
  | ref g =>
    rename_i i n
    simp only [setAll] at e
    split at e
    · rename_i us vs gv
      obtain ⟨ws, gz, t⟩ := S.lst g gv
      cases pv with
      | lst g2 l m x t2 =>
        rename_i k ws2
        cases e
        have ne : n ≠ k := fun c => m (c ▸ List.mem_of_getElem? g)
        exact ⟨h.put n (.lst ws2), by simp only [Mi.setAll, gz, g2, if_neg ne], ex_put g, S.put g (show Rps _ _ _ _ _ from t2)⟩
    · rename_i us j gv
      obtain ⟨ws, gz, t⟩ := S.lst g gv
      cases pv with
      | ref g2 =>
        rename_i k
        split at e
        · rename_i vs gv2
          obtain ⟨ws2, gz2, t2⟩ := S.lst g2 gv2
          split at e
          · cases e
          · rename_i ne
            cases e
            have ne' : n ≠ k := by rintro rfl; exact ne (nd_ix S.nd g g2)
            exact ⟨h.put n (.lst ws2), by simp only [Mi.setAll, gz, gz2, if_neg ne'], ex_put g, S.put g (show Rps _ _ _ _ _ from t2)⟩
        · cases e
    · cases e
  | _ => simp [setAll] at e
theorem meth_rp (K : CalOk C C') (S : SU μ χ hu h) {x : U} {a : W} {m k : Nat} (p : Rp μ χ h x a) (e : methOf C x m hu = some k) : Mi.methOf C' a m h = some k := by
  cases p with
  | ref g =>
    rename_i i n
    simp only [methOf] at e
    split at e
    · rename_i c fs gv
      obtain ⟨gs, gz, t⟩ := S.ins g gv
      rw [K.cs] at e
      split at e
      · rename_i q eq el
        rcases t.lookup m with ⟨e1, e2⟩ | ⟨u, w, e1, e2, pw⟩
        · simp only [Mi.methOf, gz, eq, e2]; exact e
        · rw [el] at e1; cases e1
      · cases e
    · cases e
  | _ => simp [methOf] at e
theorem perm_rp {us vs : List U} {ws : List W} {pm : List Nat} (t : Rps μ χ h us ws) (e : permU pm us = some vs) : ∃ zs, Mi.permW pm ws = some zs ∧ Rps μ χ h vs zs := by
  unfold permU at e
  unfold Mi.permW
  split at e
  · cases e; exact ⟨_, rfl, t⟩
  · rename_i hp
    have key : ∀ (pm : List Nat) (vs : List U), pm.mapM (fun i => us[i]?) = some vs → ∃ zs, pm.mapM (fun i => ws[i]?) = some zs ∧ Rps μ χ h vs zs := by
      intro pm
      induction pm with
      | nil => intro vs e; simp at e; subst e; exact ⟨[], by simp, .nil⟩
      | cons i pm ih =>
        intro vs e
        simp only [List.mapM_cons, Option.bind_eq_bind, Option.bind_eq_some_iff] at e ⊢
        obtain ⟨x, e1, xs, e2, e3⟩ := e
        cases e3
        obtain ⟨w, ew, pw⟩ := t.get e1
        obtain ⟨zs, ez, pz⟩ := ih xs e2
        exact ⟨w :: zs, ⟨w, ew, zs, ez, rfl⟩, .cons pw pz⟩
    obtain ⟨zs, e1, e2⟩ := key pm vs e
    refine ⟨zs, ?_, e2⟩
    cases pm with
    | nil => exact absurd rfl (hp)
    | cons i pm => exact e1
theorem make_rp (K : CalOk C C') (S : SU μ χ hu h) {c : Nat} {us : List U} {ws : List W} (t : Rps μ χ h us ws) : PU μ χ h (rV χ) (makeU C c us hu) (Mi.makeW C' c ws h) := by
  unfold makeU Mi.makeW
  rw [K.cs]
  cases z : C'.cs[c]? with
  | none => trivial
  | some q =>
    dsimp only
    have nx : h.n ∉ χ := fun c => by have := S.lx _ c; omega
    have E1 : Ex μ h (μ ++ [h.n]) (h.push (.ins c [])) := ⟨⟨[h.n], rfl, by simp⟩, Nat.le_succ _, Ex.push.keep⟩
    have S1 : SU (μ ++ [h.n]) χ (hu ++ [.ins c []]) (h.push (.ins c [])) := S.push.take (o := .ins c []) (by rw [Hh.get_push, if_pos rfl]) ⟨rfl, .nil⟩ nx
    have g1 : (μ ++ [h.n])[hu.length]? = some h.n := by rw [S.len]; simp
    refine PU.later E1 (PU.bind (K.call _ _ _ _ _ _ _ S1 (.cons (.ref g1) (t.ex E1 same_x))) fun u hu2 w h2 μ2 E2 S2 q => ?_)
    cases q <;> first | trivial | exact PU.ok0 S2 (.ref (E2.get g1))
end
end Mu

set_option Elab.async false
set_option linter.all false
set_option maxRecDepth 100000
set_option maxHeartbeats 4000000
/-! The second interpreter is sound. -/
namespace Mu
open PySem
open Mi (E Es Eo It Tg Tgs Ss Key Bop Cop Bc Bm Bt Ty Pr FunI ClsI W Hh O tgsL keysI intsW boolsW insI sortI dedI minI maxI)
def SlU (μ χ : List Nat) (h : Hh) (s : Sl) (s' : Mi.Sl) : Prop := s.length = s'.length ∧ ∀ (i : Nat) (u : U), s[i]? = some (some u) → ∃ w, s'[i]? = some (some w) ∧ Rp μ χ h u w
section
variable {μ χ : List Nat} {h : Hh} {hu : Hu} {s : Sl} {s' : Mi.Sl}
theorem SlU.kp {μ' χ' : List Nat} {h' : Hh} (q : SlU μ χ h s s') (k : Kp μ χ h μ' χ' h') : SlU μ' χ' h' s s' :=
  ⟨q.1, fun i u e => let ⟨w, a, b⟩ := q.2 i u e; ⟨w, a, b.kp k⟩⟩
theorem SlU.ex {μ' : List Nat} {h' : Hh} (q : SlU μ χ h s s') (e : Ex μ h μ' h') : SlU μ' χ h' s s' := q.kp (e.kp same_x)
theorem SlU.get (q : SlU μ χ h s s') {i : Nat} {u : U} (e : getS s i = some u) : ∃ w, Mi.getS s' i = some w ∧ Rp μ χ h u w := by
  unfold getS at e
  split at e
  · rename_i u' e'
    cases e
    obtain ⟨w, a, b⟩ := q.2 i _ e'
    exact ⟨w, by simp [Mi.getS, a], b⟩
  · cases e
theorem SlU.set (q : SlU μ χ h s s') {i : Nat} {u : U} {w : W} (p : Rp μ χ h u w) : SlU μ χ h (s.set i (some u)) (s'.set i (some w)) := by
  refine ⟨by simp [q.1], fun j v e => ?_⟩
  by_cases c : i = j
  · subst c
    have lt : i < s.length := by
      have := (List.getElem?_eq_some_iff.mp e).1
      simpa using this
    rw [List.getElem?_set_self lt] at e
    cases e
    exact ⟨w, by rw [List.getElem?_set_self (by rw [← q.1]; exact lt)], p⟩
  · rw [List.getElem?_set_ne c] at e
    rw [List.getElem?_set_ne c]
    exact q.2 j v e
theorem SlU.wipe (q : SlU μ χ h s s') : ∀ l : List Nat, SlU μ χ h (wipeS s l) (Mi.wipeS s' l)
  | [] => q
  | i :: l => by
    have ih := SlU.wipe q l
    refine ⟨by simp [wipeS, Mi.wipeS, ih.1], fun j u e => ?_⟩
    unfold wipeS at e
    unfold Mi.wipeS
    by_cases c : i = j
    · subst c
      have lt : i < (wipeS s l).length := by
        have := (List.getElem?_eq_some_iff.mp e).1
        simpa using this
      rw [List.getElem?_set_self lt] at e
      cases e
    · rw [List.getElem?_set_ne c] at e
      rw [List.getElem?_set_ne c]
      exact ih.2 j u e
abbrev rS (χ : List Nat) : List Nat → Hh → Sl → Mi.Sl → Prop := fun μ h s s' => SlU μ χ h s s'
/-! ### what is walked -/
def JU (μ χ : List Nat) (h : Hh) : J → Mi.J → Prop
  | .seq u, .seq w => Rp μ χ h u w
  | .rng a n, .rng b m => a = b ∧ n = m
  | .enm u, .enm n => Rp μ χ h u (.ref n)
  | .zip u v, .zip m n => Rp μ χ h u (.ref m) ∧ Rp μ χ h v (.ref n)
  | _, _ => False
theorem JU.kp {μ' χ' : List Nat} {h' : Hh} {j : J} {j' : Mi.J} (q : JU μ χ h j j') (k : Kp μ χ h μ' χ' h') : JU μ' χ' h' j j' := by
  cases j <;> cases j' <;> first | exact False.elim q | exact Rp.kp k q | exact q | exact ⟨Rp.kp k q.1, Rp.kp k q.2⟩
theorem lsf_ref (S : SU μ χ hu h) {u : U} {n : Nat} {us : List U} (q : Rp μ χ h u (.ref n)) (e : lsfU hu u = some us) : ∃ ws, Mi.lstAt h n = some ws ∧ Rps μ χ h us ws := by
  obtain ⟨m, ws, e1, e2, _, t⟩ := lsf_rp S q e
  cases e1
  exact ⟨ws, e2, t⟩
def RO (μ χ : List Nat) (h : Hh) : Option U → Option W → Prop
  | none, none => True
  | some u, some w => Rp μ χ h u w
  | _, _ => False
theorem next_rp (S : SU μ χ hu h) {j : J} {j' : Mi.J} (q : JU μ χ h j j') {i : Nat} {o : Option U} (e : j.next i hu = some o) : ∃ o', j'.next i h = some o' ∧ RO μ χ h o o' := by
  cases j <;> cases j' <;> first | exact False.elim q | skip
  · simp only [J.next, Option.map_eq_some_iff] at e
    obtain ⟨us, e2, rfl⟩ := e
    obtain ⟨ws, e1, t⟩ := seq_rp S q e2
    refine ⟨ws[i]?, by simp [Mi.J.next, e1], ?_⟩
    cases z : us[i]? with
    | none => rw [t.none z]; trivial
    | some u =>
      obtain ⟨w, ew, pw⟩ := t.get z
      rw [ew]; exact pw
  · obtain ⟨rfl, rfl⟩ := q
    simp only [J.next, Option.some.injEq] at e
    subst e
    refine ⟨_, rfl, ?_⟩
    split
    · exact Rp.int _
    · trivial
  · simp only [J.next, Option.map_eq_some_iff] at e
    obtain ⟨us, e2, rfl⟩ := e
    obtain ⟨ws, e1, t⟩ := lsf_ref S q e2
    refine ⟨(ws[i]?).map fun w => .tup [.int (i : Nat), w], by simp [Mi.J.next, e1], ?_⟩
    cases z : us[i]? with
    | none => rw [t.none z]; trivial
    | some u =>
      obtain ⟨w, ew, pw⟩ := t.get z
      rw [ew]; exact Rp.tup (.cons (.int _) (.cons pw .nil))
  · simp only [J.next] at e
    split at e
    · rename_i xs ys ex ey
      obtain ⟨ws1, e1, t1⟩ := lsf_ref S q.1 ex
      obtain ⟨ws2, e2, t2⟩ := lsf_ref S q.2 ey
      simp only [Mi.J.next, e1, e2]
      cases z1 : xs[i]? with
      | none =>
        rw [z1] at e
        cases e
        rw [t1.none z1]; exact ⟨none, rfl, trivial⟩
      | some u =>
        rw [z1] at e
        obtain ⟨w, ew, pw⟩ := t1.get z1
        cases z2 : ys[i]? with
        | none =>
          rw [z2] at e
          cases e
          rw [ew, t2.none z2]; exact ⟨none, rfl, trivial⟩
        | some v =>
          rw [z2] at e
          obtain ⟨w', ew', pw'⟩ := t2.get z2
          cases e
          rw [ew, ew']; exact ⟨_, rfl, Rp.tup (.cons pw (.cons pw' .nil))⟩
    · cases e
theorem fuel_rp (S : SU μ χ hu h) {j : J} {j' : Mi.J} (q : JU μ χ h j j') : j.fuel hu = 0 ∨ j'.fuel h = j.fuel hu := by
  cases j <;> cases j' <;> first | exact False.elim q | skip
  · rename_i u w
    cases z : seqU hu u with
    | none => left; simp [J.fuel, z]
    | some us =>
      obtain ⟨ws, e1, t⟩ := seq_rp S q z
      right; simp [J.fuel, Mi.J.fuel, z, e1, t.length]
  · right; obtain ⟨rfl, rfl⟩ := q; rfl
  · rename_i u w
    cases z : lsfU hu u with
    | none => left; simp [J.fuel, z]
    | some us =>
      obtain ⟨ws, e1, t⟩ := lsf_ref S q z
      right; simp [J.fuel, Mi.J.fuel, z, e1, t.length]
  · rename_i u v m n
    cases z : lsfU hu u with
    | none => left; simp [J.fuel, z]
    | some us =>
      obtain ⟨ws, e1, t⟩ := lsf_ref S q.1 z
      right; simp [J.fuel, Mi.J.fuel, z, e1, t.length]
end
/-! ### statements -/
def PS (μ χ : List Nat) (h : Hh) : RS → Mi.RS → Prop
  | .nx s hu, r => ∃ s' h' μ', r = .nx s' h' ∧ Ex μ h μ' h' ∧ SU μ' χ hu h' ∧ SlU μ' χ h' s s'
  | .rt u hu, r => ∃ w h' μ', r = .rt w h' ∧ Ex μ h μ' h' ∧ SU μ' χ hu h' ∧ Rp μ' χ h' u w
  | .bk s hu, r => ∃ s' h' μ', r = .bk s' h' ∧ Ex μ h μ' h' ∧ SU μ' χ hu h' ∧ SlU μ' χ h' s s'
  | .ct s hu, r => ∃ s' h' μ', r = .ct s' h' ∧ Ex μ h μ' h' ∧ SU μ' χ hu h' ∧ SlU μ' χ h' s s'
  | .ex c fs s hu, r => ∃ fs' s' h' μ', r = .ex c fs' s' h' ∧ Ex μ h μ' h' ∧ SU μ' χ hu h' ∧ RpF μ' χ h' fs fs' ∧ SlU μ' χ h' s s'
  | .no, _ => True
section
variable {μ χ : List Nat} {h : Hh} {hu : Hu} {s : Sl} {s' : Mi.Sl}
theorem PS.later {x : RS} {y : Mi.RS} {μ1 : List Nat} {h1 : Hh} (E : Ex μ h μ1 h1) (p : PS μ1 χ h1 x y) : PS μ χ h x y := by
  cases x with
  | nx s hu => obtain ⟨s', h', μ', e, E', q⟩ := p; exact ⟨s', h', μ', e, E.trans E', q⟩
  | rt s hu => obtain ⟨s', h', μ', e, E', q⟩ := p; exact ⟨s', h', μ', e, E.trans E', q⟩
  | bk s hu => obtain ⟨s', h', μ', e, E', q⟩ := p; exact ⟨s', h', μ', e, E.trans E', q⟩
  | ct s hu => obtain ⟨s', h', μ', e, E', q⟩ := p; exact ⟨s', h', μ', e, E.trans E', q⟩
  | ex c fs s hu => obtain ⟨fs', s', h', μ', e, E', q⟩ := p; exact ⟨fs', s', h', μ', e, E.trans E', q⟩
  | no => trivial
theorem PU.toS {α β : Type} {rel : List Nat → Hh → α → β → Prop} {x : R α} {y : Mi.R β} {f : α → Hu → RS} {g : β → Hh → Mi.RS} (p : PU μ χ h rel x y) (L : SlU μ χ h s s')
    (k : ∀ a hu1 b h1 μ1, Ex μ h μ1 h1 → SU μ1 χ hu1 h1 → rel μ1 h1 a b → PS μ1 χ h1 (f a hu1) (g b h1)) : PS μ χ h (x.toS s f) (y.toS s' g) := by
  cases x with
  | ok a hu =>
    obtain ⟨b, h', μ', rfl, E, S, q⟩ := p
    exact PS.later E (k a hu b h' μ' E S q)
  | ex c fs hu =>
    obtain ⟨b, h', μ', rfl, E, S, q⟩ := p
    exact ⟨b, s', h', μ', rfl, E, S, q, L.ex E⟩
  | no => trivial
theorem for_rp {χ : List Nat} {asg : U → Sl → Hu → R Sl} {asg' : W → Mi.Sl → Hh → Mi.R Mi.Sl} {body : Sl → Hu → RS} {body' : Mi.Sl → Hh → Mi.RS} {j : J} {j' : Mi.J}
    (ha : ∀ {μ h hu s s' u w}, SU μ χ hu h → SlU μ χ h s s' → Rp μ χ h u w → PU μ χ h (rS χ) (asg u s hu) (asg' w s' h)) (hb : ∀ {μ h hu s s'}, SU μ χ hu h → SlU μ χ h s s' → PS μ χ h (body s hu) (body' s' h)) :
    ∀ (k i : Nat) {μ h hu s s'}, SU μ χ hu h → SlU μ χ h s s' → JU μ χ h j j' → PS μ χ h (forL asg body j k i s hu) (Mi.forL asg' body' j' k i s' h)
  | 0, _, _, _, _, _, _, _, _, _ => trivial
  | k + 1, i, μ, h, hu, s, s', S, L, J => by
    unfold forL Mi.forL
    cases e : j.next i hu with
    | none => trivial
    | some o =>
      obtain ⟨o', e', q⟩ := next_rp S J e
      rw [e']
      cases o with
      | none => cases o' with
        | none => exact ⟨s', h, μ, rfl, Ex.refl, S, L⟩
        | some _ => exact False.elim q
      | some u => cases o' with
        | none => exact False.elim q
        | some w =>
          dsimp only
          refine PU.toS (ha S L q) L fun s1 hu1 s1' h1 μ1 E1 S1 L1 => ?_
          have hb1 := hb S1 L1
          generalize body s1 hu1 = x at hb1 ⊢
          generalize body' s1' h1 = y at hb1 ⊢
          cases x with
          | nx s2 hu2 =>
            obtain ⟨s2', h2, μ2, rfl, E2, S2, L2⟩ := hb1
            exact PS.later E2 (for_rp ha hb k (i + 1) S2 L2 (J.kp ((E1.trans E2).kp same_x)))
          | ct s2 hu2 =>
            obtain ⟨s2', h2, μ2, rfl, E2, S2, L2⟩ := hb1
            exact PS.later E2 (for_rp ha hb k (i + 1) S2 L2 (J.kp ((E1.trans E2).kp same_x)))
          | bk s2 hu2 =>
            obtain ⟨s2', h2, μ2, rfl, E2, S2, L2⟩ := hb1
            exact ⟨s2', h2, μ2, rfl, E2, S2, L2⟩
          | rt u hu2 =>
            obtain ⟨s2', h2, μ2, rfl, E2, S2, L2⟩ := hb1
            exact ⟨s2', h2, μ2, rfl, E2, S2, L2⟩
          | ex c fs s2 hu2 =>
            obtain ⟨fs', s2', h2, μ2, rfl, E2, S2, L2⟩ := hb1
            exact ⟨fs', s2', h2, μ2, rfl, E2, S2, L2⟩
          | no => trivial
theorem whl_rp {χ : List Nat} {tst : Sl → Hu → R Bool} {tst' : Mi.Sl → Hh → Mi.R Bool} {body : Sl → Hu → RS} {body' : Mi.Sl → Hh → Mi.RS}
    (ht : ∀ {μ h hu s s'}, SU μ χ hu h → SlU μ χ h s s' → PU μ χ h rE (tst s hu) (tst' s' h)) (hb : ∀ {μ h hu s s'}, SU μ χ hu h → SlU μ χ h s s' → PS μ χ h (body s hu) (body' s' h)) :
    ∀ (k : Nat) {μ h hu s s'}, SU μ χ hu h → SlU μ χ h s s' → PS μ χ h (whlL tst body k s hu) (Mi.whlL tst' body' k s' h)
  | 0, _, _, _, _, _, _, _ => trivial
  | k + 1, μ, h, hu, s, s', S, L => by
    unfold whlL Mi.whlL
    refine PU.toS (ht S L) L fun b hu1 b' h1 μ1 E1 S1 q => ?_
    cases q
    cases b with
    | false => exact ⟨s', h1, μ1, rfl, Ex.refl, S1, L.ex E1⟩
    | true =>
      dsimp only
      have hb1 := hb S1 (L.ex E1)
      generalize body s hu1 = x at hb1 ⊢
      generalize body' s' h1 = y at hb1 ⊢
      cases x with
      | nx s2 hu2 =>
        obtain ⟨s2', h2, μ2, rfl, E2, S2, L2⟩ := hb1
        exact PS.later E2 (whl_rp ht hb k S2 L2)
      | ct s2 hu2 =>
        obtain ⟨s2', h2, μ2, rfl, E2, S2, L2⟩ := hb1
        exact PS.later E2 (whl_rp ht hb k S2 L2)
      | bk s2 hu2 =>
        obtain ⟨s2', h2, μ2, rfl, E2, S2, L2⟩ := hb1
        exact ⟨s2', h2, μ2, rfl, E2, S2, L2⟩
      | rt u hu2 =>
        obtain ⟨s2', h2, μ2, rfl, E2, S2, L2⟩ := hb1
        exact ⟨s2', h2, μ2, rfl, E2, S2, L2⟩
      | ex c fs s2 hu2 =>
        obtain ⟨fs', s2', h2, μ2, rfl, E2, S2, L2⟩ := hb1
        exact ⟨fs', s2', h2, μ2, rfl, E2, S2, L2⟩
      | no => trivial
/-- a comprehension: the first interpreter's list D is hidden as it grows -/
def PC (μ χ : List Nat) (h : Hh) (D : Nat) : R (List U) → Mi.R Unit → Prop
  | .ok us hu, r => ∃ h' μ' ws, r = .ok () h' ∧ Ex μ h μ' h' ∧ SU μ' (D :: χ) hu h' ∧ h'.get D = some (.lst ws) ∧ Rps μ' (D :: χ) h' us ws
  | _, _ => True
theorem comp_rp {χ : List Nat} {D : Nat} {asg : U → Sl → Hu → R Sl} {asg' : W → Mi.Sl → Hh → Mi.R Mi.Sl} {tst : Sl → Hu → R Bool} {tst' : Mi.Sl → Hh → Mi.R Bool} {elt : Sl → Hu → R U} {elt' : Mi.Sl → Hh → Mi.R W} {j : J} {j' : Mi.J}
    (ha : ∀ {μ h hu s s' u w}, SU μ (D :: χ) hu h → SlU μ (D :: χ) h s s' → Rp μ (D :: χ) h u w → PU μ (D :: χ) h (rS (D :: χ)) (asg u s hu) (asg' w s' h))
    (ht : ∀ {μ h hu s s'}, SU μ (D :: χ) hu h → SlU μ (D :: χ) h s s' → PU μ (D :: χ) h rE (tst s hu) (tst' s' h))
    (he : ∀ {μ h hu s s'}, SU μ (D :: χ) hu h → SlU μ (D :: χ) h s s' → PU μ (D :: χ) h (rV (D :: χ)) (elt s hu) (elt' s' h))
    {μ0 : List Nat} {h0 : Hh} (hD : h0.n ≤ D) : ∀ (k i : Nat) {μ h hu s s' acc wcc}, Ex μ0 h0 μ h → SU μ (D :: χ) hu h → SlU μ (D :: χ) h s s' → JU μ (D :: χ) h j j' → h.get D = some (.lst wcc) → Rps μ (D :: χ) h acc wcc →
      PC μ0 χ h0 D (compL asg tst elt j s k i acc hu) (Mi.compL asg' tst' elt' j' D s' k i h)
  | 0, _, _, _, _, _, _, _, _, _, _, _, _, _, _ => trivial
  | k + 1, i, μ, h, hu, s, s', acc, wcc, E0, S, L, J, gD, A => by
    unfold compL Mi.compL
    cases e : j.next i hu with
    | none => trivial
    | some o =>
      obtain ⟨o', e', q⟩ := next_rp S J e
      rw [e']
      cases o with
      | none => cases o' with
        | none => exact ⟨h, μ, wcc, rfl, E0, S, gD, A⟩
        | some _ => exact False.elim q
      | some u => cases o' with
        | none => exact False.elim q
        | some w =>
          dsimp only
          have h1 := ha S L q
          generalize asg u s hu = x at h1 ⊢
          generalize asg' w s' h = y at h1 ⊢
          cases x with
          | ex c fs hu1 => trivial
          | no => trivial
          | ok s1 hu1 =>
            obtain ⟨s1', h1', μ1, rfl, E1, S1, L1⟩ := h1
            have h2 := ht S1 L1
            simp only [R.bindN, Mi.R.bindN]
            generalize tst s1 hu1 = x at h2 ⊢
            generalize tst' s1' h1' = y at h2 ⊢
            cases x with
            | ex c fs hu1 => trivial
            | no => trivial
            | ok b hu2 =>
              obtain ⟨b', h2', μ2, rfl, E2, S2, rfl⟩ := h2
              have E02 := E1.trans E2
              have lD : D < h.n := S.lx D (by simp)
              have nD : D ∉ μ := fun c => S.disj D c (by simp)
              cases b with
              | false =>
                dsimp only
                have g2 : h2'.get D = some (.lst wcc) := (E02.keep D lD nD).trans gD
                exact comp_rp ha ht he hD k (i + 1) (E0.trans E02) S2 (L.ex E02) (J.kp (E02.kp same_x)) g2 (A.ex E02 same_x)
              | true =>
                dsimp only
                have h3 := he S2 (L1.ex E2)
                generalize elt s1 hu2 = x at h3 ⊢
                generalize elt' s1' h2' = y at h3 ⊢
                cases x with
                | ex c fs hu1 => trivial
                | no => trivial
                | ok y hu3 =>
                  obtain ⟨w, h3', μ3, rfl, E3, S3, qy⟩ := h3
                  have E03 := E02.trans E3
                  have g3 : h3'.get D = some (.lst wcc) := (E03.keep D lD nD).trans gD
                  dsimp only
                  rw [g3, A.length]
                  dsimp only
                  split
                  · have kh : Kp μ3 (D :: χ) h3' μ3 (D :: χ) (h3'.put D (.lst (wcc ++ [w]))) := kp_hid (by simp)
                    have E04 := E0.trans E03
                    refine comp_rp ha ht he hD k (i + 1) ⟨E04.mu, E04.le, fun n l m => ?_⟩ (S3.hid (by simp)) ((L.ex E03).kp kh) ((J.kp (E03.kp same_x)).kp kh) (by rw [Hh.get_put, if_pos rfl]) (((A.ex E03 same_x).append (.cons qy .nil)).kp kh)
                    rw [Hh.get_put, if_neg (by omega)]
                    exact E04.keep n l m
                  · trivial
end
end Mu

set_option Elab.async false
set_option linter.all false
set_option maxRecDepth 100000
set_option maxHeartbeats 4000000
/-! The second interpreter is sound: all forms. -/
namespace Mu
open PySem
open Mi (E Es Eo It Tg Tgs Ss Key Bop Cop Bc Bm Bt Ty Pr FunI ClsI W Hh O tgsL keysI intsW boolsW insI sortI dedI minI maxI)
section
variable (C : Cal) (C' : Mi.Cal)
def SnF (e : E) : Prop := ∀ ⦃μ χ : List Nat⦄ ⦃hu : Hu⦄ ⦃h : Hh⦄ ⦃s : Sl⦄ ⦃s' : Mi.Sl⦄, SU μ χ hu h → SlU μ χ h s s' → PF μ χ h (evE C e s hu) (Mi.evE C' e s' h)
def SnE (e : E) : Prop := ∀ ⦃μ χ : List Nat⦄ ⦃hu : Hu⦄ ⦃h : Hh⦄ ⦃s : Sl⦄ ⦃s' : Mi.Sl⦄, SU μ χ hu h → SlU μ χ h s s' → PU μ χ h (rV χ) (evE C e s hu) (Mi.evE C' e s' h)
def SnT (e : E) : Prop := ∀ ⦃μ χ : List Nat⦄ ⦃hu : Hu⦄ ⦃h : Hh⦄ ⦃s : Sl⦄ ⦃s' : Mi.Sl⦄, SU μ χ hu h → SlU μ χ h s s' → PU μ χ h rE (evT C e s hu) (Mi.evT C' e s' h)
def SnA (e : E) : Prop := (isFr e = true → SnF C C' e) ∧ SnE C C' e ∧ SnT C C' e
def SnEs (e : Es) : Prop := ∀ ⦃μ χ : List Nat⦄ ⦃hu : Hu⦄ ⦃h : Hh⦄ ⦃s : Sl⦄ ⦃s' : Mi.Sl⦄, SU μ χ hu h → SlU μ χ h s s' → PU μ χ h (rVs χ) (evEs C e s hu) (Mi.evEs C' e s' h)
def SnO (e : Eo) : Prop := ∀ ⦃μ χ : List Nat⦄ ⦃hu : Hu⦄ ⦃h : Hh⦄ ⦃s : Sl⦄ ⦃s' : Mi.Sl⦄, SU μ χ hu h → SlU μ χ h s s' → PU μ χ h rE (evO C e s hu) (Mi.evO C' e s' h)
def SnC (e : Eo) : Prop := ∀ ⦃μ χ : List Nat⦄ ⦃hu : Hu⦄ ⦃h : Hh⦄ ⦃s : Sl⦄ ⦃s' : Mi.Sl⦄, SU μ χ hu h → SlU μ χ h s s' → PU μ χ h rE (evC C e s hu) (Mi.evC C' e s' h)
def SnI (e : It) : Prop := ∀ ⦃μ χ : List Nat⦄ ⦃hu : Hu⦄ ⦃h : Hh⦄ ⦃s : Sl⦄ ⦃s' : Mi.Sl⦄, SU μ χ hu h → SlU μ χ h s s' → PU μ χ h (fun μ h j j' => JU μ χ h j j') (evI C e s hu) (Mi.evI C' e s' h)
def SnG (e : Tg) : Prop := ∀ ⦃μ χ : List Nat⦄ ⦃hu : Hu⦄ ⦃h : Hh⦄ ⦃s : Sl⦄ ⦃s' : Mi.Sl⦄ ⦃u : U⦄ ⦃w : W⦄, SU μ χ hu h → SlU μ χ h s s' → Rp μ χ h u w → PU μ χ h (rS χ) (evG C e u s hu) (Mi.evG C' e w s' h)
def SnGs (e : Tgs) : Prop := ∀ ⦃μ χ : List Nat⦄ ⦃hu : Hu⦄ ⦃h : Hh⦄ ⦃s : Sl⦄ ⦃s' : Mi.Sl⦄ ⦃u : List U⦄ ⦃w : List W⦄, SU μ χ hu h → SlU μ χ h s s' → Rps μ χ h u w → PU μ χ h (rS χ) (evGs C e u s hu) (Mi.evGs C' e w s' h)
end
section
variable {C : Cal} {C' : Mi.Cal}
theorem tru_pu {μ χ : List Nat} {hu : Hu} {h : Hh} (S : SU μ χ hu h) {u : U} {w : W} (q : Rp μ χ h u w) : PU μ χ h rE (.of hu (tru hu u)) (.of h (Mi.tru h w)) :=
  PU.of S fun b e => ⟨b, tru_rp S q e, rfl⟩
/-- a test by the value -/
theorem SnE.t {e : E} (q : SnE C C' e) (e1 : ∀ s h, evT C e s h = (evE C e s h).bind fun x h1 => .of h1 (tru h1 x)) (e2 : ∀ s h, Mi.evT C' e s h = (Mi.evE C' e s h).bind fun x h1 => .of h1 (Mi.tru h1 x)) : SnT C C' e := by
  intro μ χ hu h s s' S L
  rw [e1, e2]
  exact PU.bind (q S L) fun u hu1 w h1 μ1 E1 S1 p => tru_pu S1 p
theorem SnF.a {e : E} (q : SnF C C' e) (e1 : ∀ s h, evT C e s h = (evE C e s h).bind fun x h1 => .of h1 (tru h1 x)) (e2 : ∀ s h, Mi.evT C' e s h = (Mi.evE C' e s h).bind fun x h1 => .of h1 (Mi.tru h1 x)) : SnA C C' e :=
  have q2 : SnE C C' e := fun _ _ _ _ _ _ S L => (q S L).pu
  ⟨fun _ => q, q2, q2.t e1 e2⟩
theorem SnE.a {e : E} (q : SnE C C' e) (n : isFr e = false) (e1 : ∀ s h, evT C e s h = (evE C e s h).bind fun x h1 => .of h1 (tru h1 x)) (e2 : ∀ s h, Mi.evT C' e s h = (Mi.evE C' e s h).bind fun x h1 => .of h1 (Mi.tru h1 x)) : SnA C C' e :=
  ⟨fun c => (by rw [n] at c; cases c), q, q.t e1 e2⟩
theorem SnT.a {e : E} (q : SnE C C' e) (n : isFr e = false) (t : SnT C C' e) : SnA C C' e := ⟨fun c => (by rw [n] at c; cases c), q, t⟩
theorem rngJ_rp {μ χ : List Nat} {hu : Hu} {h : Hh} {a b : Int} (S : SU μ χ hu h) : PU μ χ h (fun μ h j j' => JU μ χ h j j') (rngJ a b hu) (Mi.rngJ a b h) := by
  unfold rngJ Mi.rngJ
  split
  · exact PU.ok0 S (⟨rfl, rfl⟩ : JU μ χ h (.rng a (b - a).toNat) (.rng a (b - a).toNat))
  · trivial
theorem PU.res {α β : Type} {rel : List Nat → Hh → α → β → Prop} {μ χ : List Nat} {hu : Hu} {h : Hh} {a : α} {b : β} (S : SU μ χ hu h) (q : rel μ h a b) : PU μ χ h rel (.ok a hu) (.ok b h) := PU.ok0 S q
mutual
theorem E_ok (K : CalOk C C') : ∀ e : E, SnA C C' e
  | .cst w => by
    refine SnE.a (fun ⦃μ χ hu h s s'⦄ S L => ?_) rfl (fun s h => by simp only [evT]) fun s h => by simp only [Mi.evT]
    simp only [evE, Mi.evE]
    cases e : ofW w with
    | none => trivial
    | some u => exact PU.res S (ofW_rp e)
  | .glo w => by
    refine SnE.a (fun ⦃μ χ hu h s s'⦄ S L => ?_) rfl (fun s h => by simp only [evT]) fun s h => by simp only [Mi.evT]
    simp only [evE, Mi.evE]
    cases e : ofW w with
    | none => trivial
    | some u => exact PU.res S (ofW_rp e)
  | .var i => by
    refine SnE.a (fun ⦃μ χ hu h s s'⦄ S L => ?_) rfl (fun s h => by simp only [evT]) fun s h => by simp only [Mi.evT]
    simp only [evE, Mi.evE]
    exact PU.of S fun u e => L.get e
  | .mut e => by
    have ih := E_ok K e
    refine SnE.a (fun ⦃μ χ hu h s s'⦄ S L => ?_) rfl (fun s h => by simp only [evT]) fun s h => by simp only [Mi.evT]
    simp only [evE, Mi.evE]
    cases c : isFr e with
    | true => exact PF.thaw (ih.1 c S L)
    | false =>
      cases z : evE C e s hu with
      | ok u h1 => trivial
      | ex c fs h1 =>
        have := ih.2.1 S L
        rw [z] at this
        exact this
      | no => trivial
  | .bin op a b => by
    have ia := (E_ok K a).2.1
    have ib := (E_ok K b).2.1
    refine SnF.a (fun ⦃μ χ hu h s s'⦄ S L => ?_) (fun s h => by simp only [evT]) fun s h => by simp only [Mi.evT]
    simp only [evE, Mi.evE]
    refine PF.bind (ia S L) fun x hu1 w h1 μ1 E1 S1 p1 => PF.bind (ib S1 (L.ex E1)) fun y hu2 z h2 μ2 E2 S2 p2 => ?_
    exact (bin_rp S2 (p1.ex E2 same_x) p2).nx
  | .neg a => by
    have ia := (E_ok K a).2.1
    refine SnE.a (fun ⦃μ χ hu h s s'⦄ S L => ?_) rfl (fun s h => by simp only [evT]) fun s h => by simp only [Mi.evT]
    simp only [evE, Mi.evE]
    refine PU.bind (ia S L) fun x hu1 w h1 μ1 E1 S1 p1 => ?_
    cases p1 <;> first | trivial | exact PU.res S1 (.int _)
  | .notE a => by
    have ih := E_ok K a
    refine SnT.a (fun ⦃μ χ hu h s s'⦄ S L => ?_) rfl (fun ⦃μ χ hu h s s'⦄ S L => ?_)
    · simp only [evE, Mi.evE]
      refine PU.bind (ih.2.1 S L) fun x hu1 w h1 μ1 E1 S1 p1 => ?_
      exact bl_of S1 not fun b e => tru_rp S1 p1 e
    · simp only [evT, Mi.evT]
      refine PU.bind (ih.2.2 S L) fun x hu1 w h1 μ1 E1 S1 p1 => ?_
      cases p1; exact PU.res S1 rfl
  | .andE a b => by
    have ia := E_ok K a
    have ib := E_ok K b
    refine SnT.a (fun ⦃μ χ hu h s s'⦄ S L => ?_) rfl (fun ⦃μ χ hu h s s'⦄ S L => ?_)
    · simp only [evE, Mi.evE]
      refine PU.bind (ia.2.1 S L) fun x hu1 w h1 μ1 E1 S1 p1 => ?_
      cases e : tru hu1 x with
      | none => trivial
      | some k =>
        rw [tru_rp S1 p1 e]
        cases k with
        | true => exact ib.2.1 S1 (L.ex E1)
        | false => exact PU.res S1 p1
    · simp only [evT, Mi.evT]
      refine PU.bind (ia.2.2 S L) fun x hu1 w h1 μ1 E1 S1 p1 => ?_
      cases p1
      cases x with
      | true => exact ib.2.2 S1 (L.ex E1)
      | false => exact PU.res S1 rfl
  | .orE a b => by
    have ia := E_ok K a
    have ib := E_ok K b
    refine SnT.a (fun ⦃μ χ hu h s s'⦄ S L => ?_) rfl (fun ⦃μ χ hu h s s'⦄ S L => ?_)
    · simp only [evE, Mi.evE]
      refine PU.bind (ia.2.1 S L) fun x hu1 w h1 μ1 E1 S1 p1 => ?_
      cases e : tru hu1 x with
      | none => trivial
      | some k =>
        rw [tru_rp S1 p1 e]
        cases k with
        | false => exact ib.2.1 S1 (L.ex E1)
        | true => exact PU.res S1 p1
    · simp only [evT, Mi.evT]
      refine PU.bind (ia.2.2 S L) fun x hu1 w h1 μ1 E1 S1 p1 => ?_
      cases p1
      cases x with
      | false => exact ib.2.2 S1 (L.ex E1)
      | true => exact PU.res S1 rfl
  | .cmp op a b => by
    have ia := (E_ok K a).2.1
    have ib := (E_ok K b).2.1
    refine SnT.a (fun ⦃μ χ hu h s s'⦄ S L => ?_) rfl (fun ⦃μ χ hu h s s'⦄ S L => ?_)
    · simp only [evE, Mi.evE]
      refine PU.bind (ia S L) fun x hu1 w h1 μ1 E1 S1 p1 => PU.bind (ib S1 (L.ex E1)) fun y hu2 z h2 μ2 E2 S2 p2 => ?_
      exact (cmp_rp K S2 (p1.ex E2 same_x) p2).nx
    · simp only [evT, Mi.evT]
      refine PU.bind (ia S L) fun x hu1 w h1 μ1 E1 S1 p1 => PU.bind (ib S1 (L.ex E1)) fun y hu2 z h2 μ2 E2 S2 p2 => ?_
      refine PU.bindN (cmp_rp K S2 (p1.ex E2 same_x) p2) fun r hu3 r' h3 μ3 E3 S3 p3 => ?_
      cases p3 <;> first | trivial | exact PU.res S3 rfl
  | .cmp2 op op' a b c => by
    have ia := (E_ok K a).2.1
    have ib := (E_ok K b).2.1
    have ic := (E_ok K c).2.1
    refine SnT.a (fun ⦃μ χ hu h s s'⦄ S L => ?_) rfl (fun ⦃μ χ hu h s s'⦄ S L => ?_)
    · simp only [evE, Mi.evE]
      refine PU.bind (ia S L) fun x hu1 w h1 μ1 E1 S1 p1 => PU.bind (ib S1 (L.ex E1)) fun y hu2 z h2 μ2 E2 S2 p2 => ?_
      refine PU.bindN (cmp_rp K S2 (p1.ex E2 same_x) p2) fun r hu3 r' h3 μ3 E3 S3 p3 => ?_
      cases p3 <;> first | trivial | skip
      rename_i k
      cases k with
      | false => exact PU.res S3 (.bl _)
      | true =>
        refine PU.bind (ic S3 (L.ex ((E1.trans E2).trans E3))) fun z hu4 w h4 μ4 E4 S4 p4 => ?_
        exact (cmp_rp K S4 (p2.ex (E3.trans E4) same_x) p4).nx
    · simp only [evT, Mi.evT]
      refine PU.bind (ia S L) fun x hu1 w h1 μ1 E1 S1 p1 => PU.bind (ib S1 (L.ex E1)) fun y hu2 z h2 μ2 E2 S2 p2 => ?_
      refine PU.bindN (cmp_rp K S2 (p1.ex E2 same_x) p2) fun r hu3 r' h3 μ3 E3 S3 p3 => ?_
      cases p3 <;> first | trivial | skip
      rename_i k
      cases k with
      | false => exact PU.res S3 rfl
      | true =>
        refine PU.bind (ic S3 (L.ex ((E1.trans E2).trans E3))) fun z hu4 w h4 μ4 E4 S4 p4 => ?_
        refine PU.bindN (cmp_rp K S4 (p2.ex (E3.trans E4) same_x) p4) fun r hu5 r' h5 μ5 E5 S5 p5 => ?_
        cases p5 <;> first | trivial | exact PU.res S5 rfl
  | .ife c a b => by
    have ia := E_ok K a
    have ib := E_ok K b
    have ic := (E_ok K c).2.2
    refine SnT.a (fun ⦃μ χ hu h s s'⦄ S L => ?_) rfl (fun ⦃μ χ hu h s s'⦄ S L => ?_)
    · simp only [evE, Mi.evE]
      refine PU.bind (ic S L) fun x hu1 w h1 μ1 E1 S1 p1 => ?_
      cases p1
      cases x with
      | true => exact ia.2.1 S1 (L.ex E1)
      | false => exact ib.2.1 S1 (L.ex E1)
    · simp only [evT, Mi.evT]
      refine PU.bind (ic S L) fun x hu1 w h1 μ1 E1 S1 p1 => ?_
      cases p1
      cases x with
      | true => exact ia.2.2 S1 (L.ex E1)
      | false => exact ib.2.2 S1 (L.ex E1)
  | .fld o f => by
    have ia := (E_ok K o).2.1
    refine SnE.a (fun ⦃μ χ hu h s s'⦄ S L => ?_) rfl (fun s h => by simp only [evT]) fun s h => by simp only [Mi.evT]
    simp only [evE, Mi.evE]
    exact PU.bind (ia S L) fun x hu1 w h1 μ1 E1 S1 p1 => (fld_rp K S1 p1).nx
  | .ix o i => by
    have ia := (E_ok K o).2.1
    have ib := (E_ok K i).2.1
    refine SnE.a (fun ⦃μ χ hu h s s'⦄ S L => ?_) rfl (fun s h => by simp only [evT]) fun s h => by simp only [Mi.evT]
    simp only [evE, Mi.evE]
    refine PU.bind (ia S L) fun x hu1 w h1 μ1 E1 S1 p1 => PU.bind (ib S1 (L.ex E1)) fun y hu2 z h2 μ2 E2 S2 p2 => ?_
    exact PU.of S2 fun u e => ix_rp S2 (p1.ex E2 same_x) p2 e
  | .rev o => by
    have ia := (E_ok K o).2.1
    refine SnF.a (fun ⦃μ χ hu h s s'⦄ S L => ?_) (fun s h => by simp only [evT]) fun s h => by simp only [Mi.evT]
    simp only [evE, Mi.evE]
    exact PF.bind (ia S L) fun x hu1 w h1 μ1 E1 S1 p1 => (rev_rp S1 p1).nx
  | .slc o lo hi => by
    have ia := (E_ok K o).2.1
    have il := O_ok K lo
    have ih := O_ok K hi
    refine SnF.a (fun ⦃μ χ hu h s s'⦄ S L => ?_) (fun s h => by simp only [evT]) fun s h => by simp only [Mi.evT]
    simp only [evE, Mi.evE]
    refine PF.bind (ia S L) fun x hu1 w h1 μ1 E1 S1 p1 => PF.bind (il S1 (L.ex E1)) fun y hu2 z h2 μ2 E2 S2 p2 => PF.bind (ih S2 (L.ex (E1.trans E2))) fun y hu3 z h3 μ3 E3 S3 p3 => ?_
    cases p2; cases p3
    exact (slc_rp S3 (p1.ex (E2.trans E3) same_x)).nx
  | .lst es => by
    have ia := Es_ok K es
    refine SnF.a (fun ⦃μ χ hu h s s'⦄ S L => ?_) (fun s h => by simp only [evT]) fun s h => by simp only [Mi.evT]
    simp only [evE, Mi.evE]
    exact PF.bind (ia S L) fun x hu1 w h1 μ1 E1 S1 p1 => (PF.newL S1 p1).nx
  | .tup es => by
    have ia := Es_ok K es
    refine SnE.a (fun ⦃μ χ hu h s s'⦄ S L => ?_) rfl (fun s h => by simp only [evT]) fun s h => by simp only [Mi.evT]
    simp only [evE, Mi.evE]
    refine PU.bind (ia S L) fun x hu1 w h1 μ1 E1 S1 p1 => PU.nx ?_
    unfold newT Mi.newT
    rw [p1.length]
    split
    · exact PU.res S1 (.tup p1)
    · trivial
  | .dic0 => by
    refine SnE.a (fun ⦃μ χ hu h s s'⦄ S L => ?_) rfl (fun s h => by simp only [evT]) fun s h => by simp only [Mi.evT]
    simp only [evE, Mi.evE]
    exact PF.newD S .nil
  | .dic _ _ => by
    refine SnE.a (fun ⦃μ χ hu h s s'⦄ S L => ?_) rfl (fun s h => by simp only [evT]) fun s h => by simp only [Mi.evT]
    simp only [evE, Mi.evE]
    trivial
  | .call k es pm => by
    have ia := Es_ok K es
    refine SnE.a (fun ⦃μ χ hu h s s'⦄ S L => ?_) rfl (fun s h => by simp only [evT]) fun s h => by simp only [Mi.evT]
    simp only [evE, Mi.evE]
    refine PU.bind (ia S L) fun x hu1 w h1 μ1 E1 S1 p1 => ?_
    cases e : permU pm x with
    | none => trivial
    | some vs =>
      obtain ⟨zs, e1, t⟩ := perm_rp p1 e
      rw [e1]
      exact K.call _ _ _ _ _ _ _ S1 t
  | .make c es pm => by
    have ia := Es_ok K es
    refine SnE.a (fun ⦃μ χ hu h s s'⦄ S L => ?_) rfl (fun s h => by simp only [evT]) fun s h => by simp only [Mi.evT]
    simp only [evE, Mi.evE]
    refine PU.bind (ia S L) fun x hu1 w h1 μ1 E1 S1 p1 => ?_
    cases e : permU pm x with
    | none => trivial
    | some vs =>
      obtain ⟨zs, e1, t⟩ := perm_rp p1 e
      rw [e1]
      exact make_rp K S1 t
  | .meth o m es pm => by
    have io := (E_ok K o).2.1
    have ia := Es_ok K es
    refine SnE.a (fun ⦃μ χ hu h s s'⦄ S L => ?_) rfl (fun s h => by simp only [evT]) fun s h => by simp only [Mi.evT]
    simp only [evE, Mi.evE]
    refine PU.bind (io S L) fun x hu1 w h1 μ1 E1 S1 p1 => ?_
    cases em : methOf C x m hu1 with
    | none => trivial
    | some k =>
      rw [meth_rp K S1 p1 em]
      refine PU.bind (ia S1 (L.ex E1)) fun xs hu2 ws h2 μ2 E2 S2 p2 => ?_
      cases e : permU pm xs with
      | none => trivial
      | some vs =>
        obtain ⟨zs, e1, t⟩ := perm_rp p2 e
        rw [e1]
        exact K.call _ _ _ _ _ _ _ S2 (.cons (p1.ex E2 same_x) t)
  | .callv i es => by
    have ia := Es_ok K es
    refine SnE.a (fun ⦃μ χ hu h s s'⦄ S L => ?_) rfl (fun s h => by simp only [evT]) fun s h => by simp only [Mi.evT]
    simp only [evE, Mi.evE]
    cases e : getS s i with
    | none => trivial
    | some u =>
      obtain ⟨w, ew, pw⟩ := L.get e
      rw [ew]
      cases pw <;> first | trivial | skip
      exact PU.bind (ia S L) fun xs hu2 ws h2 μ2 E2 S2 p2 => K.call _ _ _ _ _ _ _ S2 p2
  | .bc b es => by
    have ia := Es_ok K es
    refine SnF.a (fun ⦃μ χ hu h s s'⦄ S L => ?_) (fun s h => by simp only [evT]) fun s h => by simp only [Mi.evT]
    simp only [evE, Mi.evE]
    exact PF.bind (ia S L) fun x hu1 w h1 μ1 E1 S1 p1 => (bc_rp S1 p1).nx
  | .bm b o es => by
    have io := (E_ok K o).2.1
    have ia := Es_ok K es
    refine SnE.a (fun ⦃μ χ hu h s s'⦄ S L => ?_) rfl (fun s h => by simp only [evT]) fun s h => by simp only [Mi.evT]
    simp only [evE, Mi.evE]
    refine PU.bind (io S L) fun x hu1 w h1 μ1 E1 S1 p1 => ?_
    cases ek : kindU hu1 x with
    | none => trivial
    | some k =>
      rw [kind_rp S1 p1 ek]
      dsimp only
      split
      · refine PU.bind (ia S1 (L.ex E1)) fun xs hu2 ws h2 μ2 E2 S2 p2 => ?_
        split
        · rename_i e2
          have p1' := p1.ex E2 same_x
          rw [if_pos (kind_rp S2 p1' e2)]
          exact (bm_rp S2 p1' p2).nx
        · trivial
      · trivial
  | .isi a t ts => by
    have ia := (E_ok K a).2.1
    refine SnE.a (fun ⦃μ χ hu h s s'⦄ S L => ?_) rfl (fun s h => by simp only [evT]) fun s h => by simp only [Mi.evT]
    simp only [evE, Mi.evE]
    refine PU.bind (ia S L) fun x hu1 w h1 μ1 E1 S1 p1 => ?_
    rw [isi_rp S1 p1]
    exact bl_of S1 id fun b e => e
  | .rngL tp es => by
    have ia := Es_ok K es
    refine SnF.a (fun ⦃μ χ hu h s s'⦄ S L => ?_) (fun s h => by simp only [evT]) fun s h => by simp only [Mi.evT]
    simp only [evE, Mi.evE]
    exact PF.bind (ia S L) fun x hu1 w h1 μ1 E1 S1 p1 => (rng_rp S1 p1).nx
  | .sset a => by
    have ia := (E_ok K a).2.1
    refine SnF.a (fun ⦃μ χ hu h s s'⦄ S L => ?_) (fun s h => by simp only [evT]) fun s h => by simp only [Mi.evT]
    simp only [evE, Mi.evE]
    exact PF.bind (ia S L) fun x hu1 w h1 μ1 E1 S1 p1 => (sset_rp S1 p1).nx
  | .comp elt tg it cond own => by
    have ii := I_ok K it
    have ig := G_ok K tg
    have ic := C_ok K cond
    have ie := (E_ok K elt).2.1
    refine SnF.a (fun ⦃μ χ hu h s s'⦄ S L => ?_) (fun s h => by simp only [evT]) fun s h => by simp only [Mi.evT]
    simp only [evE, Mi.evE]
    refine PF.bind (ii S L) fun j hu1 j' h1 μ1 E1 S1 p1 => ?_
    rcases fuel_rp S1 p1 with z | z
    · rw [z]; trivial
    · rw [z]
      have EP : Ex μ1 h1 μ1 (h1.push (.lst [])) := Ex.push
      have mx : ∀ n ∈ h1.n :: χ, n ∈ χ ∨ h1.n ≤ n := more_x (Nat.le_refl _)
      have := comp_rp (χ := χ) (D := h1.n) (asg := evG C tg) (asg' := Mi.evG C' tg) (tst := evC C cond) (tst' := Mi.evC C' cond) (elt := evE C elt) (elt' := Mi.evE C' elt) (j := j) (j' := j') (fun S L q => ig S L q) (fun S L => ic S L) (fun S L => ie S L) (μ0 := μ1) (h0 := h1) (Nat.le_refl _) (j.fuel hu1) 0
        (μ := μ1) (h := h1.push (.lst [])) (hu := hu1) (s := wipeS s own) (s' := Mi.wipeS s' own) (acc := []) (wcc := []) EP S1.push ((((L.ex E1).kp (EP.kp mx))).wipe own) (p1.kp (EP.kp mx)) (by rw [Hh.get_push, if_pos rfl]) .nil
      generalize compL (evG C tg) (evC C cond) (evE C elt) j (wipeS s own) (j.fuel hu1) 0 [] hu1 = x at this ⊢
      generalize Mi.compL (Mi.evG C' tg) (Mi.evC C' cond) (Mi.evE C' elt) j' h1.n (Mi.wipeS s' own) (j.fuel hu1) 0 (h1.push (.lst [])) = y at this ⊢
      cases x with
      | ex c fs hu2 => trivial
      | no => trivial
      | ok us hu2 =>
        obtain ⟨h2, μ2, ws, rfl, E2, S2, g, t⟩ := this
        refine ⟨.ref h1.n, h2, μ2, rfl, E2, .inl ⟨us, h1.n, ws, rfl, rfl, g, S2.lx _ (by simp), Nat.le_refl _, fun c => S2.disj _ c (by simp), fun c => ?_, S2, t⟩⟩
        have := S1.lx _ c; omega
theorem Es_ok (K : CalOk C C') : ∀ e : Es, SnEs C C' e
  | .nil => fun ⦃μ χ hu h s s'⦄ S L => by
    simp only [evEs, Mi.evEs]
    exact PU.res S .nil
  | .cons e es => fun ⦃μ χ hu h s s'⦄ S L => by
    simp only [evEs, Mi.evEs]
    refine PU.bind ((E_ok K e).2.1 S L) fun x hu1 w h1 μ1 E1 S1 p1 => PU.bind (Es_ok K es S1 (L.ex E1)) fun xs hu2 ws h2 μ2 E2 S2 p2 => ?_
    exact PU.res S2 (.cons (p1.ex E2 same_x) p2)
theorem O_ok (K : CalOk C C') : ∀ e : Eo, SnO C C' e
  | .none => fun ⦃μ χ hu h s s'⦄ S L => by
    simp only [evO, Mi.evO]
    exact PU.res S rfl
  | .some e => fun ⦃μ χ hu h s s'⦄ S L => by
    simp only [evO, Mi.evO]
    refine PU.bind ((E_ok K e).2.1 S L) fun x hu1 w h1 μ1 E1 S1 p1 => ?_
    cases p1 <;> first | trivial | exact PU.res S1 rfl
theorem C_ok (K : CalOk C C') : ∀ e : Eo, SnC C C' e
  | .none => fun ⦃μ χ hu h s s'⦄ S L => by
    simp only [evC, Mi.evC]
    exact PU.res S rfl
  | .some e => fun ⦃μ χ hu h s s'⦄ S L => by
    simp only [evC, Mi.evC]
    exact (E_ok K e).2.2 S L
theorem I_ok (K : CalOk C C') : ∀ e : It, SnI C C' e
  | .seq e => fun ⦃μ χ hu h s s'⦄ S L => by
    simp only [evI, Mi.evI]
    refine PU.bind ((E_ok K e).2.1 S L) fun x hu1 w h1 μ1 E1 S1 p1 => ?_
    cases z : seqU hu1 x with
    | none => trivial
    | some us =>
      obtain ⟨ws, e1, t⟩ := seq_rp S1 p1 z
      rw [e1]
      exact PU.res S1 (show JU _ _ _ _ _ from p1)
  | .rng1 a => fun ⦃μ χ hu h s s'⦄ S L => by
    simp only [evI, Mi.evI]
    refine PU.bind ((E_ok K a).2.1 S L) fun x hu1 w h1 μ1 E1 S1 p1 => ?_
    cases p1 <;> first | trivial | skip
    exact rngJ_rp S1
  | .rng2 a b => fun ⦃μ χ hu h s s'⦄ S L => by
    simp only [evI, Mi.evI]
    refine PU.bind ((E_ok K a).2.1 S L) fun x hu1 w h1 μ1 E1 S1 p1 => PU.bind ((E_ok K b).2.1 S1 (L.ex E1)) fun y hu2 z h2 μ2 E2 S2 p2 => ?_
    cases p1 <;> first | trivial | skip
    cases p2 <;> first | trivial | skip
    exact rngJ_rp S2
  | .enm e => fun ⦃μ χ hu h s s'⦄ S L => by
    simp only [evI, Mi.evI]
    refine PU.bind ((E_ok K e).2.1 S L) fun x hu1 w h1 μ1 E1 S1 p1 => ?_
    cases z : lsfU hu1 x with
    | none => trivial
    | some us =>
      obtain ⟨n, ws, rfl, e1, e2, t⟩ := lsf_rp S1 p1 z
      dsimp only
      rw [e1]
      exact PU.res S1 (show JU _ _ _ _ _ from p1)
  | .zip a b => fun ⦃μ χ hu h s s'⦄ S L => by
    simp only [evI, Mi.evI]
    refine PU.bind ((E_ok K a).2.1 S L) fun x hu1 w h1 μ1 E1 S1 p1 => PU.bind ((E_ok K b).2.1 S1 (L.ex E1)) fun y hu2 z h2 μ2 E2 S2 p2 => ?_
    have p1 := p1.ex E2 same_x
    cases z1 : lsfU hu2 x with
    | none => trivial
    | some us =>
      cases z2 : lsfU hu2 y with
      | none => trivial
      | some vs =>
        obtain ⟨n, ws, rfl, e1, _, t⟩ := lsf_rp S2 p1 z1
        obtain ⟨m, zs, rfl, e2, _, t2⟩ := lsf_rp S2 p2 z2
        dsimp only
        rw [e1, e2]
        exact PU.res S2 (show JU _ _ _ _ _ from ⟨p1, p2⟩)
theorem G_ok (K : CalOk C C') : ∀ e : Tg, SnG C C' e
  | .name i => fun ⦃μ χ hu h s s' u w⦄ S L q => by
    simp only [evG, Mi.evG]
    exact PU.res S (L.set q)
  | .tup ts => fun ⦃μ χ hu h s s' u w⦄ S L q => by
    cases q <;> simp only [evG, Mi.evG] <;> first | trivial | skip
    rename_i us ws t
    rw [t.length]
    split
    · exact Gs_ok K ts S L t
    · trivial
  | .fld o f => fun ⦃μ χ hu h s s' u w⦄ S L q => by
    simp only [evG, Mi.evG]
    refine PU.bind ((E_ok K o).2.1 S L) fun x hu1 w h1 μ1 E1 S1 p1 => ?_
    cases z : setFld C x f u hu1 with
    | none => trivial
    | some hu2 =>
      obtain ⟨h2, e2, E2, S2⟩ := setFld_rp K S1 p1 (q.ex E1 same_x) z
      rw [e2]
      exact ⟨_, _, _, rfl, E2, S2, L.ex (E1.trans E2)⟩
  | .sub o i => fun ⦃μ χ hu h s s' u w⦄ S L q => by
    simp only [evG, Mi.evG]
    refine PU.bind ((E_ok K o).2.1 S L) fun x hu1 w h1 μ1 E1 S1 p1 => PU.bind ((E_ok K i).2.1 S1 (L.ex E1)) fun y hu2 z h2 μ2 E2 S2 p2 => ?_
    cases z : setIx x y u hu2 with
    | none => trivial
    | some hu3 =>
      obtain ⟨h3, e3, E3, S3⟩ := setIx_rp S2 (p1.ex E2 same_x) p2 (q.ex (E1.trans E2) same_x) z
      dsimp only
      rw [e3]
      exact ⟨_, _, _, rfl, E3, S3, L.ex ((E1.trans E2).trans E3)⟩
  | .slc o lo hi => fun ⦃μ χ hu h s s' u w⦄ S L q => by
    cases lo <;> cases hi <;> simp only [evG, Mi.evG] <;> first | trivial | skip
    refine PU.bind ((E_ok K o).2.1 S L) fun x hu1 w h1 μ1 E1 S1 p1 => ?_
    cases z : setAll x u hu1 with
    | none => trivial
    | some hu2 =>
      obtain ⟨h2, e2, E2, S2⟩ := setAll_rp S1 p1 (q.ex E1 same_x) z
      rw [e2]
      exact ⟨_, _, _, rfl, E2, S2, L.ex (E1.trans E2)⟩
theorem Gs_ok (K : CalOk C C') : ∀ e : Tgs, SnGs C C' e
  | .nil => fun ⦃μ χ hu h s s' u w⦄ S L q => by
    cases q with
    | nil => simp only [evGs, Mi.evGs]; exact PU.res S L
    | cons a t => simp only [evGs, Mi.evGs]; trivial
  | .cons t ts => fun ⦃μ χ hu h s s' u w⦄ S L q => by
    cases q with
    | nil => simp only [evGs, Mi.evGs]; trivial
    | cons a t' =>
      simp only [evGs, Mi.evGs]
      exact PU.bind (G_ok K t S L a) fun s1 hu1 s1' h1 μ1 E1 S1 L1 => Gs_ok K ts S1 L1 (t'.ex E1 same_x)
end
end
end Mu

set_option Elab.async false
set_option linter.all false
set_option maxRecDepth 100000
set_option maxHeartbeats 4000000
/-! The second interpreter is sound: statements, defs, the law. -/
namespace Mu
open PySem
open Mi (E Es Eo It Tg Tgs Ss Key Bop Cop Bc Bm Bt Ty Pr FunI ClsI W Hh O tgsL keysI intsW boolsW insI sortI dedI minI maxI)
section
variable (C : Cal) (C' : Mi.Cal)
def SnS (e : Mi.S) : Prop := ∀ ⦃μ χ : List Nat⦄ ⦃hu : Hu⦄ ⦃h : Hh⦄ ⦃s : Sl⦄ ⦃s' : Mi.Sl⦄, SU μ χ hu h → SlU μ χ h s s' → PS μ χ h (evS C e s hu) (Mi.evS C' e s' h)
def SnSs (e : Ss) : Prop := ∀ ⦃μ χ : List Nat⦄ ⦃hu : Hu⦄ ⦃h : Hh⦄ ⦃s : Sl⦄ ⦃s' : Mi.Sl⦄, SU μ χ hu h → SlU μ χ h s s' → PS μ χ h (evSs C e s hu) (Mi.evSs C' e s' h)
end
section
variable {C : Cal} {C' : Mi.Cal}
theorem par_rp {μ χ : List Nat} {h : Hh} : ∀ {is : List Nat} {us : List U} {ws : List W} {s : Sl} {s' : Mi.Sl} {t : Sl}, SlU μ χ h s s' → Rps μ χ h us ws → setPar is us s = some t → ∃ t', Mi.setPar is ws s' = some t' ∧ SlU μ χ h t t'
  | [], _, _, _, s', _, L, .nil, e => by cases e; exact ⟨s', rfl, L⟩
  | [], _, _, _, _, _, L, .cons _ _, e => by cases e
  | i :: is, _, _, _, _, _, L, .nil, e => by cases e
  | i :: is, _, _, _, _, _, L, .cons a t, e => par_rp (is := is) (L.set a) t e
mutual
theorem S_ok (K : CalOk C C') : ∀ e : Mi.S, SnS C C' e
  | .expr e => fun ⦃μ χ hu h s s'⦄ S L => by
    simp only [evS, Mi.evS]
    exact PU.toS ((E_ok K e).2.1 S L) L fun x hu1 w h1 μ1 E1 S1 p1 => ⟨s', h1, μ1, rfl, Ex.refl, S1, L.ex E1⟩
  | .asg t e => fun ⦃μ χ hu h s s'⦄ S L => by
    simp only [evS, Mi.evS]
    refine PU.toS ((E_ok K e).2.1 S L) L fun x hu1 w h1 μ1 E1 S1 p1 => PU.toS (G_ok K t S1 (L.ex E1) p1) (L.ex E1) fun s2 hu2 s2' h2 μ2 E2 S2 p2 => ?_
    exact ⟨s2', h2, μ2, rfl, Ex.refl, S2, p2⟩
  | .par is es => fun ⦃μ χ hu h s s'⦄ S L => by
    simp only [evS, Mi.evS]
    refine PU.toS (Es_ok K es S L) L fun x hu1 w h1 μ1 E1 S1 p1 => ?_
    cases z : setPar is x s with
    | none => trivial
    | some t =>
      obtain ⟨t', e, L'⟩ := par_rp (L.ex E1) p1 z
      rw [e]
      exact ⟨t', h1, μ1, rfl, Ex.refl, S1, L'⟩
  | .ret e => fun ⦃μ χ hu h s s'⦄ S L => by
    simp only [evS, Mi.evS]
    exact PU.toS ((E_ok K e).2.1 S L) L fun x hu1 w h1 μ1 E1 S1 p1 => ⟨w, h1, μ1, rfl, Ex.refl, S1, p1⟩
  | .retN => fun ⦃μ χ hu h s s'⦄ S L => by
    simp only [evS, Mi.evS]
    exact ⟨.non, h, μ, rfl, Ex.refl, S, .non⟩
  | .pass => fun ⦃μ χ hu h s s'⦄ S L => by
    simp only [evS, Mi.evS]
    exact ⟨s', h, μ, rfl, Ex.refl, S, L⟩
  | .brk => fun ⦃μ χ hu h s s'⦄ S L => by
    simp only [evS, Mi.evS]
    exact ⟨s', h, μ, rfl, Ex.refl, S, L⟩
  | .cont => fun ⦃μ χ hu h s s'⦄ S L => by
    simp only [evS, Mi.evS]
    exact ⟨s', h, μ, rfl, Ex.refl, S, L⟩
  | .never => fun ⦃μ χ hu h s s'⦄ S L => by
    simp only [evS, Mi.evS]
    trivial
  | .ifS c a b => fun ⦃μ χ hu h s s'⦄ S L => by
    simp only [evS, Mi.evS]
    refine PU.toS ((E_ok K c).2.2 S L) L fun x hu1 w h1 μ1 E1 S1 p1 => ?_
    cases p1
    cases x with
    | true => exact Ss_ok K a S1 (L.ex E1)
    | false => exact Ss_ok K b S1 (L.ex E1)
  | .whl c b => fun ⦃μ χ hu h s s'⦄ S L => by
    simp only [evS, Mi.evS]
    rw [← K.wf]
    exact whl_rp (fun {μ h hu s s'} S L => (E_ok K c).2.2 S L) (fun {μ h hu s s'} S L => Ss_ok K b S L) _ S L
  | .forS t it b => fun ⦃μ χ hu h s s'⦄ S L => by
    simp only [evS, Mi.evS]
    refine PU.toS (I_ok K it S L) L fun j hu1 j' h1 μ1 E1 S1 p1 => ?_
    rcases fuel_rp S1 p1 with z | z
    · rw [z]; trivial
    · rw [z]
      exact for_rp (fun {μ h hu s s' u w} S L q => G_ok K t S L q) (fun {μ h hu s s'} S L => Ss_ok K b S L) _ _ S1 (L.ex E1) p1
theorem Ss_ok (K : CalOk C C') : ∀ e : Ss, SnSs C C' e
  | .nil => fun ⦃μ χ hu h s s'⦄ S L => by
    simp only [evSs, Mi.evSs]
    exact ⟨s', h, μ, rfl, Ex.refl, S, L⟩
  | .cons a r => fun ⦃μ χ hu h s s'⦄ S L => by
    simp only [evSs, Mi.evSs]
    have ha := S_ok K a S L
    generalize evS C a s hu = x at ha ⊢
    generalize Mi.evS C' a s' h = y at ha ⊢
    cases x with
    | nx s2 hu2 =>
      obtain ⟨s2', h2, μ2, rfl, E2, S2, L2⟩ := ha
      exact PS.later E2 (Ss_ok K r S2 L2)
    | ct s2 hu2 =>
      obtain ⟨s2', h2, μ2, rfl, q⟩ := ha
      exact ⟨s2', h2, μ2, rfl, q⟩
    | bk s2 hu2 =>
      obtain ⟨s2', h2, μ2, rfl, q⟩ := ha
      exact ⟨s2', h2, μ2, rfl, q⟩
    | rt u hu2 =>
      obtain ⟨s2', h2, μ2, rfl, q⟩ := ha
      exact ⟨s2', h2, μ2, rfl, q⟩
    | ex c fs s2 hu2 =>
      obtain ⟨fs', s2', h2, μ2, rfl, q⟩ := ha
      exact ⟨fs', s2', h2, μ2, rfl, q⟩
    | no => trivial
end
end
theorem start_rp {μ χ : List Nat} {h : Hh} {us : List U} {ws : List W} {ns : Nat} (q : Rps μ χ h us ws) : SlU μ χ h (startS ns us) (Mi.startS ns ws) := by
  have hl := q.length
  refine ⟨by simp [startS, Mi.startS, hl], fun i u e => ?_⟩
  unfold startS at e
  unfold Mi.startS
  by_cases c : i < us.length
  · rw [List.getElem?_append_left (by simpa using c)] at e
    rw [List.getElem?_append_left (by simpa [← hl] using c)]
    rw [List.getElem?_map] at e ⊢
    cases z : us[i]? with
    | none => rw [z] at e; cases e
    | some u' =>
      rw [z] at e
      simp at e
      subst e
      obtain ⟨v, ev, rv⟩ := q.get z
      exact ⟨v, by rw [ev]; rfl, rv⟩
  · rw [List.getElem?_append_right (by simpa using c)] at e
    have := List.mem_of_getElem? e
    rw [List.mem_replicate] at this
    cases this.2
theorem calN_ok (P : Pr) (wf : Nat) : ∀ d, CalOk (calN P wf d) (Mi.calN P wf d)
  | 0 => ⟨rfl, rfl, fun k us ws μ χ hu h S q => trivial⟩
  | d + 1 => ⟨rfl, rfl, fun k us ws μ χ hu h S q => by
    show PU μ χ h (rV χ) (callN P wf (d + 1) k us hu) (Mi.callN P wf (d + 1) k ws h)
    simp only [callN, Mi.callN]
    cases e : P.fs[k]? with
    | none => trivial
    | some f =>
      dsimp only
      rw [q.length]
      split
      · have := Ss_ok (calN_ok P wf d) f.body S (start_rp (ns := f.ns) q)
        simp only [calN, Mi.calN] at this
        generalize evSs ⟨callN P wf d, P.cs, wf⟩ f.body (startS f.ns us) hu = x at this ⊢
        generalize Mi.evSs ⟨Mi.callN P wf d, P.cs, wf⟩ f.body (Mi.startS f.ns ws) h = y at this ⊢
        cases x with
        | nx s2 hu2 =>
          obtain ⟨s2', h2, μ2, rfl, E2, S2, L2⟩ := this
          exact ⟨_, h2, μ2, rfl, E2, S2, .non⟩
        | ct s2 hu2 => trivial
        | bk s2 hu2 => trivial
        | rt u hu2 =>
          obtain ⟨s2', h2, μ2, rfl, q⟩ := this
          exact ⟨s2', h2, μ2, rfl, q⟩
        | ex c fs s2 hu2 =>
          obtain ⟨fs', s2', h2, μ2, rfl, E2, S2, q, _⟩ := this
          exact ⟨fs', h2, μ2, rfl, E2, S2, q⟩
        | no => trivial
      · trivial⟩
theorem law_down {P : Pr} {wf d k : Nat} {ns : List Int} (e : ∃ h', callN P wf d k [.frz (ns.map .int)] [] = .ok (.bl true) h') : ∃ h', Mi.callN P wf d k [.ref 0] (Mi.h0 ns) = .ok (.bl true) h' := by
  obtain ⟨h', e⟩ := e
  have S : SU [] [] [] (Mi.h0 ns) := ⟨rfl, .nil, by simp, by simp, by simp, by simp⟩
  have q : Rps [] [] (Mi.h0 ns) [.frz (ns.map .int)] [.ref 0] := .cons (.frz (ws := ns.map .int) rfl (by show 0 < 1; decide) (by simp) (by simp) (Rps.ofInts ns)) .nil
  have := (calN_ok P wf d).call k _ _ _ _ _ _ S q
  have e' : (calN P wf d).call k [.frz (ns.map .int)] [] = .ok (.bl true) h' := e
  rw [e'] at this
  obtain ⟨w, h2, μ2, e2, _, _, r⟩ := this
  cases r
  exact ⟨h2, e2⟩
end Mu

set_option Elab.async false
set_option linter.all false
set_option maxRecDepth 100000
set_option maxHeartbeats 4000000
/-! Reasoning about the second interpreter: the rules. -/
namespace Mu
open PySem
open Mi (E Es Eo It Tg Tgs Ss Key Bop Cop Bc Bm Bt Ty Pr FunI ClsI W tgsL keysI intsW boolsW insI sortI dedI minI maxI)

structure Dn where
  nx : Sl → Hu → Prop
  rt : U → Hu → Prop
  bk : Sl → Hu → Prop := fun _ _ => False
  ct : Sl → Hu → Prop := fun _ _ => False
namespace X
def Ok {α : Type} (x : R α) (Q : α → Hu → Prop) : Prop := match x with
  | .ok a h => Q a h
  | _ => False
def OkS (x : RS) (D : Dn) : Prop := match x with
  | .nx s h => D.nx s h
  | .rt w h => D.rt w h
  | .bk s h => D.bk s h
  | .ct s h => D.ct s h
  | _ => False
section
variable {α β : Type}
theorem Ok_ok {a : α} {h : Hu} {Q : α → Hu → Prop} : Ok (.ok a h) Q ↔ Q a h := Iff.rfl
theorem Ok_no {Q : α → Hu → Prop} : Ok (.no : R α) Q ↔ False := Iff.rfl
theorem Ok_bind {x : R α} {f : α → Hu → R β} {Q : β → Hu → Prop} : Ok (x.bind f) Q ↔ Ok x fun a h => Ok (f a h) Q := by cases x <;> exact Iff.rfl
theorem Ok_bindN {x : R α} {f : α → Hu → R β} {Q : β → Hu → Prop} : Ok (x.bindN f) Q ↔ Ok x fun a h => Ok (f a h) Q := by cases x <;> exact Iff.rfl
theorem Ok_nx {x : R α} {Q : α → Hu → Prop} : Ok x.nx Q ↔ Ok x Q := by cases x <;> exact Iff.rfl
theorem Ok_of {h : Hu} {o : Option α} {Q : α → Hu → Prop} : Ok (R.of h o) Q ↔ ∃ a, o = some a ∧ Q a h := by
  cases o with
  | none => exact ⟨False.elim, fun ⟨_, e, _⟩ => by cases e⟩
  | some a => exact ⟨fun q => ⟨a, rfl, q⟩, fun ⟨_, e, q⟩ => by cases e; exact q⟩
theorem Ok_ofS {h : Hu} {a : α} {Q : α → Hu → Prop} : Ok (R.of h (some a)) Q ↔ Q a h := Iff.rfl
theorem Ok_ite {c : Prop} [Decidable c] {x y : R α} {Q : α → Hu → Prop} : Ok (if c then x else y) Q ↔ if c then Ok x Q else Ok y Q := by split <;> rfl
theorem Ok.mono {x : R α} {Q Q' : α → Hu → Prop} (h : Ok x Q) (w : ∀ a h, Q a h → Q' a h) : Ok x Q' := by
  cases x with
  | ok a h' => exact w _ _ h
  | ex c fs h' => exact h
  | no => exact h
theorem Ok.out {x : R α} {Q : α → Hu → Prop} (h : Ok x Q) : ∃ a h', x = .ok a h' ∧ Q a h' := by
  cases x with
  | ok a h' => exact ⟨a, h', rfl, h⟩
  | ex c fs h' => exact h.elim
  | no => exact h.elim
theorem Ok_eq {x : R α} {r : α} {h' : Hu} (h : Ok x fun a g => a = r ∧ g = h') : x = .ok r h' := by
  obtain ⟨a, g, e, rfl, rfl⟩ := h.out
  exact e
theorem Ok_by {x : R α} {r : α} {h' : Hu} {Q : α → Hu → Prop} (e : x = .ok r h') : Ok x Q ↔ Q r h' := by subst e; exact Iff.rfl
theorem OkS_toS {x : R α} {s : Sl} {f : α → Hu → RS} {D : Dn} : OkS (x.toS s f) D ↔ Ok x fun a h => OkS (f a h) D := by cases x <;> exact Iff.rfl
theorem OkS_nx {s : Sl} {h : Hu} {D : Dn} : OkS (.nx s h) D ↔ D.nx s h := Iff.rfl
theorem OkS_rt {s : U} {h : Hu} {D : Dn} : OkS (.rt s h) D ↔ D.rt s h := Iff.rfl
theorem OkS_bk {s : Sl} {h : Hu} {D : Dn} : OkS (.bk s h) D ↔ D.bk s h := Iff.rfl
theorem OkS_ct {s : Sl} {h : Hu} {D : Dn} : OkS (.ct s h) D ↔ D.ct s h := Iff.rfl
theorem OkS_ite {c : Prop} [Decidable c] {x y : RS} {D : Dn} : OkS (if c then x else y) D ↔ if c then OkS x D else OkS y D := by split <;> rfl
theorem OkS.mono {x : RS} {D D' : Dn} (h : OkS x D) (h1 : ∀ s h, D.nx s h → D'.nx s h) (h2 : ∀ s h, D.rt s h → D'.rt s h) (h3 : ∀ s h, D.bk s h → D'.bk s h) (h4 : ∀ s h, D.ct s h → D'.ct s h) : OkS x D' := by
  cases x with
  | nx s h' => exact h1 _ _ h
  | rt s h' => exact h2 _ _ h
  | bk s h' => exact h3 _ _ h
  | ct s h' => exact h4 _ _ h
  | ex c fs s h' => exact h
  | no => exact h
theorem OkS_cons {C : Cal} {a : Mi.S} {r : Ss} {s : Sl} {h : Hu} {D : Dn} : OkS (evSs C (.cons a r) s h) D ↔ OkS (evS C a s h) { D with nx := fun s1 h1 => OkS (evSs C r s1 h1) D } := by
  simp only [evSs]
  cases evS C a s h <;> rfl
theorem OkS_nil {C : Cal} {s : Sl} {h : Hu} {D : Dn} : OkS (evSs C .nil s h) D ↔ D.nx s h := by simp only [evSs]; rfl
theorem OkS_if {C : Cal} {c : E} {a b : Ss} {s : Sl} {h : Hu} {D : Dn} : OkS (evS C (.ifS c a b) s h) D ↔ Ok (evT C c s h) fun k h1 => if k = true then OkS (evSs C a s h1) D else OkS (evSs C b s h1) D := by
  simp only [evS, OkS_toS]
  constructor <;> refine fun q => q.mono fun k h1 q => ?_ <;> cases k <;> simpa using q
end
/-- a def's run -/
theorem Ok_call {P : Pr} {wf d k : Nat} {ws : List U} {h : Hu} {Q : U → Hu → Prop} (f : FunI) (st : Sl) (ef : P.fs[k]? = some f) (hl : ws.length = f.np) (es : startS f.ns ws = st) :
    Ok (callN P wf (d + 1) k ws h) Q ↔ OkS (evSs (calN P wf d) f.body st h) { nx := fun _ h' => Q .non h', rt := Q } := by
  subst es
  simp only [callN, ef, if_pos hl, calN]
  cases evSs ⟨callN P wf d, P.cs, wf⟩ f.body (startS f.ns ws) h <;> exact Iff.rfl
theorem calN_call {P : Pr} {wf d : Nat} : (calN P wf d).call = callN P wf d := rfl
theorem calN_cs {P : Pr} {wf d : Nat} : (calN P wf d).cs = P.cs := rfl
/-! ### tests -/
section
variable {C : Cal} {s : Sl} {h : Hu} {a b c e : E} {Q : Bool → Hu → Prop}
theorem okT {e : E} (he : evT C e s h = (evE C e s h).bind fun x h1 => .of h1 (tru h1 x)) : Ok (evT C e s h) Q ↔ Ok (evE C e s h) fun x h1 => Ok (.of h1 (tru h1 x)) Q := by rw [he, Ok_bind]
theorem T_cst {w : W} : Ok (evT C (.cst w) s h) Q ↔ Ok (evE C (.cst w) s h) fun x h1 => Ok (.of h1 (tru h1 x)) Q := okT (by simp only [evT])
theorem T_glo {w : W} : Ok (evT C (.glo w) s h) Q ↔ Ok (evE C (.glo w) s h) fun x h1 => Ok (.of h1 (tru h1 x)) Q := okT (by simp only [evT])
theorem T_var {i : Nat} : Ok (evT C (.var i) s h) Q ↔ Ok (evE C (.var i) s h) fun x h1 => Ok (.of h1 (tru h1 x)) Q := okT (by simp only [evT])
theorem T_bin {op : Bop} : Ok (evT C (.bin op a b) s h) Q ↔ Ok (evE C (.bin op a b) s h) fun x h1 => Ok (.of h1 (tru h1 x)) Q := okT (by simp only [evT])
theorem T_neg : Ok (evT C (.neg a) s h) Q ↔ Ok (evE C (.neg a) s h) fun x h1 => Ok (.of h1 (tru h1 x)) Q := okT (by simp only [evT])
theorem T_fld {f : Nat} : Ok (evT C (.fld a f) s h) Q ↔ Ok (evE C (.fld a f) s h) fun x h1 => Ok (.of h1 (tru h1 x)) Q := okT (by simp only [evT])
theorem T_ix : Ok (evT C (.ix a b) s h) Q ↔ Ok (evE C (.ix a b) s h) fun x h1 => Ok (.of h1 (tru h1 x)) Q := okT (by simp only [evT])
theorem T_rev : Ok (evT C (.rev a) s h) Q ↔ Ok (evE C (.rev a) s h) fun x h1 => Ok (.of h1 (tru h1 x)) Q := okT (by simp only [evT])
theorem T_slc {l u : Eo} : Ok (evT C (.slc a l u) s h) Q ↔ Ok (evE C (.slc a l u) s h) fun x h1 => Ok (.of h1 (tru h1 x)) Q := okT (by simp only [evT])
theorem T_lst {es : Es} : Ok (evT C (.lst es) s h) Q ↔ Ok (evE C (.lst es) s h) fun x h1 => Ok (.of h1 (tru h1 x)) Q := okT (by simp only [evT])
theorem T_tup {es : Es} : Ok (evT C (.tup es) s h) Q ↔ Ok (evE C (.tup es) s h) fun x h1 => Ok (.of h1 (tru h1 x)) Q := okT (by simp only [evT])
theorem T_call {k : Nat} {es : Es} {pm : List Nat} : Ok (evT C (.call k es pm) s h) Q ↔ Ok (evE C (.call k es pm) s h) fun x h1 => Ok (.of h1 (tru h1 x)) Q := okT (by simp only [evT])
theorem T_make {k : Nat} {es : Es} {pm : List Nat} : Ok (evT C (.make k es pm) s h) Q ↔ Ok (evE C (.make k es pm) s h) fun x h1 => Ok (.of h1 (tru h1 x)) Q := okT (by simp only [evT])
theorem T_meth {k : Nat} {es : Es} {pm : List Nat} : Ok (evT C (.meth a k es pm) s h) Q ↔ Ok (evE C (.meth a k es pm) s h) fun x h1 => Ok (.of h1 (tru h1 x)) Q := okT (by simp only [evT])
theorem T_callv {k : Nat} {es : Es} : Ok (evT C (.callv k es) s h) Q ↔ Ok (evE C (.callv k es) s h) fun x h1 => Ok (.of h1 (tru h1 x)) Q := okT (by simp only [evT])
theorem T_bc {b : Bc} {es : Es} : Ok (evT C (.bc b es) s h) Q ↔ Ok (evE C (.bc b es) s h) fun x h1 => Ok (.of h1 (tru h1 x)) Q := okT (by simp only [evT])
theorem T_bm {b : Bm} {es : Es} : Ok (evT C (.bm b a es) s h) Q ↔ Ok (evE C (.bm b a es) s h) fun x h1 => Ok (.of h1 (tru h1 x)) Q := okT (by simp only [evT])
theorem T_isi {t : Bool} {ts : List Ty} : Ok (evT C (.isi a t ts) s h) Q ↔ Ok (evE C (.isi a t ts) s h) fun x h1 => Ok (.of h1 (tru h1 x)) Q := okT (by simp only [evT])
theorem T_comp {el : E} {tg : Tg} {it : It} {cd : Eo} {own : List Nat} : Ok (evT C (.comp el tg it cd own) s h) Q ↔ Ok (evE C (.comp el tg it cd own) s h) fun x h1 => Ok (.of h1 (tru h1 x)) Q := okT (by simp only [evT])
theorem T_not : Ok (evT C (.notE a) s h) Q ↔ Ok (evT C a s h) fun k h1 => Q (!k) h1 := by simp only [evT, Ok_bind, Ok_ok]
theorem T_and : Ok (evT C (.andE a b) s h) Q ↔ Ok (evT C a s h) fun k h1 => if k = true then Ok (evT C b s h1) Q else Q false h1 := by
  simp only [evT, Ok_bind]
  constructor <;> refine fun q => q.mono fun k h1 q => ?_ <;> cases k <;> simpa [Ok_ok] using q
theorem T_or : Ok (evT C (.orE a b) s h) Q ↔ Ok (evT C a s h) fun k h1 => if k = true then Q true h1 else Ok (evT C b s h1) Q := by
  simp only [evT, Ok_bind]
  constructor <;> refine fun q => q.mono fun k h1 q => ?_ <;> cases k <;> simpa [Ok_ok] using q
theorem T_ife : Ok (evT C (.ife c a b) s h) Q ↔ Ok (evT C c s h) fun k h1 => if k = true then Ok (evT C a s h1) Q else Ok (evT C b s h1) Q := by
  simp only [evT, Ok_bind]
  constructor <;> refine fun q => q.mono fun k h1 q => ?_ <;> cases k <;> simpa [Ok_ok] using q
def isB (Q : Bool → Hu → Prop) (u : U) (h : Hu) : Prop := match u with
  | .bl k => Q k h
  | _ => False
theorem isB_bl {k : Bool} : isB Q (.bl k) h ↔ Q k h := Iff.rfl
theorem T_cmp {op : Cop} : Ok (evT C (.cmp op a b) s h) Q ↔ Ok (evE C a s h) fun x h1 => Ok (evE C b s h1) fun y h2 => Ok (cmpU C op x y h2) (isB Q) := by
  simp only [evT, Ok_bind, Ok_bindN]
  constructor <;> refine fun q => q.mono fun x h1 q => q.mono fun y h2 q => q.mono fun r h3 q => ?_ <;> cases r <;> first | exact False.elim q | exact q
theorem T_cmp2 {op op2 : Cop} : Ok (evT C (.cmp2 op op2 a b c) s h) Q ↔ Ok (evE C a s h) fun x h1 => Ok (evE C b s h1) fun y h2 => Ok (cmpU C op x y h2) (isB fun k h3 => if k = true then Ok (evE C c s h3) fun z h4 => Ok (cmpU C op2 y z h4) (isB Q) else Q false h3) := by
  simp only [evT, Ok_bind, Ok_bindN]
  constructor <;> refine fun q => q.mono fun x h1 q => q.mono fun y h2 q => q.mono fun r h3 q => ?_ <;> cases r <;> first | exact False.elim q | skip
  · rename_i k
    cases k with
    | false => exact q
    | true =>
      simp only [Ok_bind, Ok_bindN] at q
      exact q.mono fun z h4 q => q.mono fun r h5 q => by cases r <;> first | exact False.elim q | exact q
  · rename_i k
    cases k with
    | false => exact q
    | true =>
      simp only [Ok_bind, Ok_bindN]
      exact q.mono fun z h4 q => q.mono fun r h5 q => by cases r <;> first | exact False.elim q | exact q
variable {Q : U → Hu → Prop}
theorem E_and : Ok (evE C (.andE a b) s h) Q ↔ Ok (evE C a s h) fun x h1 => Ok (.of h1 (tru h1 x)) fun k _ => if k = true then Ok (evE C b s h1) Q else Q x h1 := by
  simp only [evE, Ok_bind]
  constructor <;> refine fun q => q.mono fun x h1 q => ?_
  · cases e : tru h1 x with
    | none => rw [e] at q; exact q
    | some k => rw [e] at q; cases k <;> simpa [Ok_ofS, Ok_ok] using q
  · cases e : tru h1 x with
    | none => rw [e] at q; exact q
    | some k => rw [e, Ok_ofS] at q; cases k <;> simpa [Ok_ok] using q
theorem E_or : Ok (evE C (.orE a b) s h) Q ↔ Ok (evE C a s h) fun x h1 => Ok (.of h1 (tru h1 x)) fun k _ => if k = true then Q x h1 else Ok (evE C b s h1) Q := by
  simp only [evE, Ok_bind]
  constructor <;> refine fun q => q.mono fun x h1 q => ?_
  · cases e : tru h1 x with
    | none => rw [e] at q; exact q
    | some k => rw [e] at q; cases k <;> simpa [Ok_ofS, Ok_ok] using q
  · cases e : tru h1 x with
    | none => rw [e] at q; exact q
    | some k => rw [e, Ok_ofS] at q; cases k <;> simpa [Ok_ok] using q
theorem E_ife : Ok (evE C (.ife c a b) s h) Q ↔ Ok (evT C c s h) fun k h1 => if k = true then Ok (evE C a s h1) Q else Ok (evE C b s h1) Q := by
  simp only [evE, Ok_bind]
  constructor <;> refine fun q => q.mono fun k h1 q => ?_ <;> cases k <;> simpa [Ok_ok] using q
theorem E_cmp2 {op op2 : Cop} : Ok (evE C (.cmp2 op op2 a b c) s h) Q ↔ Ok (evE C a s h) fun x h1 => Ok (evE C b s h1) fun y h2 => Ok (cmpU C op x y h2) (isB fun k h3 => if k = true then Ok (evE C c s h3) fun z h4 => Ok (cmpU C op2 y z h4) Q else Q (.bl false) h3) := by
  simp only [evE, Ok_bind, Ok_bindN]
  constructor <;> refine fun q => q.mono fun x h1 q => q.mono fun y h2 q => q.mono fun r h3 q => ?_ <;> cases r <;> first | exact False.elim q | skip
  · rename_i k
    cases k with
    | false => exact q
    | true =>
      simp only [Ok_bind, Ok_nx] at q
      exact q
  · rename_i k
    cases k with
    | false => exact q
    | true =>
      simp only [Ok_bind, Ok_nx]
      exact q
end
section
variable {C : Cal} {s : Sl} {h : Hu} {D : Dn} {e : E} {t : Tg} {b : Ss}
theorem S_expr : OkS (evS C (.expr e) s h) D ↔ Ok (evE C e s h) fun _ h1 => D.nx s h1 := by simp only [evS, OkS_toS, OkS_nx]
theorem S_asg : OkS (evS C (.asg t e) s h) D ↔ Ok (evE C e s h) fun x h1 => Ok (evG C t x s h1) D.nx := by simp only [evS, OkS_toS, OkS_nx]
theorem S_ret : OkS (evS C (.ret e) s h) D ↔ Ok (evE C e s h) D.rt := by simp only [evS, OkS_toS, OkS_rt]
theorem S_retN : OkS (evS C .retN s h) D ↔ D.rt .non h := by simp only [evS, OkS_rt]
theorem S_pass : OkS (evS C .pass s h) D ↔ D.nx s h := by simp only [evS, OkS_nx]
theorem S_brk : OkS (evS C .brk s h) D ↔ D.bk s h := by simp only [evS, OkS_bk]
theorem S_cont : OkS (evS C .cont s h) D ↔ D.ct s h := by simp only [evS, OkS_ct]
theorem S_for {it : It} : OkS (evS C (.forS t it b) s h) D ↔ Ok (evI C it s h) fun j h1 => OkS (forL (evG C t) (evSs C b) j (j.fuel h1) 0 s h1) D := by simp only [evS, OkS_toS]
theorem S_whl {c : E} : OkS (evS C (.whl c b) s h) D ↔ OkS (whlL (evT C c) (evSs C b) C.wf s h) D := by simp only [evS]
theorem S_par {is : List Nat} {es : Es} : OkS (evS C (.par is es) s h) D ↔ Ok (evEs C es s h) fun ws h1 => ∃ s1, setPar is ws s = some s1 ∧ D.nx s1 h1 := by
  simp only [evS, OkS_toS]
  constructor <;> refine fun q => q.mono fun ws h1 q => ?_
  · cases z : setPar is ws s with
    | none => rw [z] at q; exact False.elim q
    | some s1 => rw [z] at q; exact ⟨s1, rfl, q⟩
  · obtain ⟨s1, z, q⟩ := q
    rw [z]; exact q
theorem par2 {i j : Nat} {x y : U} {P : Sl → Prop} : (∃ s1, setPar [i, j] [x, y] s = some s1 ∧ P s1) ↔ P ((s.set i (some x)).set j (some y)) :=
  ⟨fun ⟨_, e, p⟩ => by cases e; exact p, fun p => ⟨_, rfl, p⟩⟩
theorem par3 {i j k : Nat} {x y z : U} {P : Sl → Prop} : (∃ s1, setPar [i, j, k] [x, y, z] s = some s1 ∧ P s1) ↔ P (((s.set i (some x)).set j (some y)).set k (some z)) :=
  ⟨fun ⟨_, e, p⟩ => by cases e; exact p, fun p => ⟨_, rfl, p⟩⟩
variable {Q : U → Hu → Prop}
theorem E_var {i : Nat} : Ok (evE C (.var i) s h) Q ↔ Ok (.of h (getS s i)) Q := by simp only [evE]
theorem E_mut : Ok (evE C (.mut e) s h) Q ↔ Ok (evE C e s h) fun u h1 => Ok (thaw (isFr e) u h1) Q := by simp only [evE, Ok_bind]
theorem E_bin {op : Bop} {a b : E} : Ok (evE C (.bin op a b) s h) Q ↔ Ok (evE C a s h) fun x h1 => Ok (evE C b s h1) fun y h2 => Ok (binU op x y h2) Q := by simp only [evE, Ok_bind, Ok_nx]
theorem E_neg {a : E} : Ok (evE C (.neg a) s h) Q ↔ Ok (evE C a s h) fun x h1 => Ok (match x with | .int i => .ok (.int (-i)) h1 | _ => .no) Q := by
  simp only [evE, Ok_bind]
  try exact Iff.rfl
theorem E_not {a : E} : Ok (evE C (.notE a) s h) Q ↔ Ok (evE C a s h) fun x h1 => Ok (.of h1 ((tru h1 x).map fun k => .bl (!k))) Q := by simp only [evE, Ok_bind]
theorem E_cmp {op : Cop} {a b : E} : Ok (evE C (.cmp op a b) s h) Q ↔ Ok (evE C a s h) fun x h1 => Ok (evE C b s h1) fun y h2 => Ok (cmpU C op x y h2) Q := by simp only [evE, Ok_bind, Ok_nx]
theorem E_fld {a : E} {f : Nat} : Ok (evE C (.fld a f) s h) Q ↔ Ok (evE C a s h) fun x h1 => Ok (fldU C x f h1) Q := by simp only [evE, Ok_bind, Ok_nx]
theorem E_ix {a b : E} : Ok (evE C (.ix a b) s h) Q ↔ Ok (evE C a s h) fun x h1 => Ok (evE C b s h1) fun y h2 => Ok (.of h2 (ixU x y h2)) Q := by simp only [evE, Ok_bind]
theorem E_rev {a : E} : Ok (evE C (.rev a) s h) Q ↔ Ok (evE C a s h) fun x h1 => Ok (revU x h1) Q := by simp only [evE, Ok_bind, Ok_nx]
theorem E_slc {a : E} {lo hi : Eo} : Ok (evE C (.slc a lo hi) s h) Q ↔ Ok (evE C a s h) fun x h1 => Ok (evO C lo s h1) fun y h2 => Ok (evO C hi s h2) fun z h3 => Ok (slcU x y z h3) Q := by simp only [evE, Ok_bind, Ok_nx]
theorem E_lst {es : Es} : Ok (evE C (.lst es) s h) Q ↔ Ok (evEs C es s h) fun ws h1 => Ok (newL h1 ws) Q := by simp only [evE, Ok_bind, Ok_nx]
theorem E_tup {es : Es} : Ok (evE C (.tup es) s h) Q ↔ Ok (evEs C es s h) fun ws h1 => Ok (newT h1 ws) Q := by simp only [evE, Ok_bind, Ok_nx]
theorem E_dic0 : Ok (evE C .dic0 s h) Q ↔ Q (.ref h.length) (h ++ [.dic []]) := by simp only [evE, Ok_ok]
theorem E_call {k : Nat} {es : Es} : Ok (evE C (.call k es []) s h) Q ↔ Ok (evEs C es s h) fun ws h1 => Ok (C.call k ws h1) Q := by simp only [evE, Ok_bind, permU]
theorem E_make {k : Nat} {es : Es} : Ok (evE C (.make k es []) s h) Q ↔ Ok (evEs C es s h) fun ws h1 => Ok (makeU C k ws h1) Q := by simp only [evE, Ok_bind, permU]
theorem E_meth {k : Nat} {a : E} {es : Es} : Ok (evE C (.meth a k es []) s h) Q ↔ Ok (evE C a s h) fun x h1 => Ok (.of h1 (methOf C x k h1)) fun m _ => Ok (evEs C es s h1) fun ws h2 => Ok (C.call m (x :: ws) h2) Q := by
  simp only [evE, Ok_bind, permU]
  constructor <;> refine fun q => q.mono fun x h1 q => ?_
  · cases z : methOf C x k h1 with
    | none => rw [z] at q; exact False.elim q
    | some m => rw [z] at q; simp only [Ok_bind] at q; exact q
  · cases z : methOf C x k h1 with
    | none => rw [z] at q; exact False.elim q
    | some m => rw [z] at q; simp only [Ok_bind]; exact q
theorem E_callv {i : Nat} {es : Es} {k : Nat} (e : getS s i = some (.fn k)) : Ok (evE C (.callv i es) s h) Q ↔ Ok (evEs C es s h) fun ws h1 => Ok (C.call k ws h1) Q := by simp only [evE, e, Ok_bind]
theorem E_bc {b : Bc} {es : Es} : Ok (evE C (.bc b es) s h) Q ↔ Ok (evEs C es s h) fun ws h1 => Ok (bcU b ws h1) Q := by simp only [evE, Ok_bind, Ok_nx]
def bmX (C : Cal) (b : Bm) (es : Es) (s : Sl) (h : Hu) (x : U) (k : Option Bool) : R U := match k with
    | some k => if (k || decide (b = .pop1)) = true then (evEs C es s h).bind fun ws h2 => if kindU h2 x = some k then (bmU b x ws h2).nx else .no else .no
    | none => .no
theorem E_bm {b : Bm} {a : E} {es : Es} : Ok (evE C (.bm b a es) s h) Q ↔ Ok (evE C a s h) fun x h1 => Ok (bmX C b es s h1 x (kindU h1 x)) Q := by
  simp only [evE, Ok_bind, bmX]
  try exact Iff.rfl
theorem bmX_l {b : Bm} {es : Es} {x : U} : Ok (bmX C b es s h x (some true)) Q ↔ Ok (evEs C es s h) fun ws h2 => if kindU h2 x = some true then Ok (bmU b x ws h2) Q else False := by
  simp only [bmX, Bool.true_or, if_true, Ok_bind, Ok_ite, Ok_nx, Ok_no]
theorem bmX_d {es : Es} {x : U} : Ok (bmX C .pop1 es s h x (some false)) Q ↔ Ok (evEs C es s h) fun ws h2 => if kindU h2 x = some false then Ok (bmU .pop1 x ws h2) Q else False := by
  simp only [bmX, decide_true, Bool.or_true, if_true, Ok_bind, Ok_ite, Ok_nx, Ok_no]
theorem kindU_ref {n : Nat} : kindU h (.ref n) = match h[n]? with | some (.lst _) => some true | some (.dic _) => some false | _ => none := rfl
theorem E_isi {a : E} {t : Bool} {ts : List Ty} : Ok (evE C (.isi a t ts) s h) Q ↔ Ok (evE C a s h) fun x h1 => Ok (.of h1 ((isiU h1 x ts).map .bl)) Q := by simp only [evE, Ok_bind]
theorem E_rngL {t : Bool} {es : Es} : Ok (evE C (.rngL t es) s h) Q ↔ Ok (evEs C es s h) fun ws h1 => Ok (rngU t ws h1) Q := by simp only [evE, Ok_bind, Ok_nx]
theorem E_sset {a : E} : Ok (evE C (.sset a) s h) Q ↔ Ok (evE C a s h) fun x h1 => Ok (ssetU x h1) Q := by simp only [evE, Ok_bind, Ok_nx]
theorem E_comp {el : E} {tg : Tg} {it : It} {cd : Eo} {own : List Nat} : Ok (evE C (.comp el tg it cd own) s h) Q ↔ Ok (evI C it s h) fun j h1 => Ok (compL (evG C tg) (evC C cd) (evE C el) j (wipeS s own) (j.fuel h1) 0 [] h1) fun us h2 => Q (.lst us) h2 := by simp only [evE, Ok_bind, Ok_bindN, Ok_ok]
theorem E_cst {w : W} : Ok (evE C (.cst w) s h) Q ↔ Ok (.of h (ofW w)) Q := by simp only [evE]
theorem E_glo {w : W} : Ok (evE C (.glo w) s h) Q ↔ Ok (.of h (ofW w)) Q := by simp only [evE]
theorem cst_int {i : Int} : ofW (.int i) = some (.int i) := rfl
theorem bt_beq {a b : Bt} : (a == b) = decide (a = b) := by cases a <;> cases b <;> rfl
theorem cst_non : ofW .non = some .non := rfl
theorem cst_bl {k : Bool} : ofW (.bl k) = some (.bl k) := rfl
theorem cst_str {x : Str} : ofW (.str x) = some (.str x) := rfl
end
end X
end Mu

set_option Elab.async false
set_option linter.all false
set_option maxRecDepth 100000
set_option maxHeartbeats 4000000
/-! Reasoning about the second interpreter. -/
namespace Mu
open PySem
open Mi (E Es Eo It Tg Tgs Ss Key Bop Cop Bc Bm Bt Ty Pr FunI ClsI W tgsL keysI intsW boolsW insI sortI dedI minI maxI)

/-- what comes later is not looked at: simp leaves what an instance's type names -/
class Dm {α : Type} (Q : α → Hu → Prop) : Type where
  b : Bool
instance {α : Type} (Q : α → Hu → Prop) : Dm Q := ⟨true⟩
def Ok {α : Type} (x : R α) (Q : α → Hu → Prop) [Dm Q] : Prop := match x with
  | .ok a h => Q a h
  | _ => False
class Dd (D : Dn) : Type where
  b : Bool
instance (D : Dn) : Dd D := ⟨true⟩
def OkS (x : RS) (D : Dn) [Dd D] : Prop := match x with
  | .nx s h => D.nx s h
  | .rt w h => D.rt w h
  | .bk s h => D.bk s h
  | .ct s h => D.ct s h
  | _ => False
section
variable {α β : Type}
theorem Ok_ok {a : α} {h : Hu} {Q : α → Hu → Prop} : Ok (.ok a h) Q ↔ Q a h := Iff.rfl
theorem Ok_no {Q : α → Hu → Prop} : Ok (.no : R α) Q ↔ False := Iff.rfl
theorem Ok_bind {x : R α} {f : α → Hu → R β} {Q : β → Hu → Prop} : Ok (x.bind f) Q ↔ Ok x fun a h => Ok (f a h) Q := by cases x <;> exact Iff.rfl
theorem Ok_bindN {x : R α} {f : α → Hu → R β} {Q : β → Hu → Prop} : Ok (x.bindN f) Q ↔ Ok x fun a h => Ok (f a h) Q := by cases x <;> exact Iff.rfl
theorem Ok_nx {x : R α} {Q : α → Hu → Prop} : Ok x.nx Q ↔ Ok x Q := by cases x <;> exact Iff.rfl
theorem Ok_of {h : Hu} {o : Option α} {Q : α → Hu → Prop} : Ok (R.of h o) Q ↔ ∃ a, o = some a ∧ Q a h := by
  cases o with
  | none => exact ⟨False.elim, fun ⟨_, e, _⟩ => by cases e⟩
  | some a => exact ⟨fun q => ⟨a, rfl, q⟩, fun ⟨_, e, q⟩ => by cases e; exact q⟩
theorem Ok_ofS {h : Hu} {a : α} {Q : α → Hu → Prop} : Ok (R.of h (some a)) Q ↔ Q a h := Iff.rfl
theorem Ok_ite {c : Prop} [Decidable c] {x y : R α} {Q : α → Hu → Prop} : Ok (if c then x else y) Q ↔ if c then Ok x Q else Ok y Q := by split <;> rfl
theorem Ok.mono {x : R α} {Q Q' : α → Hu → Prop} (h : Ok x Q) (w : ∀ a h, Q a h → Q' a h) : Ok x Q' := by
  cases x with
  | ok a h' => exact w _ _ h
  | ex c fs h' => exact h
  | no => exact h
theorem Ok.out {x : R α} {Q : α → Hu → Prop} (h : Ok x Q) : ∃ a h', x = .ok a h' ∧ Q a h' := by
  cases x with
  | ok a h' => exact ⟨a, h', rfl, h⟩
  | ex c fs h' => exact h.elim
  | no => exact h.elim
theorem Ok_eq {x : R α} {r : α} {h' : Hu} (h : Ok x fun a g => a = r ∧ g = h') : x = .ok r h' := by
  obtain ⟨a, g, e, rfl, rfl⟩ := h.out
  exact e
theorem Ok_by {x : R α} {r : α} {h' : Hu} {Q : α → Hu → Prop} (e : x = .ok r h') : Ok x Q ↔ Q r h' := by subst e; exact Iff.rfl
theorem OkS_toS {x : R α} {s : Sl} {f : α → Hu → RS} {D : Dn} : OkS (x.toS s f) D ↔ Ok x fun a h => OkS (f a h) D := by cases x <;> exact Iff.rfl
theorem OkS_nx {s : Sl} {h : Hu} {D : Dn} : OkS (.nx s h) D ↔ D.nx s h := Iff.rfl
theorem OkS_rt {s : U} {h : Hu} {D : Dn} : OkS (.rt s h) D ↔ D.rt s h := Iff.rfl
theorem OkS_bk {s : Sl} {h : Hu} {D : Dn} : OkS (.bk s h) D ↔ D.bk s h := Iff.rfl
theorem OkS_ct {s : Sl} {h : Hu} {D : Dn} : OkS (.ct s h) D ↔ D.ct s h := Iff.rfl
theorem OkS_ite {c : Prop} [Decidable c] {x y : RS} {D : Dn} : OkS (if c then x else y) D ↔ if c then OkS x D else OkS y D := by split <;> rfl
theorem OkS.mono {x : RS} {D D' : Dn} (h : OkS x D) (h1 : ∀ s h, D.nx s h → D'.nx s h) (h2 : ∀ s h, D.rt s h → D'.rt s h) (h3 : ∀ s h, D.bk s h → D'.bk s h) (h4 : ∀ s h, D.ct s h → D'.ct s h) : OkS x D' := by
  cases x with
  | nx s h' => exact h1 _ _ h
  | rt s h' => exact h2 _ _ h
  | bk s h' => exact h3 _ _ h
  | ct s h' => exact h4 _ _ h
  | ex c fs s h' => exact h
  | no => exact h
theorem OkS_cons {C : Cal} {a : Mi.S} {r : Ss} {s : Sl} {h : Hu} {D : Dn} : OkS (evSs C (.cons a r) s h) D ↔ OkS (evS C a s h) { D with nx := fun s1 h1 => OkS (evSs C r s1 h1) D } := by
  simp only [evSs]
  cases evS C a s h <;> rfl
theorem OkS_nil {C : Cal} {s : Sl} {h : Hu} {D : Dn} : OkS (evSs C .nil s h) D ↔ D.nx s h := by simp only [evSs]; rfl
theorem OkS_if {C : Cal} {c : E} {a b : Ss} {s : Sl} {h : Hu} {D : Dn} : OkS (evS C (.ifS c a b) s h) D ↔ Ok (evT C c s h) fun k h1 => if k = true then OkS (evSs C a s h1) D else OkS (evSs C b s h1) D := X.OkS_if
end
/-- a def's run -/
theorem Ok_call {P : Pr} {wf d k : Nat} {ws : List U} {h : Hu} {Q : U → Hu → Prop} (f : FunI) (st : Sl) (ef : P.fs[k]? = some f) (hl : ws.length = f.np) (es : startS f.ns ws = st) :
    Ok (callN P wf (d + 1) k ws h) Q ↔ OkS (evSs (calN P wf d) f.body st h) { nx := fun _ h' => Q .non h', rt := Q } := by
  subst es
  simp only [callN, ef, if_pos hl, calN]
  cases evSs ⟨callN P wf d, P.cs, wf⟩ f.body (startS f.ns ws) h <;> exact Iff.rfl
theorem calN_call {P : Pr} {wf d : Nat} : (calN P wf d).call = callN P wf d := rfl
theorem calN_cs {P : Pr} {wf d : Nat} : (calN P wf d).cs = P.cs := rfl
/-! ### tests -/
section
variable {C : Cal} {s : Sl} {h : Hu} {a b c e : E} {Q : Bool → Hu → Prop}
theorem T_cst {w : W} : Ok (evT C (.cst w) s h) Q ↔ Ok (evE C (.cst w) s h) fun x h1 => Ok (.of h1 (tru h1 x)) Q := X.T_cst
theorem T_glo {w : W} : Ok (evT C (.glo w) s h) Q ↔ Ok (evE C (.glo w) s h) fun x h1 => Ok (.of h1 (tru h1 x)) Q := X.T_glo
theorem T_var {i : Nat} : Ok (evT C (.var i) s h) Q ↔ Ok (evE C (.var i) s h) fun x h1 => Ok (.of h1 (tru h1 x)) Q := X.T_var
theorem T_bin {op : Bop} : Ok (evT C (.bin op a b) s h) Q ↔ Ok (evE C (.bin op a b) s h) fun x h1 => Ok (.of h1 (tru h1 x)) Q := X.T_bin
theorem T_neg : Ok (evT C (.neg a) s h) Q ↔ Ok (evE C (.neg a) s h) fun x h1 => Ok (.of h1 (tru h1 x)) Q := X.T_neg
theorem T_fld {f : Nat} : Ok (evT C (.fld a f) s h) Q ↔ Ok (evE C (.fld a f) s h) fun x h1 => Ok (.of h1 (tru h1 x)) Q := X.T_fld
theorem T_ix : Ok (evT C (.ix a b) s h) Q ↔ Ok (evE C (.ix a b) s h) fun x h1 => Ok (.of h1 (tru h1 x)) Q := X.T_ix
theorem T_rev : Ok (evT C (.rev a) s h) Q ↔ Ok (evE C (.rev a) s h) fun x h1 => Ok (.of h1 (tru h1 x)) Q := X.T_rev
theorem T_slc {l u : Eo} : Ok (evT C (.slc a l u) s h) Q ↔ Ok (evE C (.slc a l u) s h) fun x h1 => Ok (.of h1 (tru h1 x)) Q := X.T_slc
theorem T_lst {es : Es} : Ok (evT C (.lst es) s h) Q ↔ Ok (evE C (.lst es) s h) fun x h1 => Ok (.of h1 (tru h1 x)) Q := X.T_lst
theorem T_tup {es : Es} : Ok (evT C (.tup es) s h) Q ↔ Ok (evE C (.tup es) s h) fun x h1 => Ok (.of h1 (tru h1 x)) Q := X.T_tup
theorem T_call {k : Nat} {es : Es} {pm : List Nat} : Ok (evT C (.call k es pm) s h) Q ↔ Ok (evE C (.call k es pm) s h) fun x h1 => Ok (.of h1 (tru h1 x)) Q := X.T_call
theorem T_make {k : Nat} {es : Es} {pm : List Nat} : Ok (evT C (.make k es pm) s h) Q ↔ Ok (evE C (.make k es pm) s h) fun x h1 => Ok (.of h1 (tru h1 x)) Q := X.T_make
theorem T_meth {k : Nat} {es : Es} {pm : List Nat} : Ok (evT C (.meth a k es pm) s h) Q ↔ Ok (evE C (.meth a k es pm) s h) fun x h1 => Ok (.of h1 (tru h1 x)) Q := X.T_meth
theorem T_callv {k : Nat} {es : Es} : Ok (evT C (.callv k es) s h) Q ↔ Ok (evE C (.callv k es) s h) fun x h1 => Ok (.of h1 (tru h1 x)) Q := X.T_callv
theorem T_bc {b : Bc} {es : Es} : Ok (evT C (.bc b es) s h) Q ↔ Ok (evE C (.bc b es) s h) fun x h1 => Ok (.of h1 (tru h1 x)) Q := X.T_bc
theorem T_bm {b : Bm} {es : Es} : Ok (evT C (.bm b a es) s h) Q ↔ Ok (evE C (.bm b a es) s h) fun x h1 => Ok (.of h1 (tru h1 x)) Q := X.T_bm
theorem T_isi {t : Bool} {ts : List Ty} : Ok (evT C (.isi a t ts) s h) Q ↔ Ok (evE C (.isi a t ts) s h) fun x h1 => Ok (.of h1 (tru h1 x)) Q := X.T_isi
theorem T_comp {el : E} {tg : Tg} {it : It} {cd : Eo} {own : List Nat} : Ok (evT C (.comp el tg it cd own) s h) Q ↔ Ok (evE C (.comp el tg it cd own) s h) fun x h1 => Ok (.of h1 (tru h1 x)) Q := X.T_comp
theorem T_not : Ok (evT C (.notE a) s h) Q ↔ Ok (evT C a s h) fun k h1 => Q (!k) h1 := X.T_not
theorem T_and : Ok (evT C (.andE a b) s h) Q ↔ Ok (evT C a s h) fun k h1 => if k = true then Ok (evT C b s h1) Q else Q false h1 := X.T_and
theorem T_or : Ok (evT C (.orE a b) s h) Q ↔ Ok (evT C a s h) fun k h1 => if k = true then Q true h1 else Ok (evT C b s h1) Q := X.T_or
theorem T_ife : Ok (evT C (.ife c a b) s h) Q ↔ Ok (evT C c s h) fun k h1 => if k = true then Ok (evT C a s h1) Q else Ok (evT C b s h1) Q := X.T_ife
def isB (Q : Bool → Hu → Prop) [Dm Q] (u : U) (h : Hu) : Prop := match u with
  | .bl k => Q k h
  | _ => False
theorem isB_bl {k : Bool} : isB Q (.bl k) h ↔ Q k h := X.isB_bl
theorem T_cmp {op : Cop} : Ok (evT C (.cmp op a b) s h) Q ↔ Ok (evE C a s h) fun x h1 => Ok (evE C b s h1) fun y h2 => Ok (cmpU C op x y h2) (isB Q) := X.T_cmp
theorem T_cmp2 {op op2 : Cop} : Ok (evT C (.cmp2 op op2 a b c) s h) Q ↔ Ok (evE C a s h) fun x h1 => Ok (evE C b s h1) fun y h2 => Ok (cmpU C op x y h2) (isB fun k h3 => if k = true then Ok (evE C c s h3) fun z h4 => Ok (cmpU C op2 y z h4) (isB Q) else Q false h3) := X.T_cmp2
variable {Q : U → Hu → Prop}
theorem E_and : Ok (evE C (.andE a b) s h) Q ↔ Ok (evE C a s h) fun x h1 => Ok (.of h1 (tru h1 x)) fun k _ => if k = true then Ok (evE C b s h1) Q else Q x h1 := X.E_and
theorem E_or : Ok (evE C (.orE a b) s h) Q ↔ Ok (evE C a s h) fun x h1 => Ok (.of h1 (tru h1 x)) fun k _ => if k = true then Q x h1 else Ok (evE C b s h1) Q := X.E_or
theorem E_ife : Ok (evE C (.ife c a b) s h) Q ↔ Ok (evT C c s h) fun k h1 => if k = true then Ok (evE C a s h1) Q else Ok (evE C b s h1) Q := X.E_ife
theorem E_cmp2 {op op2 : Cop} : Ok (evE C (.cmp2 op op2 a b c) s h) Q ↔ Ok (evE C a s h) fun x h1 => Ok (evE C b s h1) fun y h2 => Ok (cmpU C op x y h2) (isB fun k h3 => if k = true then Ok (evE C c s h3) fun z h4 => Ok (cmpU C op2 y z h4) Q else Q (.bl false) h3) := X.E_cmp2
end

/-! ### statements -/
section
variable {C : Cal} {s : Sl} {h : Hu} {D : Dn} {e : E} {t : Tg} {b : Ss}
theorem S_expr : OkS (evS C (.expr e) s h) D ↔ Ok (evE C e s h) fun _ h1 => D.nx s h1 := X.S_expr
theorem S_asg : OkS (evS C (.asg t e) s h) D ↔ Ok (evE C e s h) fun x h1 => Ok (evG C t x s h1) D.nx := X.S_asg
theorem S_ret : OkS (evS C (.ret e) s h) D ↔ Ok (evE C e s h) D.rt := X.S_ret
theorem S_retN : OkS (evS C .retN s h) D ↔ D.rt .non h := X.S_retN (C := C) (s := s)
theorem S_pass : OkS (evS C .pass s h) D ↔ D.nx s h := X.S_pass (C := C)
theorem S_brk : OkS (evS C .brk s h) D ↔ D.bk s h := X.S_brk (C := C)
theorem S_cont : OkS (evS C .cont s h) D ↔ D.ct s h := X.S_cont (C := C)
theorem S_for {it : It} : OkS (evS C (.forS t it b) s h) D ↔ Ok (evI C it s h) fun j h1 => OkS (forL (evG C t) (evSs C b) j (j.fuel h1) 0 s h1) D := X.S_for
theorem S_whl {c : E} : OkS (evS C (.whl c b) s h) D ↔ OkS (whlL (evT C c) (evSs C b) C.wf s h) D := X.S_whl
theorem S_par {is : List Nat} {es : Es} : OkS (evS C (.par is es) s h) D ↔ Ok (evEs C es s h) fun ws h1 => ∃ s1, setPar is ws s = some s1 ∧ D.nx s1 h1 := X.S_par
theorem par2 {i j : Nat} {x y : U} {P : Sl → Prop} : (∃ s1, setPar [i, j] [x, y] s = some s1 ∧ P s1) ↔ P ((s.set i (some x)).set j (some y)) :=
  ⟨fun ⟨_, e, p⟩ => by cases e; exact p, fun p => ⟨_, rfl, p⟩⟩
theorem par3 {i j k : Nat} {x y z : U} {P : Sl → Prop} : (∃ s1, setPar [i, j, k] [x, y, z] s = some s1 ∧ P s1) ↔ P (((s.set i (some x)).set j (some y)).set k (some z)) :=
  ⟨fun ⟨_, e, p⟩ => by cases e; exact p, fun p => ⟨_, rfl, p⟩⟩
variable {Q : U → Hu → Prop}
theorem E_var {i : Nat} : Ok (evE C (.var i) s h) Q ↔ Ok (.of h (getS s i)) Q := X.E_var
theorem E_mut : Ok (evE C (.mut e) s h) Q ↔ Ok (evE C e s h) fun u h1 => Ok (thaw (isFr e) u h1) Q := X.E_mut
theorem E_bin {op : Bop} {a b : E} : Ok (evE C (.bin op a b) s h) Q ↔ Ok (evE C a s h) fun x h1 => Ok (evE C b s h1) fun y h2 => Ok (binU op x y h2) Q := X.E_bin
theorem E_neg {a : E} : Ok (evE C (.neg a) s h) Q ↔ Ok (evE C a s h) fun x h1 => Ok (match x with | .int i => .ok (.int (-i)) h1 | _ => .no) Q := X.E_neg
theorem E_not {a : E} : Ok (evE C (.notE a) s h) Q ↔ Ok (evE C a s h) fun x h1 => Ok (.of h1 ((tru h1 x).map fun k => .bl (!k))) Q := X.E_not
theorem E_cmp {op : Cop} {a b : E} : Ok (evE C (.cmp op a b) s h) Q ↔ Ok (evE C a s h) fun x h1 => Ok (evE C b s h1) fun y h2 => Ok (cmpU C op x y h2) Q := X.E_cmp
theorem E_fld {a : E} {f : Nat} : Ok (evE C (.fld a f) s h) Q ↔ Ok (evE C a s h) fun x h1 => Ok (fldU C x f h1) Q := X.E_fld
theorem E_ix {a b : E} : Ok (evE C (.ix a b) s h) Q ↔ Ok (evE C a s h) fun x h1 => Ok (evE C b s h1) fun y h2 => Ok (.of h2 (ixU x y h2)) Q := X.E_ix
theorem E_rev {a : E} : Ok (evE C (.rev a) s h) Q ↔ Ok (evE C a s h) fun x h1 => Ok (revU x h1) Q := X.E_rev
theorem E_slc {a : E} {lo hi : Eo} : Ok (evE C (.slc a lo hi) s h) Q ↔ Ok (evE C a s h) fun x h1 => Ok (evO C lo s h1) fun y h2 => Ok (evO C hi s h2) fun z h3 => Ok (slcU x y z h3) Q := X.E_slc
theorem E_lst {es : Es} : Ok (evE C (.lst es) s h) Q ↔ Ok (evEs C es s h) fun ws h1 => Ok (newL h1 ws) Q := X.E_lst
theorem E_tup {es : Es} : Ok (evE C (.tup es) s h) Q ↔ Ok (evEs C es s h) fun ws h1 => Ok (newT h1 ws) Q := X.E_tup
theorem E_dic0 : Ok (evE C .dic0 s h) Q ↔ Q (.ref h.length) (h ++ [.dic []]) := X.E_dic0
theorem E_call {k : Nat} {es : Es} : Ok (evE C (.call k es []) s h) Q ↔ Ok (evEs C es s h) fun ws h1 => Ok (C.call k ws h1) Q := X.E_call
theorem E_make {k : Nat} {es : Es} : Ok (evE C (.make k es []) s h) Q ↔ Ok (evEs C es s h) fun ws h1 => Ok (makeU C k ws h1) Q := X.E_make
theorem E_meth {k : Nat} {a : E} {es : Es} : Ok (evE C (.meth a k es []) s h) Q ↔ Ok (evE C a s h) fun x h1 => Ok (.of h1 (methOf C x k h1)) fun m _ => Ok (evEs C es s h1) fun ws h2 => Ok (C.call m (x :: ws) h2) Q := X.E_meth
theorem E_callv {i : Nat} {es : Es} {k : Nat} (e : getS s i = some (.fn k)) : Ok (evE C (.callv i es) s h) Q ↔ Ok (evEs C es s h) fun ws h1 => Ok (C.call k ws h1) Q := X.E_callv e
theorem E_bc {b : Bc} {es : Es} : Ok (evE C (.bc b es) s h) Q ↔ Ok (evEs C es s h) fun ws h1 => Ok (bcU b ws h1) Q := X.E_bc
def bmX (C : Cal) (b : Bm) (es : Es) (s : Sl) (h : Hu) (x : U) (k : Option Bool) : R U := match k with
    | some k => if (k || decide (b = .pop1)) = true then (evEs C es s h).bind fun ws h2 => if kindU h2 x = some k then (bmU b x ws h2).nx else .no else .no
    | none => .no
theorem E_bm {b : Bm} {a : E} {es : Es} : Ok (evE C (.bm b a es) s h) Q ↔ Ok (evE C a s h) fun x h1 => Ok (bmX C b es s h1 x (kindU h1 x)) Q := X.E_bm
theorem bmX_l {b : Bm} {es : Es} {x : U} : Ok (bmX C b es s h x (some true)) Q ↔ Ok (evEs C es s h) fun ws h2 => if kindU h2 x = some true then Ok (bmU b x ws h2) Q else False := X.bmX_l
theorem bmX_d {es : Es} {x : U} : Ok (bmX C .pop1 es s h x (some false)) Q ↔ Ok (evEs C es s h) fun ws h2 => if kindU h2 x = some false then Ok (bmU .pop1 x ws h2) Q else False := X.bmX_d
theorem kindU_ref {n : Nat} : kindU h (.ref n) = match h[n]? with | some (.lst _) => some true | some (.dic _) => some false | _ => none := rfl
theorem E_isi {a : E} {t : Bool} {ts : List Ty} : Ok (evE C (.isi a t ts) s h) Q ↔ Ok (evE C a s h) fun x h1 => Ok (.of h1 ((isiU h1 x ts).map .bl)) Q := X.E_isi
theorem E_rngL {t : Bool} {es : Es} : Ok (evE C (.rngL t es) s h) Q ↔ Ok (evEs C es s h) fun ws h1 => Ok (rngU t ws h1) Q := X.E_rngL
theorem E_sset {a : E} : Ok (evE C (.sset a) s h) Q ↔ Ok (evE C a s h) fun x h1 => Ok (ssetU x h1) Q := X.E_sset
theorem E_comp {el : E} {tg : Tg} {it : It} {cd : Eo} {own : List Nat} : Ok (evE C (.comp el tg it cd own) s h) Q ↔ Ok (evI C it s h) fun j h1 => Ok (compL (evG C tg) (evC C cd) (evE C el) j (wipeS s own) (j.fuel h1) 0 [] h1) fun us h2 => Q (.lst us) h2 := X.E_comp
theorem E_cst {w : W} : Ok (evE C (.cst w) s h) Q ↔ Ok (.of h (ofW w)) Q := X.E_cst
theorem E_glo {w : W} : Ok (evE C (.glo w) s h) Q ↔ Ok (.of h (ofW w)) Q := X.E_glo
theorem cst_int {i : Int} : ofW (.int i) = some (.int i) := rfl
theorem bt_beq {a b : Bt} : (a == b) = decide (a = b) := by cases a <;> cases b <;> rfl
theorem cst_non : ofW .non = some .non := rfl
theorem cst_bl {k : Bool} : ofW (.bl k) = some (.bl k) := rfl
theorem cst_str {x : Str} : ofW (.str x) = some (.str x) := rfl
end

end Mu

set_option Elab.async false
set_option linter.all false
set_option maxRecDepth 100000
set_option maxHeartbeats 4000000
/-! Data. -/
namespace Mu
open PySem
open Mi (E Es Eo It Tg Tgs Ss Key Bop Cop Bc Bm Bt Ty Pr FunI ClsI W tgsL keysI intsW boolsW insI sortI dedI minI maxI)
mutual
def toD : U → PyData
  | .non => .none
  | .bl b => .bool b
  | .int i => .int i
  | .str x => .str x
  | .tup us => .tuple (toDs us)
  | .lst us => .list (toDs us)
  | .frz us => .list (toDs us)
  | _ => .none
def toDs : List U → List PyData
  | [] => []
  | u :: us => toD u :: toDs us
end
def isD : Nat → U → Bool
  | 0, _ => false
  | n + 1, u => match u with
    | .non => true
    | .bl _ => true
    | .int _ => true
    | .str x => PyData.canLay0 (.str x)
    | .tup us => us.all (isD n)
    | .lst us => us.all (isD n)
    | .frz us => us.all (isD n)
    | _ => false
def eqv (x y : U) : Bool := PyData.eqv (toD x) (toD y)
def eqvs (x y : List U) : Bool := PyData.eqvAll (toDs x) (toDs y)
theorem toDs_map (us : List U) : toDs us = us.map toD := by
  induction us with
  | nil => rfl
  | cons u us ih => simp [toDs, ih]
theorem mapM_all {α β : Type} {f : α → Option β} {g : α → β} : ∀ {l : List α}, (∀ x ∈ l, f x = some (g x)) → l.mapM f = some (l.map g)
  | [], _ => by simp
  | x :: l, e => by
    simp only [List.mapM_cons, e x (by simp), mapM_all (l := l) fun y m => e y (List.mem_cons_of_mem _ m)]
    rfl
section
variable {h : Hu}
theorem dat_isD : ∀ (n : Nat) {u : U}, isD n u = true → dat n h u = some (toD u)
  | 0, u, e => by cases e
  | n + 1, u, e => by
    have key : ∀ {us : List U}, us.all (isD n) = true → (us.mapM fun w => dat n h w) = some (toDs us) := by
      intro us q
      rw [toDs_map]
      exact mapM_all fun x m => dat_isD n (List.all_eq_true.mp q x m)
    cases u <;> simp only [isD] at e <;> first | cases e | skip
    · rfl
    · rfl
    · rfl
    · simp [dat, e, toD]
    · simp [dat, key e, toD]
    · simp [dat, key e, toD]
    · simp [dat, key e, toD]
theorem eqData_isD {x y : U} (a : isD 12 x = true) (b : isD 12 y = true) : eqData x y h = some (eqv x y) := by
  simp only [eqData, Mi.dataD, dat_isD 12 a, dat_isD 12 b, eqv]
def der (h : Hu) (u : U) : U := match u with
  | .ref n => match h[n]? with
    | some (.lst us) => .lst us
    | _ => u
  | _ => u
theorem dat_der (n : Nat) (u : U) : dat n h (der h u) = dat n h u := by
  cases n with
  | zero => rfl
  | succ n =>
    cases u with
    | ref k =>
      simp only [der]
      split
      · rename_i us e; simp [dat, e]
      · rfl
    | _ => rfl
def eqD (x y : U) (h : Hu) : Option Bool := eqData x y h
theorem eqData_der (x y : U) : eqData x y h = eqD (der h x) (der h y) h := by simp only [eqD, eqData, dat_der]
theorem eqD_isD {x y : U} (a : isD 12 x = true) (b : isD 12 y = true) : eqD x y h = some (eqv x y) := eqData_isD a b
theorem canLay_isD : ∀ (n : Nat) {u : U}, isD n u = true → (toD u).canLay0 = true
  | 0, u, e => by cases e
  | n + 1, u, e => by
    have key : ∀ {us : List U}, us.all (isD n) = true → PyData.canLayAll0 (toDs us) = true := by
      intro us
      induction us with
      | nil => intro _; rfl
      | cons u us ih =>
        intro q
        simp only [List.all_cons, Bool.and_eq_true] at q
        simp [toDs, PyData.canLayAll0, canLay_isD n q.1, ih q.2]
    cases u <;> simp only [isD] at e <;> first | cases e | skip
    · rfl
    · rfl
    · rfl
    · exact e
    · exact key e
    · exact key e
    · exact key e
theorem eqv_self {x : U} {n : Nat} (a : isD n x = true) : eqv x x = true := PySem.SeqAt.eqv_refl _ (canLay_isD n a)
theorem eqv_int {i j : Int} : eqv (.int i) (.int j) = decide (i = j) := by simp [eqv, toD, PyData.eqv, Bool.beq_eq_decide_eq]
theorem eqv_bl {i j : Bool} : eqv (.bl i) (.bl j) = decide (i = j) := by cases i <;> cases j <;> rfl
theorem eqv_non : eqv .non .non = true := rfl
theorem eqv_str {i j : Str} : eqv (.str i) (.str j) = decide (i = j) := by simp [eqv, toD, PyData.eqv, Bool.beq_eq_decide_eq]
theorem eqv_lst {i j : List U} : eqv (.lst i) (.lst j) = eqvs i j := by simp [eqv, toD, PyData.eqv, eqvs]
theorem eqv_tup {i j : List U} : eqv (.tup i) (.tup j) = eqvs i j := by simp [eqv, toD, PyData.eqv, eqvs]
theorem eqvs_nil : eqvs [] [] = true := by simp [eqvs, toDs, PyData.eqvAll]
theorem eqvs_nc {u : U} {us : List U} : eqvs [] (u :: us) = false := by simp [eqvs, toDs, PyData.eqvAll]
theorem eqvs_cn {u : U} {us : List U} : eqvs (u :: us) [] = false := by simp [eqvs, toDs, PyData.eqvAll]
theorem eqvs_cc {u v : U} {us vs : List U} : eqvs (u :: us) (v :: vs) = (eqv u v && eqvs us vs) := by simp [eqvs, toDs, PyData.eqvAll, eqv]
theorem eqvs_n {us : List U} : eqvs us [] = us.isEmpty := by cases us <;> simp [eqvs_nil, eqvs_cn]
theorem eqv_ni {i : Int} : eqv .non (.int i) = false := by simp [eqv, toD, PyData.eqv]
theorem eqv_in {i : Int} : eqv (.int i) .non = false := by simp [eqv, toD, PyData.eqv]
theorem eqv_nl {i : List U} : eqv .non (.lst i) = false := by simp [eqv, toD, PyData.eqv]
theorem eqv_ln {i : List U} : eqv (.lst i) .non = false := by simp [eqv, toD, PyData.eqv]
theorem eqv_nt {i : List U} : eqv .non (.tup i) = false := by simp [eqv, toD, PyData.eqv]
theorem eqv_tn {i : List U} : eqv (.tup i) .non = false := by simp [eqv, toD, PyData.eqv]
theorem eqv_si {i : Str} {j : Int} : eqv (.str i) (.int j) = false := by simp [eqv, toD, PyData.eqv]
theorem eqv_is {i : Str} {j : Int} : eqv (.int j) (.str i) = false := by simp [eqv, toD, PyData.eqv]
theorem eqvs_ints {a b : List Int} : eqvs (a.map .int) (b.map .int) = decide (a = b) := by
  induction a generalizing b with
  | nil => cases b <;> simp [eqvs_nil, eqvs_nc]
  | cons x a ih =>
    cases b with
    | nil => simp [eqvs_cn]
    | cons y b => simp [eqvs_cc, eqv_int, ih, Bool.decide_and]
theorem isD_int {n : Nat} {i : Int} : isD (n + 1) (.int i) = true := rfl
theorem isD_bl {n : Nat} {i : Bool} : isD (n + 1) (.bl i) = true := rfl
theorem isD_non {n : Nat} : isD (n + 1) .non = true := rfl
theorem isD_tup {n : Nat} {us : List U} : isD (n + 1) (.tup us) = us.all (isD n) := rfl
theorem isD_lst {n : Nat} {us : List U} : isD (n + 1) (.lst us) = us.all (isD n) := rfl
theorem isD_mono : ∀ {n m : Nat} {u : U}, n ≤ m → isD n u = true → isD m u = true
  | 0, _, _, _, e => by cases e
  | n + 1, 0, _, l, _ => by omega
  | n + 1, m + 1, u, l, e => by
    have key : ∀ {us : List U}, us.all (isD n) = true → us.all (isD m) = true := fun q => List.all_eq_true.mpr fun x mm => isD_mono (by omega) (List.all_eq_true.mp q x mm)
    cases u <;> simp only [isD] at e ⊢ <;> first | exact key e | exact e
end
end Mu

set_option Elab.async false
set_option linter.all false
set_option maxRecDepth 100000
set_option maxHeartbeats 4000000
/-! Operations by cases; loops. -/
namespace Mu
open PySem
open Mi (E Es Eo It Tg Tgs Ss Key Bop Cop Bc Bm Bt Ty Pr FunI ClsI W tgsL keysI intsW boolsW insI sortI dedI minI maxI)
section
variable {h : Hu} {i j : Int} {k : Bool} {C : Cal} {x y : U} {us vs : List U}
theorem getS_0 {w : U} {s : Sl} : getS (some w :: s) 0 = some w := rfl
theorem getS_s {x : Option U} {s : Sl} {i : Nat} : getS (x :: s) (i + 1) = getS s i := rfl
theorem newL_c (c : us.length ≤ 16777216) : newL h us = .ok (.lst us) h := by
  unfold newL; rw [if_pos (by rw [sizeLine_eq]; omega)]
theorem newT_c (c : us.length ≤ 16777216) : newT h us = .ok (.tup us) h := by
  unfold newT; rw [if_pos (by rw [sizeLine_eq]; omega)]
theorem tru_bl : tru h (.bl k) = some k := rfl
theorem tru_int : tru h (.int i) = some (i != 0) := rfl
theorem tru_non : tru h .non = some false := rfl
theorem tru_lst : tru h (.lst us) = some (!us.isEmpty) := rfl
theorem tru_tup : tru h (.tup us) = some (!us.isEmpty) := rfl
theorem bin_add : binU .add (.int i) (.int j) h = .ok (.int (i + j)) h := rfl
theorem bin_sub : binU .sub (.int i) (.int j) h = .ok (.int (i - j)) h := rfl
theorem bin_mul (c : L2.CMul i j) : binU .mul (.int i) (.int j) h = .ok (.int (i * j)) h := by simp only [binU, mulU, lstU, if_pos c]
theorem bin_mulc (c : -(2 ^ 64) < j ∧ j < 2 ^ 64) : binU .mul (.int i) (.int j) h = .ok (.int (i * j)) h := bin_mul (.inr c)
theorem bin_fdivc (c : 0 < j ∧ j < 1073741824) : binU .fdiv (.int i) (.int j) h = .ok (.int (i / j)) h := by
  have c' : L2.CDiv i j := c
  simp only [binU, intI, if_pos c', R.of]
theorem bin_mod (c : 0 < j) : binU .mod (.int i) (.int j) h = .ok (.int (i % j)) h := by simp only [binU, intI, if_pos c, R.of]
theorem bin_pow (c : L2.CPow i j) : binU .pow (.int i) (.int j) h = .ok (.int (i ^ j.toNat)) h := by simp only [binU, intI, if_pos c, R.of]
theorem bin_addL : binU .add (.lst us) (.lst vs) h = newL h (us ++ vs) := rfl
theorem bin_addX (a b : U) : binU .add a b h = addU a b h := rfl
theorem bin_mulX (a b : U) : binU .mul a b h = mulU a b h := rfl
theorem mul_lst (c : 0 ≤ i ∧ us.length * i.toNat ≤ 16777216 ∧ i < 2 ^ 62) : binU .mul (.lst us) (.int i) h = .ok (.lst (List.replicate i.toNat us).flatten) h := by
  show (if _ then _ else _) = _
  rw [if_pos ⟨by omega, by omega, by rw [sizeLine_eq]; exact c.2.1⟩]
theorem cmp_lt : cmpU C .lt (.int i) (.int j) h = .ok (.bl (decide (i < j))) h := rfl
theorem cmp_le : cmpU C .le (.int i) (.int j) h = .ok (.bl (decide (i ≤ j))) h := rfl
theorem cmp_gt : cmpU C .gt (.int i) (.int j) h = .ok (.bl (decide (j < i))) h := rfl
theorem cmp_ge : cmpU C .ge (.int i) (.int j) h = .ok (.bl (decide (j ≤ i))) h := rfl
theorem cmp_isN : cmpU C .is x .non h = .ok (.bl (isNon x)) h := rfl
theorem cmp_isnN : cmpU C .isn x .non h = .ok (.bl (!isNon x)) h := rfl
theorem isNon_non : isNon .non = true := rfl
theorem isNon_int : isNon (.int i) = false := rfl
theorem isNon_tup : isNon (.tup us) = false := rfl
theorem isNon_lst : isNon (.lst us) = false := rfl
theorem isNon_ref {n : Nat} : isNon (.ref n) = false := rfl
theorem isNon_bl : isNon (.bl k) = false := rfl
theorem cmp_isin : cmpU C .isin x y h = .of h ((inU x y h).map .bl) := rfl
theorem cmp_nin : cmpU C .nin x y h = .of h ((inU x y h).map fun b => .bl (!b)) := rfl
theorem cmp_eqI : cmpU C .eq (.int i) (.int j) h = .ok (.bl (decide (i = j))) h := by
  have e : cmpU C .eq (.int i) (.int j) h = R.of h ((eqData (.int i) (.int j) h).map .bl) := by simp only [cmpU, ownEq]
  rw [e, eqData_isD rfl rfl, eqv_int]; rfl
theorem cmp_neI : cmpU C .ne (.int i) (.int j) h = .ok (.bl (!decide (i = j))) h := by
  have e : cmpU C .ne (.int i) (.int j) h = R.of h ((eqData (.int i) (.int j) h).map fun b => .bl (!b)) := by simp only [cmpU, ownEq]
  rw [e, eqData_isD rfl rfl, eqv_int]; rfl
def cmpEq (C : Cal) (o : Option Nat) (f : Bool → Bool) (x y : U) (h : Hu) : R U := match o with
  | none => .of h ((eqD (der h x) (der h y) h).map fun b => .bl (f b))
  | some k => (C.call k [x, y] h).bindN fun r h1 => match r with
      | .bl b => .ok (.bl (f b)) h1
      | _ => .no
theorem cmp_eq : cmpU C .eq x y h = cmpEq C (ownEq C x h) id x y h := by
  simp only [cmpU, cmpEq, ← eqData_der]; cases ownEq C x h <;> rfl
theorem cmp_ne : cmpU C .ne x y h = cmpEq C (ownEq C x h) not x y h := by
  simp only [cmpU, cmpEq, ← eqData_der]; cases ownEq C x h <;> rfl
theorem cmpEq_n {f : Bool → Bool} : cmpEq C none f x y h = .of h ((eqD (der h x) (der h y) h).map fun b => .bl (f b)) := rfl
theorem eqD_if : eqD x y h = if isD 12 x = true ∧ isD 12 y = true then some (eqv x y) else eqData x y h := by
  split
  · rename_i c; exact eqD_isD c.1 c.2
  · rfl
theorem own_ref {n : Nat} : ownEq C (.ref n) h = match h[n]? with | some (.ins c _) => (C.cs[c]?).bind fun q => q.eqm | _ => none := rfl
theorem der_ref {n : Nat} : der h (.ref n) = match h[n]? with | some (.lst us) => .lst us | _ => .ref n := rfl
theorem id_b {b : Bool} : id b = b := rfl
theorem own_lst : ownEq C (.lst us) h = none := rfl
theorem own_tup : ownEq C (.tup us) h = none := rfl
theorem own_non : ownEq C .non h = none := rfl
theorem own_bl : ownEq C (.bl k) h = none := rfl
theorem own_int : ownEq C (.int i) h = none := rfl
theorem own_str {s : Str} : ownEq C (.str s) h = none := rfl
theorem der_lst : der h (.lst us) = .lst us := rfl
theorem der_tup : der h (.tup us) = .tup us := rfl
theorem der_non : der h .non = .non := rfl
theorem der_int : der h (.int i) = .int i := rfl
theorem der_bl : der h (.bl k) = .bl k := rfl
theorem der_str {s : Str} : der h (.str s) = .str s := rfl
theorem bc_int : bcU .int1 [.int i] h = .ok (.int i) h := rfl
theorem bc_abs : bcU .abs1 [.int i] h = .ok (.int (if i < 0 then -i else i)) h := rfl
theorem bc_max : bcU .max2 [.int i, .int j] h = .ok (.int (max i j)) h := by
  show R.ok (U.int (if j > i then j else i)) h = _
  congr 2; split <;> omega
theorem bc_min : bcU .min2 [.int i, .int j] h = .ok (.int (min i j)) h := by
  show R.ok (U.int (if j < i then j else i)) h = _
  congr 2; split <;> omega
theorem bc_divmod (c : 0 < j ∧ j < 1073741824) : bcU .divmod2 [.int i, .int j] h = .ok (.tup [.int (i / j), .int (i % j)]) h := by
  have c' : L2.CDiv i j := c
  simp only [bcU, if_pos c']
theorem bc_len : bcU .len1 [.lst us] h = .ok (.int us.length) h := rfl
theorem bc_lenF : bcU .len1 [.frz us] h = .ok (.int us.length) h := rfl
theorem bc_lenT : bcU .len1 [.tup us] h = .ok (.int us.length) h := rfl
theorem bc_lenR {n : Nat} (e : h[n]? = some (.lst us)) : bcU .len1 [.ref n] h = .ok (.int us.length) h := by simp only [bcU, lenU, seqU, e]
theorem bc_lenD {n : Nat} {kvs : List (Key × U)} (e : h[n]? = some (.dic kvs)) : bcU .len1 [.ref n] h = .ok (.int kvs.length) h := by simp only [bcU, lenU, seqU, dicU, e]
theorem bc_list : bcU .list1 [.lst us] h = .ok (.lst us) h := rfl
theorem bc_listT : bcU .list1 [.tup us] h = .ok (.lst us) h := rfl
theorem bc_listR {n : Nat} (e : h[n]? = some (.lst us)) : bcU .list1 [.ref n] h = .ok (.lst us) h := by simp only [bcU, seqU, e]
theorem bc_tuple : bcU .tuple1 [.lst us] h = .ok (.tup us) h := rfl
theorem len_ref_a {n : Nat} : bcU .len1 [.ref n] h = match h[n]? with
    | some (.lst us) => .ok (.int us.length) h
    | some (.dic kvs) => .ok (.int kvs.length) h
    | _ => .no := by
  simp only [bcU, lenU, seqU, dicU]
  try (cases h[n]? with
  | none => rfl
  | some o => cases o <;> rfl)
theorem list_ref_a {n : Nat} : bcU .list1 [.ref n] h = match h[n]? with
    | some (.lst us) => .ok (.lst us) h
    | some (.dic kvs) => .ok (.lst (kvs.map fun kv => kU kv.1)) h
    | _ => .no := by
  simp only [bcU, seqU, dicU]
  try (cases h[n]? with
  | none => rfl
  | some o => cases o <;> rfl)
theorem seq_ref_a {n : Nat} : seqU h (.ref n) = match h[n]? with
    | some (.lst us) => some us
    | _ => none := rfl
theorem lsf_ref_a {n : Nat} : lsfU h (.ref n) = match h[n]? with
    | some (.lst us) => some us
    | _ => none := rfl
theorem dic_ref_a {n : Nat} : dicU h (.ref n) = match h[n]? with
    | some (.dic us) => some us
    | _ => none := rfl
theorem lst_ref_a {n : Nat} : lstU h (.ref n) = match h[n]? with
    | some (.lst us) => some us
    | _ => none := rfl
theorem seq_lst : seqU h (.lst us) = some us := rfl
theorem seq_tup : seqU h (.tup us) = some us := rfl
theorem lsf_lst : lsfU h (.lst us) = some us := rfl
theorem ix_ref_a {n : Nat} : ixU (.ref n) (.int i) h = match h[n]? with
    | some (.lst us) => L2.atI us i
    | some (.dic kvs) => valK kvs (.inl i)
    | _ => none := by
  simp only [ixU, seqU, dicU, keyU]
  try (cases h[n]? with
  | none => rfl
  | some o => cases o <;> rfl)
theorem slc_ref_a {n : Nat} {lo hi : Option Int} : slcU (.ref n) lo hi h = match h[n]? with
    | some (.lst us) => .ok (.lst (cutU us lo hi)) h
    | _ => .no := by
  simp only [slcU, seqU]
  try (cases h[n]? with
  | none => rfl
  | some o => cases o <;> rfl)
theorem rev_ref_a {n : Nat} : revU (.ref n) h = match h[n]? with
    | some (.lst us) => .ok (.lst us.reverse) h
    | _ => .no := by
  simp only [revU, lsfU]
  try (cases h[n]? with
  | none => rfl
  | some o => cases o <;> rfl)
def appX (h : Hu) (n : Nat) (y : U) (o : Option OU) : R U := match o with
    | some (.lst us) => if us.length < sizeLine then .ok .non (h.set n (.lst (us ++ [y]))) else .no
    | _ => .no
theorem app_ref_a {n : Nat} : bmU .append1 (.ref n) [y] h = appX h n y h[n]? := by
  simp only [bmU, appX]
  try (cases h[n]? with
  | none => rfl
  | some o => cases o <;> rfl)
theorem appX_l {n : Nat} (c : us.length < 16777216) : appX h n y (some (.lst us)) = .ok .non (h.set n (.lst (us ++ [y]))) := by
  simp only [appX]; rw [if_pos (by rw [sizeLine_eq]; exact c)]
theorem setIx_ref_a {n : Nat} {v : U} : setIx (.ref n) (.int i) v h = match h[n]? with
    | some (.lst us) => (match L2.ixN us.length i with
        | some j => some (h.set n (.lst (us.set j v)))
        | none => none)
    | some (.dic kvs) => if kvs.length < sizeLine then some (h.set n (.dic (putK kvs (.inl i) v))) else none
    | _ => none := by
  simp only [setIx, keyU]
  try (cases h[n]? with
  | none => rfl
  | some o => cases o <;> rfl)
theorem intsU_map {ns : List Int} : intsU (ns.map .int) = some ns := by
  induction ns with
  | nil => rfl
  | cons a t ih => simp [intsU, ih]
theorem bc_sort {ns : List Int} (hl : ns.length < 64) : bcU .sorted1 [.lst (ns.map .int)] h = .ok (.lst ((sortI ns).map .int)) h := by
  simp only [bcU, lsfU, intsU_map, sorted1, if_pos hl]
theorem rep_bl : bcU .repr1 [.bl k] h = .ok (.str (if k then "True" else "False")) h := by cases k <;> rfl
theorem isD_bstr {n : Nat} {b : Bool} : isD (n + 1) (.str (if b = true then "True" else "False")) = true := by
  show PyData.canLay0 (.str _) = true
  cases b <;> decide +kernel
theorem ix_lst : ixU (.lst us) (.int i) h = L2.atI us i := rfl
theorem ix_tup : ixU (.tup us) (.int i) h = L2.atI us i := rfl
theorem ix_frz : ixU (.frz us) (.int i) h = L2.atI us i := rfl
theorem ix_ref {n : Nat} (e : h[n]? = some (.lst us)) : ixU (.ref n) (.int i) h = L2.atI us i := by simp only [ixU, seqU, e]
theorem at_0 {α : Type} {x : α} {l : List α} : L2.atI (x :: l) 0 = some x := by
  unfold L2.atI L2.ixN
  rw [if_pos (by decide), if_pos (by simp only [List.length_cons]; omega)]; rfl
theorem at_1 {α : Type} {x y : α} {l : List α} : L2.atI (x :: y :: l) 1 = some y := by
  unfold L2.atI L2.ixN
  rw [if_pos (by decide), if_pos (by simp only [List.length_cons]; omega)]; rfl
theorem at_2 {α : Type} {x y z : α} {l : List α} : L2.atI (x :: y :: z :: l) 2 = some z := by
  unfold L2.atI L2.ixN
  rw [if_pos (by decide), if_pos (by simp only [List.length_cons]; omega)]; rfl
theorem at_3 {α : Type} {x y z w : α} {l : List α} : L2.atI (x :: y :: z :: w :: l) 3 = some w := by
  unfold L2.atI L2.ixN
  rw [if_pos (by decide), if_pos (by simp only [List.length_cons]; omega)]; rfl
theorem at_4 {α : Type} {x y z w v : α} {l : List α} : L2.atI (x :: y :: z :: w :: v :: l) 4 = some v := by
  unfold L2.atI L2.ixN
  rw [if_pos (by decide), if_pos (by simp only [List.length_cons]; omega)]; rfl
theorem atI_of {α : Type} {l : List α} {i : Int} {x : α} (h0 : 0 ≤ i) (e : l[i.toNat]? = some x) : L2.atI l i = some x := by
  have lt := (List.getElem?_eq_some_iff.mp e).1
  unfold L2.atI L2.ixN
  rw [if_pos h0, if_pos (by omega)]
  exact e
theorem ixN_of {n : Nat} {i : Int} (h0 : 0 ≤ i) (h1 : i < n) : L2.ixN n i = some i.toNat := by
  unfold L2.ixN
  rw [if_pos h0, if_pos h1]
theorem set_ref {n m : Nat} {v : U} (e : h[n]? = some (.lst us)) (ei : L2.ixN us.length i = some m) : setIx (.ref n) (.int i) v h = some (h.set n (.lst (us.set m v))) := by simp only [setIx, e, ei]
theorem set_l0 {n : Nat} {x v : U} (e : h[n]? = some (.lst (x :: us))) : setIx (.ref n) (.int 0) v h = some (h.set n (.lst (v :: us))) := by
  rw [set_ref e (ixN_of (by decide) (by simp only [List.length_cons]; omega))]; rfl
theorem set_l1 {n : Nat} {x y v : U} (e : h[n]? = some (.lst (x :: y :: us))) : setIx (.ref n) (.int 1) v h = some (h.set n (.lst (x :: v :: us))) := by
  rw [set_ref e (ixN_of (by decide) (by simp only [List.length_cons]; omega))]; rfl
theorem slc_lst {lo hi : Option Int} : slcU (.lst us) lo hi h = .ok (.lst (cutU us lo hi)) h := rfl
theorem slc_ref {n : Nat} {lo hi : Option Int} (e : h[n]? = some (.lst us)) : slcU (.ref n) lo hi h = .ok (.lst (cutU us lo hi)) h := by simp only [slcU, seqU, e]
theorem rev_lst : revU (.lst us) h = .ok (.lst us.reverse) h := rfl
theorem rev_ref {n : Nat} (e : h[n]? = some (.lst us)) : revU (.ref n) h = .ok (.lst us.reverse) h := by simp only [revU, lsfU, e]
theorem cut_take (c : 0 ≤ i) : cutU us none (some i) = us.take i.toNat := by
  unfold cutU HT.sIx
  dsimp only
  rw [if_neg (by omega)]
  rw [List.drop_zero, Nat.sub_zero]
  by_cases c : i.toNat ≤ us.length
  · rw [Nat.min_eq_left c]
  · rw [Nat.min_eq_right (by omega), List.take_length, List.take_of_length_le (by omega)]
theorem cut_drop (c : 0 ≤ i) : cutU us (some i) none = us.drop i.toNat := by
  unfold cutU HT.sIx
  dsimp only
  rw [if_neg (by omega)]
  by_cases c : i.toNat ≤ us.length
  · rw [Nat.min_eq_left c]
    exact List.take_of_length_le (by simp)
  · rw [Nat.min_eq_right (by omega), Nat.sub_self, List.take_zero, List.drop_eq_nil_of_le (by omega)]
theorem cut_tl : cutU (x :: us) (some 1) none = us := by rw [cut_drop (by decide)]; rfl
theorem rng_c {a b : Int} (c : -(2 ^ 62) ≤ a ∧ a < 2 ^ 62 ∧ -(2 ^ 62) ≤ b ∧ b < 2 ^ 62 ∧ (b - a).toNat ≤ 2 ^ 24) : rngU false [.int a, .int b] h = .ok (.lst ((List.range (b - a).toNat).map fun i => U.int (a + (i : Nat)))) h := by
  show rngGo _ _ _ _ = _
  unfold rngGo; rw [if_pos c]; rfl
theorem rng_c1 {b : Int} (c : -(2 ^ 62) ≤ b ∧ b < 2 ^ 62 ∧ b.toNat ≤ 2 ^ 24) : rngU false [.int b] h = .ok (.lst ((List.range b.toNat).map fun i => U.int (i : Nat))) h := by
  show rngGo _ _ _ _ = _
  unfold rngGo
  rw [if_pos ⟨by decide, by decide, c.1, c.2.1, by simpa using c.2.2⟩]
  simp
theorem app_ref {n : Nat} {v : U} (e : h[n]? = some (.lst us)) (c : us.length < 16777216) : bmU .append1 (.ref n) [v] h = .ok .non (h.set n (.lst (us ++ [v]))) := by
  have : us.length < sizeLine := by rw [sizeLine_eq]; omega
  simp only [bmU, e, if_pos this]
theorem kind_ref {n : Nat} (e : h[n]? = some (.lst us)) : kindU h (.ref n) = some true := by simp only [kindU, e]
theorem rngJ_c {a b : Int} (c : -(2 ^ 62) ≤ a ∧ a < 2 ^ 62 ∧ -(2 ^ 62) ≤ b ∧ b < 2 ^ 62) : rngJ a b h = .ok (.rng a (b - a).toNat) h := by unfold rngJ; rw [if_pos c]
/-! fields -/
theorem fldP {n c f m : Nat} {fs : Fu} {q : ClsI} (e : h[n]? = some (.ins c fs)) (eq : C.cs[c]? = some q) (ep : q.ps.lookup f = some m) : fldU C (.ref n) f h = C.call m [.ref n] h := by simp only [fldU, e, eq, ep]
theorem fldV {n c f : Nat} {fs : Fu} {q : ClsI} {v : U} (e : h[n]? = some (.ins c fs)) (eq : C.cs[c]? = some q) (ep : q.ps.lookup f = none) (em : q.ms.lookup f = none) (ef : fs.lookup f = some v) : fldU C (.ref n) f h = .ok v h := by simp only [fldU, e, eq, ep, em, ef, R.of]
theorem setF_ {n c f : Nat} {fs : Fu} {q : ClsI} {v : U} (e : h[n]? = some (.ins c fs)) (eq : C.cs[c]? = some q) (ep : q.ps.lookup f = none) (em : q.ms.lookup f = none) (hl : fs.length < 1000) : setFld C (.ref n) f v h = some (h.set n (.ins c (putF f v fs))) := by simp only [setFld, e, eq, ep, em, if_pos hl]
theorem meth_ {n c f m : Nat} {fs : Fu} {q : ClsI} (e : h[n]? = some (.ins c fs)) (eq : C.cs[c]? = some q) (el : fs.lookup f = none) (em : q.ms.lookup f = some m) : methOf C (.ref n) f h = some m := by simp only [methOf, e, eq, el, em]
end
theorem make_ok {C : Cal} {c : Nat} {us : List U} {h : Hu} {q : ClsI} {Q : U → Hu → Prop} (eq : C.cs[c]? = some q) : Ok (makeU C c us h) Q ↔ Ok (C.call q.ini (.ref h.length :: us) (h ++ [.ins c []])) fun r h1 => isNon r = true ∧ Q (.ref h.length) h1 := by
  unfold makeU
  rw [eq, Ok_bind]
  constructor <;> refine fun q => q.mono fun r h1 q => ?_
  · cases r <;> first | exact False.elim q | exact ⟨rfl, q⟩
  · cases r <;> first | exact q.2 | (cases q.1)
theorem set_app {h : Hu} {o o' : OU} : (h ++ [o]).set h.length o' = h ++ [o'] := by simp
theorem get_app_len {h : Hu} {o : OU} {i : Nat} (e : i = h.length) : (h ++ [o])[i]? = some o := by subst e; simp
theorem set_app_len {h : Hu} {o o' : OU} {i : Nat} (e : i = h.length) : (h ++ [o]).set i o' = h ++ [o'] := by subst e; simp
theorem get_app_eq {h : Hu} {o : OU} : (h ++ [o])[h.length]? = some o := by simp
/-! ### loops -/
def Src (j : J) (h : Hu) (its : List U) : Prop := (∀ i, j.next i h = some its[i]?) ∧ its.length + 1 ≤ j.fuel h
theorem src_seq {x : U} {h : Hu} {us : List U} (e : seqU h x = some us) : Src (.seq x) h us := ⟨fun i => by simp only [J.next, e, Option.map], by simp only [J.fuel, e]; omega⟩
theorem src_rng {lo : Int} {n : Nat} {h : Hu} : Src (.rng lo n) h ((List.range n).map fun i => .int (lo + (i : Nat))) := by
  refine ⟨fun i => ?_, by simp [J.fuel]⟩
  simp only [J.next, List.getElem?_map]
  by_cases c : i < n
  · rw [if_pos c, List.getElem?_range c]; rfl
  · rw [if_neg c, List.getElem?_eq_none_iff.mpr (by simp; omega)]; rfl
def enmL (us : List U) : List U := us.mapIdx fun i u => .tup [.int (i : Nat), u]
theorem src_enm {x : U} {h : Hu} {us : List U} (e : lsfU h x = some us) : Src (.enm x) h (enmL us) := by
  refine ⟨fun i => ?_, by simp [J.fuel, e, enmL]⟩
  simp only [J.next, e, Option.map, enmL, List.getElem?_mapIdx]
theorem src_zip {x y : U} {h : Hu} {us vs : List U} (e : lsfU h x = some us) (e2 : lsfU h y = some vs) : Src (.zip x y) h (List.zipWith (fun a b => .tup [a, b]) us vs) := by
  refine ⟨fun i => ?_, by simp only [J.fuel, e, List.length_zipWith]; omega⟩
  simp only [J.next, e, e2, List.getElem?_zipWith]
  cases us[i]? <;> cases vs[i]? <;> rfl
theorem forL_ok {asg : U → Sl → Hu → R Sl} {body : Sl → Hu → RS} {j : J} (its : List U) (Iv : Nat → Sl → Hu → Prop) {D : Dn}
    (hn : ∀ i s h, Iv i s h → j.next i h = some its[i]?)
    (step : ∀ i s h u, its[i]? = some u → Iv i s h → Ok (asg u s h) fun s1 h1 => OkS (body s1 h1) { nx := Iv (i + 1), rt := D.rt, bk := D.nx, ct := Iv (i + 1) })
    (fin : ∀ s h, Iv its.length s h → D.nx s h) : ∀ (k i : Nat) (s : Sl) (h : Hu), i ≤ its.length → its.length < i + k → Iv i s h → OkS (forL asg body j k i s h) D
  | 0, i, s, h, h1, h2, iv => absurd h2 (by omega)
  | k + 1, i, s, h, h1, h2, iv => by
    simp only [forL, hn i s h iv]
    cases e : its[i]? with
    | some u =>
      dsimp only
      rw [OkS_toS]
      have lt := (List.getElem?_eq_some_iff.mp e).1
      refine (step i s h u e iv).mono fun s1 h1' q => ?_
      cases e : body s1 h1' with
      | nx s2 h2' => rw [e] at q; exact forL_ok its Iv hn step fin k (i + 1) s2 h2' (by omega) (by omega) q
      | ct s2 h2' => rw [e] at q; exact forL_ok its Iv hn step fin k (i + 1) s2 h2' (by omega) (by omega) q
      | bk s2 h2' => rw [e] at q; exact q
      | rt w h2' => rw [e] at q; exact q
      | ex c fs s2 h2' => rw [e] at q; exact q
      | no => rw [e] at q; exact q
    | none =>
      have := List.getElem?_eq_none_iff.mp e
      have : i = its.length := by omega
      subst this
      exact fin s h iv
/-- a loop over a source that the loop leaves -/
theorem for_src {C : Cal} {t : Tg} {b : Ss} {h : Hu} {s : Sl} {j : J} {its : List U} (S : Src j h its) (Iv : Nat → Sl → Hu → Prop) {D : Dn} (h0 : Iv 0 s h) (hl : ∀ i s h', Iv i s h' → Src j h' its)
    (step : ∀ i s h u, its[i]? = some u → Iv i s h → Ok (evG C t u s h) fun s1 h1 => OkS (evSs C b s1 h1) { nx := Iv (i + 1), rt := D.rt, bk := D.nx, ct := Iv (i + 1) })
    (fin : ∀ s h, Iv its.length s h → D.nx s h) : OkS (forL (evG C t) (evSs C b) j (j.fuel h) 0 s h) D :=
  forL_ok its Iv (fun i s h iv => (hl i s h iv).1 i) step fin _ 0 s h (Nat.zero_le _) (by have := S.2; omega) h0
theorem compL_ok {asg : U → Sl → Hu → R Sl} {tst : Sl → Hu → R Bool} {elt : Sl → Hu → R U} {j : J} {s : Sl} (its : List U) (Iv : Nat → List U → Hu → Prop) {Q : List U → Hu → Prop}
    (hn : ∀ i acc h, Iv i acc h → j.next i h = some its[i]?)
    (step : ∀ i acc h u, its[i]? = some u → Iv i acc h → Ok (asg u s h) fun s1 h1 => Ok (tst s1 h1) fun b h2 => if b = true then Ok (elt s1 h2) fun y h3 => acc.length < sizeLine ∧ Iv (i + 1) (acc ++ [y]) h3 else Iv (i + 1) acc h2)
    (fin : ∀ acc h, Iv its.length acc h → Q acc h) : ∀ (k i : Nat) (acc : List U) (h : Hu), i ≤ its.length → its.length < i + k → Iv i acc h → Ok (compL asg tst elt j s k i acc h) Q
  | 0, i, acc, h, h1, h2, iv => absurd h2 (by omega)
  | k + 1, i, acc, h, h1, h2, iv => by
    simp only [compL, hn i acc h iv]
    cases e : its[i]? with
    | some u =>
      dsimp only
      rw [Ok_bindN]
      have lt := (List.getElem?_eq_some_iff.mp e).1
      refine (step i acc h u e iv).mono fun s1 h1' q => ?_
      rw [Ok_bindN]
      refine q.mono fun b h2' q => ?_
      cases b with
      | false => exact compL_ok its Iv hn step fin k (i + 1) acc h2' (by omega) (by omega) (by simpa using q)
      | true =>
        dsimp only
        rw [if_pos rfl] at q
        rw [Ok_bindN]
        refine q.mono fun y h3 q => ?_
        obtain ⟨q2, q3⟩ := q
        rw [if_pos q2]
        exact compL_ok its Iv hn step fin k (i + 1) _ _ (by omega) (by omega) q3
    | none =>
      have := List.getElem?_eq_none_iff.mp e
      have : i = its.length := by omega
      subst this
      exact fin acc h iv
/-- a comprehension that changes nothing -/
theorem comp_src {C : Cal} {tg : Tg} {cd : Eo} {el : E} {h : Hu} {s : Sl} {j : J} {its : List U} (S : Src j h its) (f : U → Option U) {Q : List U → Hu → Prop} (hz : its.length ≤ 16777216)
    (step : ∀ u ∈ its, Ok (evG C tg u s h) fun s1 h1 => h1 = h ∧ Ok (evC C cd s1 h) fun b h2 => h2 = h ∧ if b = true then Ok (evE C el s1 h) fun y h3 => h3 = h ∧ f u = some y else f u = none)
    (fin : Q (its.filterMap f) h) : Ok (compL (evG C tg) (evC C cd) (evE C el) j s (j.fuel h) 0 [] h) Q := by
  have key : ∀ (i : Nat) (u : U), its[i]? = some u → (its.take (i + 1)).filterMap f = (its.take i).filterMap f ++ (match f u with | some y => [y] | none => []) := by
    intro i w e
    rw [List.take_add_one, e]
    simp only [Option.toList, List.filterMap_append, List.filterMap_cons, List.filterMap_nil]
    cases f w <;> rfl
  have lens : ∀ i, i < its.length → ((its.take i).filterMap f).length < sizeLine := by
    intro i c
    have := List.length_filterMap_le f (its.take i)
    have : (its.take i).length ≤ i := by simp; omega
    rw [sizeLine_eq]
    omega
  refine compL_ok its (fun i acc h' => h' = h ∧ acc = (its.take i).filterMap f) (fun i acc h' iv => iv.1 ▸ S.1 i) (fun i acc h' u e iv => ?_) (fun acc h' iv => ?_) _ 0 [] h (Nat.zero_le _) (by have := S.2; omega) ⟨rfl, by simp⟩
  · obtain ⟨rfl, ha⟩ := iv
    have lt : i < its.length := (List.getElem?_eq_some_iff.mp e).1
    refine (step u (List.mem_of_getElem? e)).mono fun s1 h1 q => ?_
    obtain ⟨rfl, q⟩ := q
    refine q.mono fun b h2 q => ?_
    obtain ⟨rfl, q⟩ := q
    cases b with
    | true =>
      rw [if_pos rfl] at q ⊢
      refine q.mono fun y h3 q3 => ?_
      obtain ⟨rfl, q3⟩ := q3
      refine ⟨by rw [ha]; exact lens i lt, rfl, ?_⟩
      rw [ha, key i u e, q3]
    | false =>
      rw [if_neg (by simp)] at q ⊢
      refine ⟨rfl, ?_⟩
      rw [ha, key i u e, q, List.append_nil]
  · obtain ⟨rfl, ha⟩ := iv
    rw [List.take_length] at ha
    subst ha
    exact fin
theorem comp_map {C : Cal} {tg : Tg} {el : E} {h : Hu} {s : Sl} {j : J} {its : List U} (S : Src j h its) (f : U → U) {Q : List U → Hu → Prop} (hz : its.length ≤ 16777216)
    (step : ∀ u ∈ its, Ok (evG C tg u s h) fun s1 h1 => h1 = h ∧ Ok (evE C el s1 h) fun y h3 => h3 = h ∧ f u = y)
    (fin : Q (its.map f) h) : Ok (compL (evG C tg) (evC C .none) (evE C el) j s (j.fuel h) 0 [] h) Q := by
  refine comp_src S (fun u => some (f u)) hz (fun u m => (step u m).mono fun s1 h1 q => ?_) (by rw [List.filterMap_eq_map']; exact fin)
  refine ⟨q.1, ?_⟩
  have e : evC C .none s1 h = .ok true h := by simp only [evC]
  rw [e, Ok_ok]
  refine ⟨rfl, ?_⟩
  rw [if_pos rfl]
  exact q.2.mono fun y h3 q => ⟨q.1, by rw [q.2]⟩
theorem comp_filter {C : Cal} {tg : Tg} {cd : E} {el : E} {h : Hu} {s : Sl} {j : J} {its : List U} (S : Src j h its) (p : U → Bool) (f : U → U) {Q : List U → Hu → Prop} (hz : its.length ≤ 16777216)
    (step : ∀ u ∈ its, Ok (evG C tg u s h) fun s1 h1 => h1 = h ∧ Ok (evT C cd s1 h) fun b h2 => h2 = h ∧ b = p u ∧ (p u = true → Ok (evE C el s1 h) fun y h3 => h3 = h ∧ f u = y))
    (fin : Q ((its.filter p).map f) h) : Ok (compL (evG C tg) (evC C (.some cd)) (evE C el) j s (j.fuel h) 0 [] h) Q := by
  refine comp_src S (fun u => if p u = true then some (f u) else none) hz (fun u m => (step u m).mono fun s1 h1 q => ?_) ?_
  · obtain ⟨rfl, q⟩ := q
    refine ⟨rfl, ?_⟩
    simp only [evC]
    refine q.mono fun b h2 q => ?_
    obtain ⟨rfl, rfl, q⟩ := q
    refine ⟨rfl, ?_⟩
    by_cases c : p u = true
    · rw [if_pos c]
      exact (q c).mono fun y h3 q => ⟨q.1, by rw [if_pos c, q.2]⟩
    · rw [if_neg c, if_neg c]
  · have : its.filterMap (fun u => if p u = true then some (f u) else none) = (its.filter p).map f := by
      clear step fin hz S
      induction its with
      | nil => rfl
      | cons a t ih =>
        simp only [List.filterMap_cons, List.filter_cons]
        by_cases c : p a = true
        · simp [c, ih]
        · simp [c, ih]
    rw [this]
    exact fin
end Mu

set_option Elab.async false
set_option linter.all false
set_option maxRecDepth 100000
set_option maxHeartbeats 4000000
/-! The laws' own number source: pot, draw, pick (all laws have these three defs, the constants differ). -/
namespace Mu
open PySem
open Mi (E Es Eo It Tg Tgs Ss Key Bop Cop Bc Bm Bt Ty Pr FunI ClsI W tgsL keysI intsW boolsW insI sortI dedI minI maxI)
/-! ### comprehensions, loops over what is known -/
section
variable {α : Type} {C : Cal} {tg : Tg} {cd : E} {el : E} {h : Hu} {s : Sl} {j : J} {its : List U}
theorem comp_dat (S : Src j h its) (xs : List α) (g f : α → U) {Q : List U → Hu → Prop} (ei : its = xs.map g) (hz : xs.length ≤ 16777216)
    (step : ∀ a ∈ xs, Ok (evG C tg (g a) s h) fun s1 h1 => h1 = h ∧ Ok (evE C el s1 h) fun y h3 => h3 = h ∧ y = f a)
    (fin : Q (xs.map f) h) : Ok (compL (evG C tg) (evC C .none) (evE C el) j s (j.fuel h) 0 [] h) Q := by
  subst ei
  have key : ∀ i u, (xs.map g)[i]? = some u → ∃ a, xs[i]? = some a ∧ u = g a := fun i u e => by
    rw [List.getElem?_map] at e
    cases z : xs[i]? with
    | none => rw [z] at e; cases e
    | some a => rw [z] at e; cases e; exact ⟨a, z, rfl⟩
  refine compL_ok (xs.map g) (fun i acc h' => h' = h ∧ acc = (xs.take i).map f) (fun i acc h' iv => iv.1 ▸ S.1 i) (fun i acc h' u e iv => ?_) (fun acc h' iv => ?_) _ 0 [] h (Nat.zero_le _) (by have := S.2; omega) ⟨rfl, by simp⟩
  · obtain ⟨rfl, ha⟩ := iv
    obtain ⟨a, ea, rfl⟩ := key i u e
    have lt : i < xs.length := (List.getElem?_eq_some_iff.mp ea).1
    refine (step a (List.mem_of_getElem? ea)).mono fun s1 h1 q => ?_
    obtain ⟨rfl, q⟩ := q
    have ec : evC C .none s1 h1 = .ok true h1 := by simp only [evC]
    rw [ec, Ok_ok, if_pos rfl]
    refine q.mono fun y h3 q => ?_
    obtain ⟨rfl, rfl⟩ := q
    refine ⟨by rw [ha, sizeLine_eq]; simp; omega, rfl, ?_⟩
    rw [ha, List.take_add_one, ea]
    simp
  · obtain ⟨rfl, ha⟩ := iv
    rw [ha, List.length_map, List.take_length]
    exact fin
theorem comp_datF (S : Src j h its) (xs : List α) (g f : α → U) (p : α → Bool) {Q : List U → Hu → Prop} (ei : its = xs.map g) (hz : xs.length ≤ 16777216)
    (step : ∀ a ∈ xs, Ok (evG C tg (g a) s h) fun s1 h1 => h1 = h ∧ Ok (evT C cd s1 h) fun b h2 => h2 = h ∧ b = p a ∧ (p a = true → Ok (evE C el s1 h) fun y h3 => h3 = h ∧ y = f a))
    (fin : Q ((xs.filter p).map f) h) : Ok (compL (evG C tg) (evC C (.some cd)) (evE C el) j s (j.fuel h) 0 [] h) Q := by
  subst ei
  have key : ∀ i u, (xs.map g)[i]? = some u → ∃ a, xs[i]? = some a ∧ u = g a := fun i u e => by
    rw [List.getElem?_map] at e
    cases z : xs[i]? with
    | none => rw [z] at e; cases e
    | some a => rw [z] at e; cases e; exact ⟨a, z, rfl⟩
  refine compL_ok (xs.map g) (fun i acc h' => h' = h ∧ acc = ((xs.take i).filter p).map f) (fun i acc h' iv => iv.1 ▸ S.1 i) (fun i acc h' u e iv => ?_) (fun acc h' iv => ?_) _ 0 [] h (Nat.zero_le _) (by have := S.2; omega) ⟨rfl, by simp⟩
  · obtain ⟨rfl, ha⟩ := iv
    obtain ⟨a, ea, rfl⟩ := key i u e
    have lt : i < xs.length := (List.getElem?_eq_some_iff.mp ea).1
    refine (step a (List.mem_of_getElem? ea)).mono fun s1 h1 q => ?_
    obtain ⟨rfl, q⟩ := q
    have ec : evC C (.some cd) s1 h1 = evT C cd s1 h1 := by simp only [evC]
    rw [ec]
    refine q.mono fun b h2 q => ?_
    obtain ⟨rfl, rfl, q⟩ := q
    have ln := List.length_filter_le p (xs.take i)
    have lt2 : (xs.take i).length ≤ i := by simp; omega
    cases c : p a with
    | true =>
      rw [if_pos rfl]
      refine (q c).mono fun y h3 q => ?_
      obtain ⟨rfl, rfl⟩ := q
      refine ⟨by rw [ha, sizeLine_eq, List.length_map]; omega, rfl, ?_⟩
      rw [ha, List.take_add_one, ea]
      simp [c]
    | false =>
      rw [if_neg (by simp)]
      refine ⟨rfl, ?_⟩
      rw [ha, List.take_add_one, ea]
      simp [c]
  · obtain ⟨rfl, ha⟩ := iv
    rw [ha, List.length_map, List.take_length]
    exact fin
theorem for_dat {C : Cal} {t : Tg} {b : Ss} {h : Hu} {s : Sl} {j : J} {its : List U} {α : Type} (S : Src j h its) (xs : List α) (g : α → U) (ei : its = xs.map g) (Iv : Nat → Sl → Hu → Prop) {D : Dn} (h0 : Iv 0 s h) (hl : ∀ i s h', Iv i s h' → Src j h' its)
    (step : ∀ i s h a, xs[i]? = some a → Iv i s h → Ok (evG C t (g a) s h) fun s1 h1 => OkS (evSs C b s1 h1) { nx := Iv (i + 1), rt := D.rt, bk := D.nx, ct := Iv (i + 1) })
    (fin : ∀ s h, Iv xs.length s h → D.nx s h) : OkS (forL (evG C t) (evSs C b) j (j.fuel h) 0 s h) D := by
  subst ei
  refine for_src S Iv h0 hl (fun i s h u e iv => ?_) (fun s h iv => fin s h (by simpa using iv))
  rw [List.getElem?_map] at e
  cases z : xs[i]? with
  | none => rw [z] at e; cases e
  | some a => rw [z] at e; cases e; exact step i s h a z iv
theorem enmL_map (xs : List α) (g : α → U) : enmL (xs.map g) = xs.zipIdx.map fun p => .tup [.int (p.2 : Nat), g p.1] := by
  unfold enmL
  refine List.ext_getElem? fun i => ?_
  simp only [List.getElem?_mapIdx, List.getElem?_map, List.getElem?_zipIdx]
  cases xs[i]? <;> simp
end
/-- x is the list us -/
structure IsL (h : Hu) (x : U) (us : List U) : Prop where
  len : bcU .len1 [x] h = .ok (.int us.length) h
  lsf : lsfU h x = some us
  seq : seqU h x = some us
  own : ∀ C, ownEq C x h = none
  der : der h x = .lst us
  ix : ∀ i, ixU x (.int i) h = L2.atI us i
theorem isL_l {h : Hu} {us : List U} : IsL h (.lst us) us := ⟨rfl, rfl, rfl, fun _ => rfl, rfl, fun _ => rfl⟩
theorem isL_r {h : Hu} {us : List U} {o : Nat} (e : h[o]? = some (.lst us)) : IsL h (.ref o) us := ⟨bc_lenR e, by simp only [lsfU, e], by simp only [seqU, e], fun _ => by simp only [ownEq, e], by simp only [Mu.der, e], fun i => ix_ref e⟩
theorem eqvs_self {us : List U} (c : ∀ n, us.all (isD (n + 3)) = true) : eqvs us us = true := by
  rw [← eqv_lst]; exact eqv_self (n := 4) (by rw [isD_lst]; exact c 0)
theorem set_same {α : Type} : ∀ {l : List α} {i : Nat} {x : α}, l[i]? = some x → l.set i x = l
  | [], _, _, e => by simp at e
  | a :: l, 0, x, e => by simp at e; subst e; rfl
  | a :: l, i + 1, x, e => by rw [List.set_cons_succ, set_same (by simpa using e)]
theorem map_set_same {α β : Type} {f : α → β} {l : List α} {i : Nat} {x y : α} (e : l[i]? = some y) (ef : f x = f y) : (l.set i x).map f = l.map f := by
  rw [List.map_set, ef]
  exact set_same (by rw [List.getElem?_map, e]; rfl)
theorem remAt_isD {h : Hu} {x : U} {us : List U} (dx : isD 12 x = true) (du : us.all (isD 12) = true) : remAt x h us = us.findIdx? fun z => eqv z x := by
  have e1 : (us.mapM fun w => dat Mi.dataD h w) = some (us.map toD) := mapM_all fun w m => dat_isD 12 (List.all_eq_true.mp du w m)
  have e2 : dat Mi.dataD h x = some (toD x) := dat_isD 12 dx
  simp only [remAt, e1, e2, List.findIdx?_map]
  rfl
theorem erase_map {α : Type} [DecidableEq α] {f : α → U} {k : α} : ∀ {l : List α} {i : Nat}, (∀ a ∈ l, eqv (f a) (f k) = decide (a = k)) → (l.map f).findIdx? (fun z => eqv z (f k)) = some i → (l.map f).eraseIdx i = (l.erase k).map f
  | [], i, _, e => by simp at e
  | a :: l, i, hf, e => by
    rw [List.map_cons, List.findIdx?_cons, hf a (by simp)] at e
    by_cases c : a = k
    · subst c
      simp at e
      subst e
      simp
    · have c2 : ¬ (decide (a = k) = true) := by simpa using c
      rw [if_neg c2] at e
      obtain ⟨j, e1, rfl⟩ := Option.map_eq_some_iff.mp e
      rw [List.map_cons, List.eraseIdx_cons_succ, erase_map (l := l) (fun b m => hf b (List.mem_cons_of_mem _ m)) e1, List.erase_cons_tail (by simpa using c)]
      rfl
/-- x.remove(y) -/
theorem rem_ok {α : Type} [DecidableEq α] {h : Hu} {n : Nat} {l : List α} {f : α → U} {k : α} (e : h[n]? = some (.lst (l.map f))) (hf : ∀ a ∈ l, eqv (f a) (f k) = decide (a = k)) (d1 : ∀ a ∈ l, isD 12 (f a) = true) (d2 : isD 12 (f k) = true) (m : k ∈ l) :
    bmU .remove1 (.ref n) [f k] h = .ok .non (h.set n (.lst ((l.erase k).map f))) := by
  have e1 : remAt (f k) h (l.map f) = (l.map f).findIdx? fun z => eqv z (f k) := remAt_isD d2 (by simpa using d1)
  cases z : (l.map f).findIdx? fun z => eqv z (f k) with
  | none =>
    rw [List.findIdx?_eq_none_iff] at z
    have := z (f k) (List.mem_map_of_mem m)
    rw [hf k m] at this
    simp at this
  | some i =>
    rw [z] at e1
    simp only [bmU, e, e1, erase_map hf z]
def PotB (b : Int) : Prop := 0 ≤ b ∧ b ≤ 2147483647
section
variable {P : Pr} {d k : Nat} {h : Hu} {Q : U → Hu → Prop}
theorem get_set {o : OU} {i j : Nat} : (h.set i o)[j]? = if i = j ∧ i < h.length then some o else h[j]? := by
  rw [List.getElem?_set]
  by_cases c : i = j
  · subst c
    by_cases l : i < h.length
    · simp [l]
    · simp [l]
  · simp [c]
theorem get_set_eq {o o' : OU} {i : Nat} (e : h[i]? = some o') : (h.set i o)[i]? = some o := by
  have := (List.getElem?_eq_some_iff.mp e).1
  rw [List.getElem?_set_self this]
theorem get_set_ne {o : OU} {i j : Nat} (n : i ≠ j) : (h.set i o)[j]? = h[j]? := List.getElem?_set_ne n
theorem get_app {o o' : OU} {i : Nat} (e : h[i]? = some o) : (h ++ [o'])[i]? = some o := by
  rw [List.getElem?_append_left (List.getElem?_eq_some_iff.mp e).1]; exact e
theorem pot_mod (z : Int) {m : Int} (h0 : 0 < m) (h1 : m ≤ 2147483647) : PotB (z % m) := by
  have a := Int.emod_nonneg z (b := m) (by omega)
  have b := Int.emod_lt_of_pos z h0
  exact ⟨a, by omega⟩
def drawB (k c m e : Int) : Ss := (.cons (.ifS (.cmp .gt (.ix (.var 0) (.cst (.int 0))) (.cst (.int 0))) (.cons (.asg (.tup (.cons (.sub (.var 0) (.cst (.int 0))) (.cons (.name 2) .nil))) (.bc .divmod2 (.cons (.ix (.var 0) (.cst (.int 0))) (.cons (.var 1) .nil))))
  (.cons (.ret (.var 2))
  .nil)) .nil)
  (.cons (.asg (.sub (.var 0) (.cst (.int 1))) (.bin .mod (.bc .int1 (.cons (.bin .add (.bin .mul (.ix (.var 0) (.cst (.int 1))) (.cst (.int k))) (.cst (.int c))) .nil)) (.cst (.int m))))
  (.cons (.ret (.bin .mod (.bc .int1 (.cons (.bin .fdiv (.bin .mod (.bc .int1 (.cons (.bin .mul (.ix (.var 0) (.cst (.int 1))) (.ix (.var 0) (.cst (.int 1)))) .nil)) (.cst (.int 2147483549))) (.cst (.int e))) .nil)) (.var 1)))
  .nil)))
def pickB (n : Nat) : Ss := (.cons (.ret (.ix (.var 1) (.call n (.cons (.var 0) (.cons (.bc .len1 (.cons (.var 1) .nil)) .nil)) [])))
  .nil)
theorem draw_ok {kk c m e : Int} (ef : P.fs[k]? = some ⟨2, 3, drawB kk c m e⟩) (hk : -(2 ^ 64) < kk ∧ kk < 2 ^ 64) (hm : 0 < m ∧ m ≤ 2147483647) (he : 0 < e ∧ e < 1073741824) {p : Nat} {a b z : Int} (hp : h[p]? = some (.lst [.int a, .int b])) (hb : PotB b) (h0 : 0 < z) (h1 : z < 1073741824)
    (q : ∀ r a' b', 0 ≤ r → r < z → PotB b' → Q (.int r) (h.set p (.lst [.int a', .int b']))) : Ok (callN P 0 (d + 1) k [.ref p, .int z] h) Q := by
  rw [Ok_call ⟨2, 3, drawB kk c m e⟩ [some (.ref p), some (.int z), none] ef rfl rfl]
  unfold drawB
  by_cases g : 0 < a
  · simp -dsimp (maxSteps := 1000000) (disch := first | assumption | omega | (simp only [List.length_cons, List.length_nil, List.length_append, List.length_map, List.length_take, List.length_drop, List.length_set, List.length_range, List.length_reverse] <;> omega) | rfl | decide) only [OkS_cons, OkS_nil, OkS_nx, OkS_rt, OkS_bk, OkS_ct, OkS_toS, OkS_if, Ok_bind, Ok_bindN, Ok_nx, Ok_ok, Ok_ofS, S_expr, S_asg, S_ret, S_retN, S_pass, S_brk, S_cont, S_for, S_par, par2, par3, cst_int, cst_non, cst_bl, cst_str, ofW, ofWs, E_cst, E_glo, E_var, E_mut, E_bin, E_neg, E_not, E_cmp, E_fld, E_ix, E_rev, E_slc, E_lst, E_tup, E_dic0, E_call, E_make, E_meth, E_callv, E_bc, E_bm, bmX_l, bmX_d, kindU_ref, E_isi, E_rngL, E_sset, E_comp, evEs, T_cst, T_glo, T_var, T_bin, T_neg, T_fld, T_ix, T_rev, T_slc, T_lst, T_tup, T_call, T_make, T_meth, T_callv, T_bc, T_bm, T_isi, T_comp, T_not, T_and, T_or, T_ife, T_cmp, T_cmp2, isB_bl, E_and, E_or, E_ife, E_cmp2, evO, evC, evI, evG, evGs, wipeS, permU, calN_call, calN_cs, getS_0, getS_s, newL_c, newT_c, tru_bl, tru_int, tru_non, tru_lst, tru_tup, bin_add, bin_sub, bin_mulc, bin_fdivc, bin_mod, bin_addL, cmp_lt, cmp_le, cmp_gt, cmp_ge, cmp_isN, cmp_isnN, isNon_non, isNon_int, isNon_tup, isNon_lst, isNon_ref, isNon_bl, cmp_eqI, cmp_neI, cmp_eq, cmp_ne, cmpEq_n, eqD_if, own_ref, der_ref, id_b, own_lst, own_tup, own_non, own_bl, own_int, own_str, der_lst, der_tup, der_non, der_int, der_bl, der_str, isD_int, isD_bl, isD_non, isD_bstr, isD_tup, isD_lst, eqv_int, eqv_bl, eqv_non, eqv_str, eqv_lst, eqv_tup, eqvs_nil, eqvs_nc, eqvs_cn, eqvs_cc, eqvs_n, eqv_ni, eqv_in, bc_int, bc_abs, bc_max, bc_min, bc_divmod, bc_len, bc_lenF, bc_lenT, bc_list, bc_listT, bc_tuple, rep_bl, ix_lst, ix_tup, ix_frz, at_0, at_1, at_2, at_3, at_4, slc_lst, rev_lst, fldU, setFld, methOf, putF, isiU, isOne, tyName, thaw, isFr, Mi.tgsL, List.contains_cons, List.contains_nil, List.length_cons, List.length_nil, List.length_append, List.length_map, List.set_cons_zero, List.set_cons_succ, List.lookup_cons, List.lookup_nil, Option.map_some, Bool.not_true, Bool.not_false, Nat.reduceBEq, Nat.reduceEqDiff, Nat.reduceAdd, Nat.reduceLT, Int.reduceEq, Int.reduceNe, Int.reduceLT, Int.reduceLE, if_true, if_false, reduceIte, decide_true, decide_false, decide_eq_true_eq, Bool.false_eq_true, Bool.and_true, Bool.true_and, Bool.and_false, Bool.false_and, Bool.or_true, Bool.or_false, Bool.true_or, Bool.false_or, beq_self_eq_true, Nat.zero_add, List.nil_append, List.isEmpty_nil, List.isEmpty_cons, and_self, true_and, and_true, eq_self, bt_beq, reduceCtorEq, List.set_set, List.all_nil, List.all_cons, List.all_append, set_app, get_app_eq, cut_tl, List.length_set, len_ref_a, list_ref_a, seq_ref_a, lsf_ref_a, dic_ref_a, lst_ref_a, seq_lst, seq_tup, lsf_lst, ix_ref_a, slc_ref_a, rev_ref_a, app_ref_a, appX_l, setIx_ref_a, bin_addX, addU, lstU, List.getElem?_set_ne, List.getElem?_set_self, List.getElem?_append_left, get_app_len, set_app_len, ix_ref hp, g, set_l0 hp]
    exact q _ _ _ (Int.emod_nonneg _ (by omega)) (Int.emod_lt_of_pos _ h0) hb
  · obtain ⟨b', eb⟩ : ∃ b', b' = (b * kk + c) % m := ⟨_, rfl⟩
    have hb' : PotB b' := eb ▸ pot_mod _ hm.1 hm.2
    have hm2 : L2.CMul b' b' := .inl ⟨by have := hb'.1; have := hb'.2; omega, by have := hb'.1; have := hb'.2; omega⟩
    have hm3 : 0 < m := hm.1
    simp -dsimp (maxSteps := 1000000) (disch := first | assumption | omega | (simp only [List.length_cons, List.length_nil, List.length_append, List.length_map, List.length_take, List.length_drop, List.length_set, List.length_range, List.length_reverse] <;> omega) | rfl | decide) only [OkS_cons, OkS_nil, OkS_nx, OkS_rt, OkS_bk, OkS_ct, OkS_toS, OkS_if, Ok_bind, Ok_bindN, Ok_nx, Ok_ok, Ok_ofS, S_expr, S_asg, S_ret, S_retN, S_pass, S_brk, S_cont, S_for, S_par, par2, par3, cst_int, cst_non, cst_bl, cst_str, ofW, ofWs, E_cst, E_glo, E_var, E_mut, E_bin, E_neg, E_not, E_cmp, E_fld, E_ix, E_rev, E_slc, E_lst, E_tup, E_dic0, E_call, E_make, E_meth, E_callv, E_bc, E_bm, bmX_l, bmX_d, kindU_ref, E_isi, E_rngL, E_sset, E_comp, evEs, T_cst, T_glo, T_var, T_bin, T_neg, T_fld, T_ix, T_rev, T_slc, T_lst, T_tup, T_call, T_make, T_meth, T_callv, T_bc, T_bm, T_isi, T_comp, T_not, T_and, T_or, T_ife, T_cmp, T_cmp2, isB_bl, E_and, E_or, E_ife, E_cmp2, evO, evC, evI, evG, evGs, wipeS, permU, calN_call, calN_cs, getS_0, getS_s, newL_c, newT_c, tru_bl, tru_int, tru_non, tru_lst, tru_tup, bin_add, bin_sub, bin_mulc, bin_fdivc, bin_mod, bin_addL, cmp_lt, cmp_le, cmp_gt, cmp_ge, cmp_isN, cmp_isnN, isNon_non, isNon_int, isNon_tup, isNon_lst, isNon_ref, isNon_bl, cmp_eqI, cmp_neI, cmp_eq, cmp_ne, cmpEq_n, eqD_if, own_ref, der_ref, id_b, own_lst, own_tup, own_non, own_bl, own_int, own_str, der_lst, der_tup, der_non, der_int, der_bl, der_str, isD_int, isD_bl, isD_non, isD_bstr, isD_tup, isD_lst, eqv_int, eqv_bl, eqv_non, eqv_str, eqv_lst, eqv_tup, eqvs_nil, eqvs_nc, eqvs_cn, eqvs_cc, eqvs_n, eqv_ni, eqv_in, bc_int, bc_abs, bc_max, bc_min, bc_divmod, bc_len, bc_lenF, bc_lenT, bc_list, bc_listT, bc_tuple, rep_bl, ix_lst, ix_tup, ix_frz, at_0, at_1, at_2, at_3, at_4, slc_lst, rev_lst, fldU, setFld, methOf, putF, isiU, isOne, tyName, thaw, isFr, Mi.tgsL, List.contains_cons, List.contains_nil, List.length_cons, List.length_nil, List.length_append, List.length_map, List.set_cons_zero, List.set_cons_succ, List.lookup_cons, List.lookup_nil, Option.map_some, Bool.not_true, Bool.not_false, Nat.reduceBEq, Nat.reduceEqDiff, Nat.reduceAdd, Nat.reduceLT, Int.reduceEq, Int.reduceNe, Int.reduceLT, Int.reduceLE, if_true, if_false, reduceIte, decide_true, decide_false, decide_eq_true_eq, Bool.false_eq_true, Bool.and_true, Bool.true_and, Bool.and_false, Bool.false_and, Bool.or_true, Bool.or_false, Bool.true_or, Bool.false_or, beq_self_eq_true, Nat.zero_add, List.nil_append, List.isEmpty_nil, List.isEmpty_cons, and_self, true_and, and_true, eq_self, bt_beq, reduceCtorEq, List.set_set, List.all_nil, List.all_cons, List.all_append, set_app, get_app_eq, cut_tl, List.length_set, len_ref_a, list_ref_a, seq_ref_a, lsf_ref_a, dic_ref_a, lst_ref_a, seq_lst, seq_tup, lsf_lst, ix_ref_a, slc_ref_a, rev_ref_a, app_ref_a, appX_l, setIx_ref_a, bin_addX, addU, lstU, List.getElem?_set_ne, List.getElem?_set_self, List.getElem?_append_left, get_app_len, set_app_len, ix_ref hp, g, set_l1 hp, bin_mul (.inr hk), ← eb, ix_ref (get_set_eq hp), bin_mul hm2, bin_fdivc he]
    exact q _ _ _ (Int.emod_nonneg _ (by omega)) (Int.emod_lt_of_pos _ h0) hb'
theorem pick_ok {n : Nat} {kk c m e : Int} (ef : P.fs[k]? = some ⟨2, 2, pickB n⟩) (en : P.fs[n]? = some ⟨2, 3, drawB kk c m e⟩) (hk : -(2 ^ 64) < kk ∧ kk < 2 ^ 64) (hm : 0 < m ∧ m ≤ 2147483647) (he : 0 < e ∧ e < 1073741824) {p : Nat} {a b : Int} {us : List U} (hp : h[p]? = some (.lst [.int a, .int b])) (hb : PotB b) (h0 : 0 < us.length) (h1 : us.length < 1000)
    (q : ∀ v a' b', v ∈ us → PotB b' → Q v (h.set p (.lst [.int a', .int b']))) : Ok (callN P 0 (d + 2) k [.ref p, .lst us] h) Q := by
  rw [Ok_call ⟨2, 2, pickB n⟩ [some (.ref p), some (.lst us)] ef rfl rfl]
  unfold pickB
  simp -dsimp (maxSteps := 1000000) (disch := first | assumption | omega | (simp only [List.length_cons, List.length_nil, List.length_append, List.length_map, List.length_take, List.length_drop, List.length_set, List.length_range, List.length_reverse] <;> omega) | rfl | decide) only [OkS_cons, OkS_nil, OkS_nx, OkS_rt, OkS_bk, OkS_ct, OkS_toS, OkS_if, Ok_bind, Ok_bindN, Ok_nx, Ok_ok, Ok_ofS, S_expr, S_asg, S_ret, S_retN, S_pass, S_brk, S_cont, S_for, S_par, par2, par3, cst_int, cst_non, cst_bl, cst_str, ofW, ofWs, E_cst, E_glo, E_var, E_mut, E_bin, E_neg, E_not, E_cmp, E_fld, E_ix, E_rev, E_slc, E_lst, E_tup, E_dic0, E_call, E_make, E_meth, E_callv, E_bc, E_bm, bmX_l, bmX_d, kindU_ref, E_isi, E_rngL, E_sset, E_comp, evEs, T_cst, T_glo, T_var, T_bin, T_neg, T_fld, T_ix, T_rev, T_slc, T_lst, T_tup, T_call, T_make, T_meth, T_callv, T_bc, T_bm, T_isi, T_comp, T_not, T_and, T_or, T_ife, T_cmp, T_cmp2, isB_bl, E_and, E_or, E_ife, E_cmp2, evO, evC, evI, evG, evGs, wipeS, permU, calN_call, calN_cs, getS_0, getS_s, newL_c, newT_c, tru_bl, tru_int, tru_non, tru_lst, tru_tup, bin_add, bin_sub, bin_mulc, bin_fdivc, bin_mod, bin_addL, cmp_lt, cmp_le, cmp_gt, cmp_ge, cmp_isN, cmp_isnN, isNon_non, isNon_int, isNon_tup, isNon_lst, isNon_ref, isNon_bl, cmp_eqI, cmp_neI, cmp_eq, cmp_ne, cmpEq_n, eqD_if, own_ref, der_ref, id_b, own_lst, own_tup, own_non, own_bl, own_int, own_str, der_lst, der_tup, der_non, der_int, der_bl, der_str, isD_int, isD_bl, isD_non, isD_bstr, isD_tup, isD_lst, eqv_int, eqv_bl, eqv_non, eqv_str, eqv_lst, eqv_tup, eqvs_nil, eqvs_nc, eqvs_cn, eqvs_cc, eqvs_n, eqv_ni, eqv_in, bc_int, bc_abs, bc_max, bc_min, bc_divmod, bc_len, bc_lenF, bc_lenT, bc_list, bc_listT, bc_tuple, rep_bl, ix_lst, ix_tup, ix_frz, at_0, at_1, at_2, at_3, at_4, slc_lst, rev_lst, fldU, setFld, methOf, putF, isiU, isOne, tyName, thaw, isFr, Mi.tgsL, List.contains_cons, List.contains_nil, List.length_cons, List.length_nil, List.length_append, List.length_map, List.set_cons_zero, List.set_cons_succ, List.lookup_cons, List.lookup_nil, Option.map_some, Bool.not_true, Bool.not_false, Nat.reduceBEq, Nat.reduceEqDiff, Nat.reduceAdd, Nat.reduceLT, Int.reduceEq, Int.reduceNe, Int.reduceLT, Int.reduceLE, if_true, if_false, reduceIte, decide_true, decide_false, decide_eq_true_eq, Bool.false_eq_true, Bool.and_true, Bool.true_and, Bool.and_false, Bool.false_and, Bool.or_true, Bool.or_false, Bool.true_or, Bool.false_or, beq_self_eq_true, Nat.zero_add, List.nil_append, List.isEmpty_nil, List.isEmpty_cons, and_self, true_and, and_true, eq_self, bt_beq, reduceCtorEq, List.set_set, List.all_nil, List.all_cons, List.all_append, set_app, get_app_eq, cut_tl, List.length_set, len_ref_a, list_ref_a, seq_ref_a, lsf_ref_a, dic_ref_a, lst_ref_a, seq_lst, seq_tup, lsf_lst, ix_ref_a, slc_ref_a, rev_ref_a, app_ref_a, appX_l, setIx_ref_a, bin_addX, addU, lstU, List.getElem?_set_ne, List.getElem?_set_self, List.getElem?_append_left, get_app_len, set_app_len]
  refine draw_ok en hk hm he hp hb (by omega) (by omega) fun r a' b' r0 r1 hb' => ?_
  have lt : r.toNat < us.length := by omega
  simp -dsimp (maxSteps := 1000000) (disch := first | assumption | omega | (simp only [List.length_cons, List.length_nil, List.length_append, List.length_map, List.length_take, List.length_drop, List.length_set, List.length_range, List.length_reverse] <;> omega) | rfl | decide) only [OkS_cons, OkS_nil, OkS_nx, OkS_rt, OkS_bk, OkS_ct, OkS_toS, OkS_if, Ok_bind, Ok_bindN, Ok_nx, Ok_ok, Ok_ofS, S_expr, S_asg, S_ret, S_retN, S_pass, S_brk, S_cont, S_for, S_par, par2, par3, cst_int, cst_non, cst_bl, cst_str, ofW, ofWs, E_cst, E_glo, E_var, E_mut, E_bin, E_neg, E_not, E_cmp, E_fld, E_ix, E_rev, E_slc, E_lst, E_tup, E_dic0, E_call, E_make, E_meth, E_callv, E_bc, E_bm, bmX_l, bmX_d, kindU_ref, E_isi, E_rngL, E_sset, E_comp, evEs, T_cst, T_glo, T_var, T_bin, T_neg, T_fld, T_ix, T_rev, T_slc, T_lst, T_tup, T_call, T_make, T_meth, T_callv, T_bc, T_bm, T_isi, T_comp, T_not, T_and, T_or, T_ife, T_cmp, T_cmp2, isB_bl, E_and, E_or, E_ife, E_cmp2, evO, evC, evI, evG, evGs, wipeS, permU, calN_call, calN_cs, getS_0, getS_s, newL_c, newT_c, tru_bl, tru_int, tru_non, tru_lst, tru_tup, bin_add, bin_sub, bin_mulc, bin_fdivc, bin_mod, bin_addL, cmp_lt, cmp_le, cmp_gt, cmp_ge, cmp_isN, cmp_isnN, isNon_non, isNon_int, isNon_tup, isNon_lst, isNon_ref, isNon_bl, cmp_eqI, cmp_neI, cmp_eq, cmp_ne, cmpEq_n, eqD_if, own_ref, der_ref, id_b, own_lst, own_tup, own_non, own_bl, own_int, own_str, der_lst, der_tup, der_non, der_int, der_bl, der_str, isD_int, isD_bl, isD_non, isD_bstr, isD_tup, isD_lst, eqv_int, eqv_bl, eqv_non, eqv_str, eqv_lst, eqv_tup, eqvs_nil, eqvs_nc, eqvs_cn, eqvs_cc, eqvs_n, eqv_ni, eqv_in, bc_int, bc_abs, bc_max, bc_min, bc_divmod, bc_len, bc_lenF, bc_lenT, bc_list, bc_listT, bc_tuple, rep_bl, ix_lst, ix_tup, ix_frz, at_0, at_1, at_2, at_3, at_4, slc_lst, rev_lst, fldU, setFld, methOf, putF, isiU, isOne, tyName, thaw, isFr, Mi.tgsL, List.contains_cons, List.contains_nil, List.length_cons, List.length_nil, List.length_append, List.length_map, List.set_cons_zero, List.set_cons_succ, List.lookup_cons, List.lookup_nil, Option.map_some, Bool.not_true, Bool.not_false, Nat.reduceBEq, Nat.reduceEqDiff, Nat.reduceAdd, Nat.reduceLT, Int.reduceEq, Int.reduceNe, Int.reduceLT, Int.reduceLE, if_true, if_false, reduceIte, decide_true, decide_false, decide_eq_true_eq, Bool.false_eq_true, Bool.and_true, Bool.true_and, Bool.and_false, Bool.false_and, Bool.or_true, Bool.or_false, Bool.true_or, Bool.false_or, beq_self_eq_true, Nat.zero_add, List.nil_append, List.isEmpty_nil, List.isEmpty_cons, and_self, true_and, and_true, eq_self, bt_beq, reduceCtorEq, List.set_set, List.all_nil, List.all_cons, List.all_append, set_app, get_app_eq, cut_tl, List.length_set, len_ref_a, list_ref_a, seq_ref_a, lsf_ref_a, dic_ref_a, lst_ref_a, seq_lst, seq_tup, lsf_lst, ix_ref_a, slc_ref_a, rev_ref_a, app_ref_a, appX_l, setIx_ref_a, bin_addX, addU, lstU, List.getElem?_set_ne, List.getElem?_set_self, List.getElem?_append_left, get_app_len, set_app_len, atI_of r0 (List.getElem?_eq_getElem lt)]
  exact q _ _ _ (List.getElem_mem lt) hb'
end
end Mu

set_option Elab.async false
set_option linter.all false
set_option maxRecDepth 100000
set_option maxHeartbeats 0
/-! The bodies of k71. -/
namespace Lawk71
open PySem Mi

/-- is_integer -/
def b0 : Ss := (.cons (.ret (.andE (.isi (.var 0) false [.bi .int]) (.notE (.isi (.var 0) false [.bi .bool]))))
  .nil)
/-- is_count -/
def b1 : Ss := (.cons (.ret (.andE (.call 0 (.cons (.var 0) .nil) []) (.cmp .ge (.var 0) (.cst (.int 0)))))
  .nil)
/-- want_many -/
def b2 : Ss := (.cons (.ifS (.orE (.notE (.call 1 (.cons (.var 0) .nil) [])) (.notE (.cmp2 .le .le (.var 1) (.var 0) (.var 2)))) (.cons .never
  .nil) .nil)
  .nil)
/-- want_number -/
def b3 : Ss := (.cons (.ifS (.notE (.call 1 (.cons (.var 0) .nil) [])) (.cons .never
  .nil) .nil)
  .nil)
/-- Orders.__init__ -/
def b4 : Ss := (.cons (.expr (.call 2 (.cons (.var 1) (.cons (.cst (.int 1)) (.cons (.glo (.int 32)) .nil))) []))
  (.cons (.asg (.fld (.var 0) 0) (.var 1))
  (.cons (.asg (.fld (.var 0) 1) (.cst (.int 0)))
  (.cons (.asg (.fld (.var 0) 2) (.lst .nil))
  (.cons (.asg (.fld (.var 0) 3) (.lst .nil))
  .nil)))))
/-- Orders.many -/
def b5 : Ss := (.cons (.ret (.fld (.var 0) 0))
  .nil)
/-- Orders.held -/
def b6 : Ss := (.cons (.ret (.bc .len1 (.cons (.fld (.var 0) 2) .nil)))
  .nil)
/-- Orders.upcoming -/
def b7 : Ss := (.cons (.ret (.bin .add (.fld (.var 0) 1) (.bc .len1 (.cons (.fld (.var 0) 2) .nil))))
  .nil)
/-- Orders.numbers -/
def b8 : Ss := (.cons (.ret (.rngL false (.cons (.fld (.var 0) 1) (.cons (.bin .add (.fld (.var 0) 1) (.bc .len1 (.cons (.fld (.var 0) 2) .nil))) .nil))))
  .nil)
/-- Orders.oldest -/
def b9 : Ss := (.cons (.ret (.ife (.cmp .ne (.fld (.var 0) 2) (.lst .nil)) (.fld (.var 0) 1) (.cst .non)))
  .nil)
/-- Orders.position_of -/
def b10 : Ss := (.cons (.expr (.call 3 (.cons (.var 1) .nil) []))
  (.cons (.ifS (.notE (.cmp2 .le .lt (.fld (.var 0) 1) (.var 1) (.bin .add (.fld (.var 0) 1) (.bc .len1 (.cons (.fld (.var 0) 2) .nil))))) (.cons .never
  .nil) .nil)
  (.cons (.ret (.bin .sub (.var 1) (.fld (.var 0) 1)))
  .nil)))
/-- Orders.entered -/
def b11 : Ss := (.cons (.ifS (.cmp .eq (.bc .len1 (.cons (.fld (.var 0) 2) .nil)) (.fld (.var 0) 0)) (.cons .never
  .nil) .nil)
  (.cons (.asg (.fld (.var 0) 2) (.bin .add (.fld (.var 0) 2) (.lst (.cons (.var 1) .nil))))
  (.cons (.asg (.fld (.var 0) 3) (.bin .add (.fld (.var 0) 3) (.lst (.cons (.cst (.bl false)) .nil))))
  (.cons (.ret (.bin .sub (.bin .add (.fld (.var 0) 1) (.bc .len1 (.cons (.fld (.var 0) 2) .nil))) (.cst (.int 1))))
  .nil))))
/-- Orders.thing -/
def b12 : Ss := (.cons (.ret (.ix (.fld (.var 0) 2) (.meth (.var 0) 4 (.cons (.var 1) .nil) [])))
  .nil)
/-- Orders.is_done -/
def b13 : Ss := (.cons (.ret (.ix (.fld (.var 0) 3) (.meth (.var 0) 4 (.cons (.var 1) .nil) [])))
  .nil)
/-- Orders.done -/
def b14 : Ss := (.cons (.asg (.name 2) (.meth (.var 0) 4 (.cons (.var 1) .nil) []))
  (.cons (.ifS (.ix (.fld (.var 0) 3) (.var 2)) (.cons .never
  .nil) .nil)
  (.cons (.asg (.fld (.var 0) 3) (.bin .add (.bin .add (.slc (.fld (.var 0) 3) .none (.some (.var 2))) (.lst (.cons (.cst (.bl true)) .nil))) (.slc (.fld (.var 0) 3) (.some (.bin .add (.var 2) (.cst (.int 1)))) .none)))
  .nil)))
/-- Orders.left -/
def b15 : Ss := (.cons (.ifS (.cmp .ne (.slc (.fld (.var 0) 3) .none (.some (.cst (.int 1)))) (.lst (.cons (.cst (.bl true)) .nil))) (.cons .never
  .nil) .nil)
  (.cons (.asg (.name 1) (.tup (.cons (.fld (.var 0) 1) (.cons (.ix (.fld (.var 0) 2) (.cst (.int 0))) .nil))))
  (.cons (.asg (.fld (.var 0) 1) (.bin .add (.fld (.var 0) 1) (.cst (.int 1))))
  (.cons (.asg (.fld (.var 0) 2) (.slc (.fld (.var 0) 2) (.some (.cst (.int 1))) .none))
  (.cons (.asg (.fld (.var 0) 3) (.slc (.fld (.var 0) 3) (.some (.cst (.int 1))) .none))
  (.cons (.ret (.var 1))
  .nil))))))
/-- Orders.dropped -/
def b16 : Ss := (.cons (.expr (.call 3 (.cons (.var 1) .nil) []))
  (.cons (.asg (.name 2) (.bc .min2 (.cons (.bc .max2 (.cons (.cst (.int 0)) (.cons (.bin .sub (.var 1) (.fld (.var 0) 1)) .nil))) (.cons (.bc .len1 (.cons (.fld (.var 0) 2) .nil)) .nil))))
  (.cons (.asg (.name 3) (.comp (.tup (.cons (.bin .add (.fld (.var 0) 1) (.var 4)) (.cons (.ix (.fld (.var 0) 2) (.var 4)) .nil))) (.name 4) (.rng2 (.var 2) (.bc .len1 (.cons (.fld (.var 0) 2) .nil))) .none [4]))
  (.cons (.asg (.fld (.var 0) 2) (.slc (.fld (.var 0) 2) .none (.some (.var 2))))
  (.cons (.asg (.fld (.var 0) 3) (.slc (.fld (.var 0) 3) .none (.some (.var 2))))
  (.cons (.ret (.rev (.var 3)))
  .nil))))))
/-- Orders.copy -/
def b17 : Ss := (.cons (.asg (.name 1) (.make 0 (.cons (.fld (.var 0) 0) .nil) []))
  (.cons (.asg (.fld (.var 1) 1) (.fld (.var 0) 1))
  (.cons (.asg (.fld (.var 1) 2) (.bc .list1 (.cons (.fld (.var 0) 2) .nil)))
  (.cons (.asg (.fld (.var 1) 3) (.bc .list1 (.cons (.fld (.var 0) 3) .nil)))
  (.cons (.ret (.var 1))
  .nil)))))
/-- Orders.__eq__ -/
def b18 : Ss := (.cons (.ifS (.orE (.notE (.isi (.var 1) false [.own 0])) (.orE (.cmp .ne (.fld (.var 0) 0) (.fld (.var 1) 0)) (.cmp .ne (.fld (.var 0) 1) (.fld (.var 1) 1)))) (.cons (.ret (.cst (.bl false)))
  .nil) .nil)
  (.cons (.ret (.andE (.cmp .eq (.fld (.var 0) 2) (.fld (.var 1) 2)) (.cmp .eq (.fld (.var 0) 3) (.fld (.var 1) 3))))
  .nil))
/-- _law_pot -/
def b19 : Ss := (.cons (.asg (.name 2) (.ife (.cmp .lt (.var 1) (.bc .len1 (.cons (.var 0) .nil))) (.bc .abs1 (.cons (.ix (.var 0) (.var 1)) .nil)) (.bin .add (.bin .mul (.cst (.int 971)) (.var 1)) (.cst (.int 659)))))
  (.cons (.asg (.name 3) (.bin .add (.bin .mod (.bc .int1 (.cons (.bin .add (.bin .add (.bin .mul (.bin .mod (.bc .int1 (.cons (.var 2) .nil)) (.cst (.int 2147483549))) (.cst (.int 41189))) (.bin .mul (.cst (.int 7069)) (.var 1))) (.cst (.int 607))) .nil)) (.cst (.int 2147483563))) (.cst (.int 1))))
  (.cons (.ret (.mut (.lst (.cons (.bc .max2 (.cons (.cst (.int 0)) (.cons (.bin .sub (.var 2) (.bin .pow (.cst (.int 10)) (.cst (.int 18)))) .nil))) (.cons (.var 3) .nil)))))
  .nil)))
/-- _law_draw -/
def b20 : Ss := (.cons (.ifS (.cmp .gt (.ix (.var 0) (.cst (.int 0))) (.cst (.int 0))) (.cons (.asg (.tup (.cons (.sub (.var 0) (.cst (.int 0))) (.cons (.name 2) .nil))) (.bc .divmod2 (.cons (.ix (.var 0) (.cst (.int 0))) (.cons (.var 1) .nil))))
  (.cons (.ret (.var 2))
  .nil)) .nil)
  (.cons (.asg (.sub (.var 0) (.cst (.int 1))) (.bin .mod (.bc .int1 (.cons (.bin .add (.bin .mul (.ix (.var 0) (.cst (.int 1))) (.cst (.int 40543))) (.cst (.int 30047))) .nil)) (.cst (.int 2147483563))))
  (.cons (.ret (.bin .mod (.bc .int1 (.cons (.bin .fdiv (.bin .mod (.bc .int1 (.cons (.bin .mul (.ix (.var 0) (.cst (.int 1))) (.ix (.var 0) (.cst (.int 1)))) .nil)) (.cst (.int 2147483549))) (.cst (.int 23))) .nil)) (.var 1)))
  .nil)))
/-- _law_pick -/
def b21 : Ss := (.cons (.ret (.ix (.var 1) (.call 20 (.cons (.var 0) (.cons (.bc .len1 (.cons (.var 1) .nil)) .nil)) [])))
  .nil)
/-- _law_seen -/
def b22 : Ss := (.cons (.ifS (.orE (.cmp .ne (.meth (.var 0) 6 .nil []) (.comp (.bin .add (.var 2) (.var 4)) (.name 4) (.rng1 (.bc .len1 (.cons (.var 1) .nil))) .none [4])) (.cmp .ne (.fld (.var 0) 5) (.var 3))) (.cons (.ret (.cst (.bl false)))
  .nil) .nil)
  (.cons (.ifS (.cmp .ne (.lst (.cons (.fld (.var 0) 8) (.cons (.fld (.var 0) 7) .nil))) (.lst (.cons (.bc .len1 (.cons (.var 1) .nil)) (.cons (.bin .add (.var 2) (.bc .len1 (.cons (.var 1) .nil))) .nil)))) (.cons (.ret (.cst (.bl false)))
  .nil) .nil)
  (.cons (.ifS (.cmp .ne (.meth (.var 0) 9 .nil []) (.ife (.cmp .ne (.var 1) (.lst .nil)) (.var 2) (.cst .non))) (.cons (.ret (.cst (.bl false)))
  .nil) .nil)
  (.cons (.forS (.tup (.cons (.name 4) (.cons (.tup (.cons (.name 5) (.cons (.name 6) .nil))) .nil))) (.enm (.var 1)) (.cons (.ifS (.cmp .ne (.meth (.var 0) 10 (.cons (.bin .add (.var 2) (.var 4)) .nil) []) (.var 5)) (.cons (.ret (.cst (.bl false)))
  .nil) .nil)
  (.cons (.ifS (.cmp .ne (.bc .repr1 (.cons (.meth (.var 0) 11 (.cons (.bin .add (.var 2) (.var 4)) .nil) []) .nil)) (.bc .repr1 (.cons (.var 6) .nil))) (.cons (.ret (.cst (.bl false)))
  .nil) .nil)
  .nil)))
  (.cons (.ret (.cst (.bl true)))
  .nil)))))
/-- _law_drop -/
def b23 : Ss := (.cons (.asg (.name 4) (.meth (.var 0) 12 (.cons (.var 3) .nil) []))
  (.cons (.asg (.name 5) (.bc .max2 (.cons (.cst (.int 0)) (.cons (.bin .sub (.var 3) (.var 2)) .nil))))
  (.cons (.asg (.name 6) (.comp (.tup (.cons (.bin .add (.var 2) (.var 7)) (.cons (.var 8) .nil))) (.tup (.cons (.name 7) (.cons (.tup (.cons (.name 8) (.cons (.name 9) .nil))) .nil))) (.enm (.var 1)) (.some (.cmp .ge (.var 7) (.var 5))) [7, 8, 9]))
  (.cons (.ret (.cmp .eq (.var 4) (.rev (.var 6))))
  .nil))))
/-- _law_right -/
def b24 : Ss := (.cons (.asg (.name 1) (.bin .add (.cst (.int 1)) (.call 20 (.cons (.var 0) (.cons (.cst (.int 6)) .nil)) [])))
  (.cons (.asg (.tup (.cons (.name 2) (.cons (.name 3) (.cons (.name 4) (.cons (.name 5) .nil))))) (.tup (.cons (.make 0 (.cons (.var 1) .nil) []) (.cons (.mut (.lst .nil)) (.cons (.cst (.int 0)) (.cons (.cst (.int 0)) .nil))))))
  (.cons (.par [6, 7, 8] (.cons (.mut (.lst .nil)) (.cons (.mut (.lst .nil)) (.cons (.cst .non) .nil))))
  (.cons (.forS (.name 9) (.rng1 (.bin .add (.cst (.int 14)) (.call 20 (.cons (.var 0) (.cons (.cst (.int 21)) .nil)) []))) (.cons (.asg (.name 10) (.call 21 (.cons (.var 0) (.cons (.lst (.cons (.cst (.int 0)) (.cons (.cst (.int 0)) (.cons (.cst (.int 0)) (.cons (.cst (.int 1)) (.cons (.cst (.int 1)) (.cons (.cst (.int 2)) (.cons (.cst (.int 2)) (.cons (.cst (.int 3)) (.cons (.cst (.int 4)) .nil)))))))))) .nil)) []))
  (.cons (.ifS (.andE (.cmp .eq (.var 10) (.cst (.int 0))) (.cmp .lt (.bc .len1 (.cons (.var 3) .nil)) (.var 1))) (.cons (.ifS (.cmp .ne (.meth (.var 2) 13 (.cons (.lst (.cons (.var 5) .nil)) .nil) []) (.bin .add (.var 4) (.bc .len1 (.cons (.var 3) .nil)))) (.cons (.ret (.cst (.bl false)))
  .nil) .nil)
  (.cons (.expr (.bm .append1 (.var 3) (.cons (.tup (.cons (.lst (.cons (.var 5) .nil)) (.cons (.cst (.bl false)) .nil))) .nil)))
  (.cons (.expr (.bm .append1 (.var 6) (.cons (.lst (.cons (.var 5) .nil)) .nil)))
  (.cons (.asg (.name 5) (.bin .add (.var 5) (.cst (.int 1))))
  .nil)))) (.cons (.ifS (.andE (.cmp .eq (.var 10) (.cst (.int 1))) (.cmp .ne (.var 3) (.lst .nil))) (.cons (.asg (.name 11) (.call 20 (.cons (.var 0) (.cons (.bc .len1 (.cons (.var 3) .nil)) .nil)) []))
  (.cons (.ifS (.notE (.ix (.ix (.var 3) (.var 11)) (.cst (.int 1)))) (.cons (.ifS (.cmp .isn (.meth (.var 2) 14 (.cons (.bin .add (.var 4) (.var 11)) .nil) []) (.cst .non)) (.cons (.ret (.cst (.bl false)))
  .nil) .nil)
  (.cons (.asg (.sub (.var 3) (.var 11)) (.tup (.cons (.ix (.ix (.var 3) (.var 11)) (.cst (.int 0))) (.cons (.cst (.bl true)) .nil))))
  .nil)) .nil)
  .nil)) (.cons (.ifS (.andE (.cmp .eq (.var 10) (.cst (.int 2))) (.andE (.cmp .ne (.var 3) (.lst .nil)) (.ix (.ix (.var 3) (.cst (.int 0))) (.cst (.int 1))))) (.cons (.ifS (.cmp .ne (.meth (.var 2) 15 .nil []) (.tup (.cons (.var 4) (.cons (.ix (.ix (.var 3) (.cst (.int 0))) (.cst (.int 0))) .nil)))) (.cons (.ret (.cst (.bl false)))
  .nil) .nil)
  (.cons (.expr (.bm .append1 (.var 7) (.cons (.ix (.ix (.var 3) (.cst (.int 0))) (.cst (.int 0))) .nil)))
  (.cons (.par [4, 3] (.cons (.bin .add (.var 4) (.cst (.int 1))) (.cons (.mut (.slc (.var 3) (.some (.cst (.int 1))) .none)) .nil)))
  .nil))) (.cons (.ifS (.cmp .eq (.var 10) (.cst (.int 3))) (.cons (.asg (.name 12) (.bc .max2 (.cons (.cst (.int 0)) (.cons (.bin .sub (.bin .add (.var 4) (.call 20 (.cons (.var 0) (.cons (.bin .add (.var 1) (.cst (.int 3))) .nil)) [])) (.cst (.int 1))) .nil))))
  (.cons (.ifS (.notE (.call 23 (.cons (.var 2) (.cons (.var 3) (.cons (.var 4) (.cons (.var 12) .nil)))) [])) (.cons (.ret (.cst (.bl false)))
  .nil) .nil)
  (.cons (.asg (.name 13) (.bc .max2 (.cons (.cst (.int 0)) (.cons (.bin .sub (.var 12) (.var 4)) .nil))))
  (.cons (.forS (.tup (.cons (.name 14) (.cons (.name 15) .nil))) (.seq (.slc (.var 3) (.some (.var 13)) .none)) (.cons (.expr (.bm .remove1 (.var 6) (.cons (.var 14) .nil)))
  .nil))
  (.cons (.asg (.name 3) (.mut (.slc (.var 3) .none (.some (.var 13)))))
  .nil))))) (.cons (.ifS (.cmp .eq (.var 10) (.cst (.int 4))) (.cons (.asg (.name 8) (.tup (.cons (.meth (.var 2) 16 .nil []) (.cons (.bc .list1 (.cons (.var 3) .nil)) (.cons (.var 4) .nil)))))
  .nil) .nil)
  .nil))
  .nil))
  .nil))
  .nil))
  (.cons (.ifS (.notE (.call 22 (.cons (.var 2) (.cons (.var 3) (.cons (.var 4) (.cons (.var 1) .nil)))) [])) (.cons (.ret (.cst (.bl false)))
  .nil) .nil)
  .nil))))
  (.cons (.ifS (.andE (.cmp .isn (.var 8) (.cst .non)) (.notE (.call 22 (.cons (.ix (.var 8) (.cst (.int 0))) (.cons (.ix (.var 8) (.cst (.int 1))) (.cons (.ix (.var 8) (.cst (.int 2))) (.cons (.var 1) .nil)))) []))) (.cons (.ret (.cst (.bl false)))
  .nil) .nil)
  (.cons (.ret (.cmp .eq (.bin .add (.var 7) (.comp (.var 14) (.tup (.cons (.name 14) (.cons (.name 15) .nil))) (.seq (.var 3)) .none [14, 15])) (.var 6)))
  .nil))))))
/-- law -/
def b25 : Ss := (.cons (.ret (.call 24 (.cons (.call 19 (.cons (.var 0) (.cons (.cst (.int 0)) .nil)) []) .nil) []))
  .nil)
def fs : List FunI := [⟨1, 1, b0⟩, ⟨1, 1, b1⟩, ⟨3, 3, b2⟩, ⟨1, 1, b3⟩, ⟨2, 2, b4⟩, ⟨1, 1, b5⟩, ⟨1, 1, b6⟩, ⟨1, 1, b7⟩, ⟨1, 1, b8⟩, ⟨1, 1, b9⟩, ⟨2, 2, b10⟩, ⟨2, 2, b11⟩, ⟨2, 2, b12⟩, ⟨2, 2, b13⟩, ⟨2, 3, b14⟩, ⟨1, 2, b15⟩, ⟨2, 5, b16⟩, ⟨1, 2, b17⟩, ⟨2, 2, b18⟩, ⟨2, 4, b19⟩, ⟨2, 3, b20⟩, ⟨2, 2, b21⟩, ⟨4, 7, b22⟩, ⟨4, 10, b23⟩, ⟨1, 16, b24⟩, ⟨1, 1, b25⟩]
def cs : List ClsI := [⟨[(6, 8), (9, 9), (4, 10), (13, 11), (10, 12), (11, 13), (14, 14), (15, 15), (12, 16), (16, 17)], [(5, 5), (8, 6), (7, 7)], 4, none⟩]
def pr : Pr := ⟨fs, cs⟩
theorem cs0 : pr.cs[0]? = some ⟨[(6, 8), (9, 9), (4, 10), (13, 11), (10, 12), (11, 13), (14, 14), (15, 15), (12, 16), (16, 17)], [(5, 5), (8, 6), (7, 7)], 4, none⟩ := rfl
theorem mk0 {d : Nat} {us : List Mu.U} {h : Mu.Hu} {Q : Mu.U → Mu.Hu → Prop} : Mu.Ok (Mu.makeU (Mu.calN pr 0 d) 0 us h) Q ↔ Mu.Ok (Mu.callN pr 0 d 4 (.ref h.length :: us) (h ++ [.ins 0 []])) fun r h1 => Mu.isNon r = true ∧ Q (.ref h.length) h1 := Mu.make_ok (C := Mu.calN pr 0 d) cs0
theorem c0 {d : Nat} {h : Mu.Hu} {Q : Mu.U → Mu.Hu → Prop} {a0 : Mu.U} : Mu.Ok (Mu.callN pr 0 (d + 1) 0 [a0] h) Q ↔ Mu.OkS (Mu.evSs (Mu.calN pr 0 d) b0 [some a0] h) { nx := fun _ h' => Q .non h', rt := Q } := Mu.Ok_call ⟨1, 1, b0⟩ _ rfl rfl rfl
theorem c1 {d : Nat} {h : Mu.Hu} {Q : Mu.U → Mu.Hu → Prop} {a0 : Mu.U} : Mu.Ok (Mu.callN pr 0 (d + 1) 1 [a0] h) Q ↔ Mu.OkS (Mu.evSs (Mu.calN pr 0 d) b1 [some a0] h) { nx := fun _ h' => Q .non h', rt := Q } := Mu.Ok_call ⟨1, 1, b1⟩ _ rfl rfl rfl
theorem c2 {d : Nat} {h : Mu.Hu} {Q : Mu.U → Mu.Hu → Prop} {a0 a1 a2 : Mu.U} : Mu.Ok (Mu.callN pr 0 (d + 1) 2 [a0, a1, a2] h) Q ↔ Mu.OkS (Mu.evSs (Mu.calN pr 0 d) b2 [some a0, some a1, some a2] h) { nx := fun _ h' => Q .non h', rt := Q } := Mu.Ok_call ⟨3, 3, b2⟩ _ rfl rfl rfl
theorem c3 {d : Nat} {h : Mu.Hu} {Q : Mu.U → Mu.Hu → Prop} {a0 : Mu.U} : Mu.Ok (Mu.callN pr 0 (d + 1) 3 [a0] h) Q ↔ Mu.OkS (Mu.evSs (Mu.calN pr 0 d) b3 [some a0] h) { nx := fun _ h' => Q .non h', rt := Q } := Mu.Ok_call ⟨1, 1, b3⟩ _ rfl rfl rfl
theorem c4 {d : Nat} {h : Mu.Hu} {Q : Mu.U → Mu.Hu → Prop} {a0 a1 : Mu.U} : Mu.Ok (Mu.callN pr 0 (d + 1) 4 [a0, a1] h) Q ↔ Mu.OkS (Mu.evSs (Mu.calN pr 0 d) b4 [some a0, some a1] h) { nx := fun _ h' => Q .non h', rt := Q } := Mu.Ok_call ⟨2, 2, b4⟩ _ rfl rfl rfl
theorem c5 {d : Nat} {h : Mu.Hu} {Q : Mu.U → Mu.Hu → Prop} {a0 : Mu.U} : Mu.Ok (Mu.callN pr 0 (d + 1) 5 [a0] h) Q ↔ Mu.OkS (Mu.evSs (Mu.calN pr 0 d) b5 [some a0] h) { nx := fun _ h' => Q .non h', rt := Q } := Mu.Ok_call ⟨1, 1, b5⟩ _ rfl rfl rfl
theorem c6 {d : Nat} {h : Mu.Hu} {Q : Mu.U → Mu.Hu → Prop} {a0 : Mu.U} : Mu.Ok (Mu.callN pr 0 (d + 1) 6 [a0] h) Q ↔ Mu.OkS (Mu.evSs (Mu.calN pr 0 d) b6 [some a0] h) { nx := fun _ h' => Q .non h', rt := Q } := Mu.Ok_call ⟨1, 1, b6⟩ _ rfl rfl rfl
theorem c7 {d : Nat} {h : Mu.Hu} {Q : Mu.U → Mu.Hu → Prop} {a0 : Mu.U} : Mu.Ok (Mu.callN pr 0 (d + 1) 7 [a0] h) Q ↔ Mu.OkS (Mu.evSs (Mu.calN pr 0 d) b7 [some a0] h) { nx := fun _ h' => Q .non h', rt := Q } := Mu.Ok_call ⟨1, 1, b7⟩ _ rfl rfl rfl
theorem c8 {d : Nat} {h : Mu.Hu} {Q : Mu.U → Mu.Hu → Prop} {a0 : Mu.U} : Mu.Ok (Mu.callN pr 0 (d + 1) 8 [a0] h) Q ↔ Mu.OkS (Mu.evSs (Mu.calN pr 0 d) b8 [some a0] h) { nx := fun _ h' => Q .non h', rt := Q } := Mu.Ok_call ⟨1, 1, b8⟩ _ rfl rfl rfl
theorem c9 {d : Nat} {h : Mu.Hu} {Q : Mu.U → Mu.Hu → Prop} {a0 : Mu.U} : Mu.Ok (Mu.callN pr 0 (d + 1) 9 [a0] h) Q ↔ Mu.OkS (Mu.evSs (Mu.calN pr 0 d) b9 [some a0] h) { nx := fun _ h' => Q .non h', rt := Q } := Mu.Ok_call ⟨1, 1, b9⟩ _ rfl rfl rfl
theorem c10 {d : Nat} {h : Mu.Hu} {Q : Mu.U → Mu.Hu → Prop} {a0 a1 : Mu.U} : Mu.Ok (Mu.callN pr 0 (d + 1) 10 [a0, a1] h) Q ↔ Mu.OkS (Mu.evSs (Mu.calN pr 0 d) b10 [some a0, some a1] h) { nx := fun _ h' => Q .non h', rt := Q } := Mu.Ok_call ⟨2, 2, b10⟩ _ rfl rfl rfl
theorem c11 {d : Nat} {h : Mu.Hu} {Q : Mu.U → Mu.Hu → Prop} {a0 a1 : Mu.U} : Mu.Ok (Mu.callN pr 0 (d + 1) 11 [a0, a1] h) Q ↔ Mu.OkS (Mu.evSs (Mu.calN pr 0 d) b11 [some a0, some a1] h) { nx := fun _ h' => Q .non h', rt := Q } := Mu.Ok_call ⟨2, 2, b11⟩ _ rfl rfl rfl
theorem c12 {d : Nat} {h : Mu.Hu} {Q : Mu.U → Mu.Hu → Prop} {a0 a1 : Mu.U} : Mu.Ok (Mu.callN pr 0 (d + 1) 12 [a0, a1] h) Q ↔ Mu.OkS (Mu.evSs (Mu.calN pr 0 d) b12 [some a0, some a1] h) { nx := fun _ h' => Q .non h', rt := Q } := Mu.Ok_call ⟨2, 2, b12⟩ _ rfl rfl rfl
theorem c13 {d : Nat} {h : Mu.Hu} {Q : Mu.U → Mu.Hu → Prop} {a0 a1 : Mu.U} : Mu.Ok (Mu.callN pr 0 (d + 1) 13 [a0, a1] h) Q ↔ Mu.OkS (Mu.evSs (Mu.calN pr 0 d) b13 [some a0, some a1] h) { nx := fun _ h' => Q .non h', rt := Q } := Mu.Ok_call ⟨2, 2, b13⟩ _ rfl rfl rfl
theorem c14 {d : Nat} {h : Mu.Hu} {Q : Mu.U → Mu.Hu → Prop} {a0 a1 : Mu.U} : Mu.Ok (Mu.callN pr 0 (d + 1) 14 [a0, a1] h) Q ↔ Mu.OkS (Mu.evSs (Mu.calN pr 0 d) b14 [some a0, some a1, none] h) { nx := fun _ h' => Q .non h', rt := Q } := Mu.Ok_call ⟨2, 3, b14⟩ _ rfl rfl rfl
theorem c15 {d : Nat} {h : Mu.Hu} {Q : Mu.U → Mu.Hu → Prop} {a0 : Mu.U} : Mu.Ok (Mu.callN pr 0 (d + 1) 15 [a0] h) Q ↔ Mu.OkS (Mu.evSs (Mu.calN pr 0 d) b15 [some a0, none] h) { nx := fun _ h' => Q .non h', rt := Q } := Mu.Ok_call ⟨1, 2, b15⟩ _ rfl rfl rfl
theorem c16 {d : Nat} {h : Mu.Hu} {Q : Mu.U → Mu.Hu → Prop} {a0 a1 : Mu.U} : Mu.Ok (Mu.callN pr 0 (d + 1) 16 [a0, a1] h) Q ↔ Mu.OkS (Mu.evSs (Mu.calN pr 0 d) b16 [some a0, some a1, none, none, none] h) { nx := fun _ h' => Q .non h', rt := Q } := Mu.Ok_call ⟨2, 5, b16⟩ _ rfl rfl rfl
theorem c17 {d : Nat} {h : Mu.Hu} {Q : Mu.U → Mu.Hu → Prop} {a0 : Mu.U} : Mu.Ok (Mu.callN pr 0 (d + 1) 17 [a0] h) Q ↔ Mu.OkS (Mu.evSs (Mu.calN pr 0 d) b17 [some a0, none] h) { nx := fun _ h' => Q .non h', rt := Q } := Mu.Ok_call ⟨1, 2, b17⟩ _ rfl rfl rfl
theorem c18 {d : Nat} {h : Mu.Hu} {Q : Mu.U → Mu.Hu → Prop} {a0 a1 : Mu.U} : Mu.Ok (Mu.callN pr 0 (d + 1) 18 [a0, a1] h) Q ↔ Mu.OkS (Mu.evSs (Mu.calN pr 0 d) b18 [some a0, some a1] h) { nx := fun _ h' => Q .non h', rt := Q } := Mu.Ok_call ⟨2, 2, b18⟩ _ rfl rfl rfl
theorem c19 {d : Nat} {h : Mu.Hu} {Q : Mu.U → Mu.Hu → Prop} {a0 a1 : Mu.U} : Mu.Ok (Mu.callN pr 0 (d + 1) 19 [a0, a1] h) Q ↔ Mu.OkS (Mu.evSs (Mu.calN pr 0 d) b19 [some a0, some a1, none, none] h) { nx := fun _ h' => Q .non h', rt := Q } := Mu.Ok_call ⟨2, 4, b19⟩ _ rfl rfl rfl
theorem c20 {d : Nat} {h : Mu.Hu} {Q : Mu.U → Mu.Hu → Prop} {a0 a1 : Mu.U} : Mu.Ok (Mu.callN pr 0 (d + 1) 20 [a0, a1] h) Q ↔ Mu.OkS (Mu.evSs (Mu.calN pr 0 d) b20 [some a0, some a1, none] h) { nx := fun _ h' => Q .non h', rt := Q } := Mu.Ok_call ⟨2, 3, b20⟩ _ rfl rfl rfl
theorem c21 {d : Nat} {h : Mu.Hu} {Q : Mu.U → Mu.Hu → Prop} {a0 a1 : Mu.U} : Mu.Ok (Mu.callN pr 0 (d + 1) 21 [a0, a1] h) Q ↔ Mu.OkS (Mu.evSs (Mu.calN pr 0 d) b21 [some a0, some a1] h) { nx := fun _ h' => Q .non h', rt := Q } := Mu.Ok_call ⟨2, 2, b21⟩ _ rfl rfl rfl
theorem c22 {d : Nat} {h : Mu.Hu} {Q : Mu.U → Mu.Hu → Prop} {a0 a1 a2 a3 : Mu.U} : Mu.Ok (Mu.callN pr 0 (d + 1) 22 [a0, a1, a2, a3] h) Q ↔ Mu.OkS (Mu.evSs (Mu.calN pr 0 d) b22 [some a0, some a1, some a2, some a3, none, none, none] h) { nx := fun _ h' => Q .non h', rt := Q } := Mu.Ok_call ⟨4, 7, b22⟩ _ rfl rfl rfl
theorem c23 {d : Nat} {h : Mu.Hu} {Q : Mu.U → Mu.Hu → Prop} {a0 a1 a2 a3 : Mu.U} : Mu.Ok (Mu.callN pr 0 (d + 1) 23 [a0, a1, a2, a3] h) Q ↔ Mu.OkS (Mu.evSs (Mu.calN pr 0 d) b23 [some a0, some a1, some a2, some a3, none, none, none, none, none, none] h) { nx := fun _ h' => Q .non h', rt := Q } := Mu.Ok_call ⟨4, 10, b23⟩ _ rfl rfl rfl
theorem c24 {d : Nat} {h : Mu.Hu} {Q : Mu.U → Mu.Hu → Prop} {a0 : Mu.U} : Mu.Ok (Mu.callN pr 0 (d + 1) 24 [a0] h) Q ↔ Mu.OkS (Mu.evSs (Mu.calN pr 0 d) b24 [some a0, none, none, none, none, none, none, none, none, none, none, none, none, none, none, none] h) { nx := fun _ h' => Q .non h', rt := Q } := Mu.Ok_call ⟨1, 16, b24⟩ _ rfl rfl rfl
theorem c25 {d : Nat} {h : Mu.Hu} {Q : Mu.U → Mu.Hu → Prop} {a0 : Mu.U} : Mu.Ok (Mu.callN pr 0 (d + 1) 25 [a0] h) Q ↔ Mu.OkS (Mu.evSs (Mu.calN pr 0 d) b25 [some a0] h) { nx := fun _ h' => Q .non h', rt := Q } := Mu.Ok_call ⟨1, 1, b25⟩ _ rfl rfl rfl
end Lawk71

set_option Elab.async false
set_option linter.all false
set_option maxRecDepth 100000
set_option maxHeartbeats 4000000
namespace Lawk71
open PySem Mu
section
variable {d u : Nat} {many first : Int} {th dn : List U} {h : Hu}
theorem is_integer {i : Int} : callN pr 0 (d + 1) 0 [.int i] h = .ok (.bl true) h := by
  refine Ok_eq ?_
  rw [c0]; unfold b0
  simp -dsimp (maxSteps := 1000000) (disch := first | assumption | omega | (simp only [List.length_cons, List.length_nil, List.length_append, List.length_map, List.length_take, List.length_drop, List.length_set, List.length_range, List.length_reverse] <;> omega) | rfl | decide) only [OkS_cons, OkS_nil, OkS_nx, OkS_rt, OkS_bk, OkS_ct, OkS_toS, OkS_if, Ok_bind, Ok_bindN, Ok_nx, Ok_ok, Ok_ofS, S_expr, S_asg, S_ret, S_retN, S_pass, S_brk, S_cont, S_for, S_par, par2, par3, cst_int, cst_non, cst_bl, cst_str, ofW, ofWs, E_cst, E_glo, E_var, E_mut, E_bin, E_neg, E_not, E_cmp, E_fld, E_ix, E_rev, E_slc, E_lst, E_tup, E_dic0, E_call, E_make, E_meth, E_callv, E_bc, E_bm, bmX_l, bmX_d, kindU_ref, E_isi, E_rngL, E_sset, E_comp, evEs, T_cst, T_glo, T_var, T_bin, T_neg, T_fld, T_ix, T_rev, T_slc, T_lst, T_tup, T_call, T_make, T_meth, T_callv, T_bc, T_bm, T_isi, T_comp, T_not, T_and, T_or, T_ife, T_cmp, T_cmp2, isB_bl, E_and, E_or, E_ife, E_cmp2, evO, evC, evI, evG, evGs, wipeS, permU, calN_call, calN_cs, getS_0, getS_s, newL_c, newT_c, tru_bl, tru_int, tru_non, tru_lst, tru_tup, bin_add, bin_sub, bin_mulc, bin_fdivc, bin_mod, bin_addL, cmp_lt, cmp_le, cmp_gt, cmp_ge, cmp_isN, cmp_isnN, isNon_non, isNon_int, isNon_tup, isNon_lst, isNon_ref, isNon_bl, cmp_eqI, cmp_neI, cmp_eq, cmp_ne, cmpEq_n, eqD_if, own_ref, der_ref, id_b, own_lst, own_tup, own_non, own_bl, own_int, own_str, der_lst, der_tup, der_non, der_int, der_bl, der_str, isD_int, isD_bl, isD_non, isD_bstr, isD_tup, isD_lst, eqv_int, eqv_bl, eqv_non, eqv_str, eqv_lst, eqv_tup, eqvs_nil, eqvs_nc, eqvs_cn, eqvs_cc, eqvs_n, eqv_ni, eqv_in, bc_int, bc_abs, bc_max, bc_min, bc_divmod, bc_len, bc_lenF, bc_lenT, bc_list, bc_listT, bc_tuple, rep_bl, ix_lst, ix_tup, ix_frz, at_0, at_1, at_2, at_3, at_4, slc_lst, rev_lst, fldU, setFld, methOf, putF, isiU, isOne, tyName, thaw, isFr, Mi.tgsL, List.contains_cons, List.contains_nil, List.length_cons, List.length_nil, List.length_append, List.length_map, List.set_cons_zero, List.set_cons_succ, List.lookup_cons, List.lookup_nil, Option.map_some, Bool.not_true, Bool.not_false, Nat.reduceBEq, Nat.reduceEqDiff, Nat.reduceAdd, Nat.reduceLT, Int.reduceEq, Int.reduceNe, Int.reduceLT, Int.reduceLE, if_true, if_false, reduceIte, decide_true, decide_false, decide_eq_true_eq, Bool.false_eq_true, Bool.and_true, Bool.true_and, Bool.and_false, Bool.false_and, Bool.or_true, Bool.or_false, Bool.true_or, Bool.false_or, beq_self_eq_true, Nat.zero_add, List.nil_append, List.isEmpty_nil, List.isEmpty_cons, and_self, true_and, and_true, eq_self, bt_beq, reduceCtorEq, List.set_set, List.all_nil, List.all_cons, List.all_append, set_app, get_app_eq, cut_tl, List.length_set, len_ref_a, list_ref_a, seq_ref_a, lsf_ref_a, dic_ref_a, lst_ref_a, seq_lst, seq_tup, lsf_lst, ix_ref_a, slc_ref_a, rev_ref_a, app_ref_a, appX_l, setIx_ref_a, bin_addX, addU, lstU, List.getElem?_set_ne, List.getElem?_set_self, List.getElem?_append_left, get_app_len, set_app_len, cs0, mk0]
theorem is_count {i : Int} : callN pr 0 (d + 2) 1 [.int i] h = .ok (.bl (decide (0 ≤ i))) h := by
  refine Ok_eq ?_
  rw [c1]; unfold b1
  simp -dsimp (maxSteps := 1000000) (disch := first | assumption | omega | (simp only [List.length_cons, List.length_nil, List.length_append, List.length_map, List.length_take, List.length_drop, List.length_set, List.length_range, List.length_reverse] <;> omega) | rfl | decide) only [OkS_cons, OkS_nil, OkS_nx, OkS_rt, OkS_bk, OkS_ct, OkS_toS, OkS_if, Ok_bind, Ok_bindN, Ok_nx, Ok_ok, Ok_ofS, S_expr, S_asg, S_ret, S_retN, S_pass, S_brk, S_cont, S_for, S_par, par2, par3, cst_int, cst_non, cst_bl, cst_str, ofW, ofWs, E_cst, E_glo, E_var, E_mut, E_bin, E_neg, E_not, E_cmp, E_fld, E_ix, E_rev, E_slc, E_lst, E_tup, E_dic0, E_call, E_make, E_meth, E_callv, E_bc, E_bm, bmX_l, bmX_d, kindU_ref, E_isi, E_rngL, E_sset, E_comp, evEs, T_cst, T_glo, T_var, T_bin, T_neg, T_fld, T_ix, T_rev, T_slc, T_lst, T_tup, T_call, T_make, T_meth, T_callv, T_bc, T_bm, T_isi, T_comp, T_not, T_and, T_or, T_ife, T_cmp, T_cmp2, isB_bl, E_and, E_or, E_ife, E_cmp2, evO, evC, evI, evG, evGs, wipeS, permU, calN_call, calN_cs, getS_0, getS_s, newL_c, newT_c, tru_bl, tru_int, tru_non, tru_lst, tru_tup, bin_add, bin_sub, bin_mulc, bin_fdivc, bin_mod, bin_addL, cmp_lt, cmp_le, cmp_gt, cmp_ge, cmp_isN, cmp_isnN, isNon_non, isNon_int, isNon_tup, isNon_lst, isNon_ref, isNon_bl, cmp_eqI, cmp_neI, cmp_eq, cmp_ne, cmpEq_n, eqD_if, own_ref, der_ref, id_b, own_lst, own_tup, own_non, own_bl, own_int, own_str, der_lst, der_tup, der_non, der_int, der_bl, der_str, isD_int, isD_bl, isD_non, isD_bstr, isD_tup, isD_lst, eqv_int, eqv_bl, eqv_non, eqv_str, eqv_lst, eqv_tup, eqvs_nil, eqvs_nc, eqvs_cn, eqvs_cc, eqvs_n, eqv_ni, eqv_in, bc_int, bc_abs, bc_max, bc_min, bc_divmod, bc_len, bc_lenF, bc_lenT, bc_list, bc_listT, bc_tuple, rep_bl, ix_lst, ix_tup, ix_frz, at_0, at_1, at_2, at_3, at_4, slc_lst, rev_lst, fldU, setFld, methOf, putF, isiU, isOne, tyName, thaw, isFr, Mi.tgsL, List.contains_cons, List.contains_nil, List.length_cons, List.length_nil, List.length_append, List.length_map, List.set_cons_zero, List.set_cons_succ, List.lookup_cons, List.lookup_nil, Option.map_some, Bool.not_true, Bool.not_false, Nat.reduceBEq, Nat.reduceEqDiff, Nat.reduceAdd, Nat.reduceLT, Int.reduceEq, Int.reduceNe, Int.reduceLT, Int.reduceLE, if_true, if_false, reduceIte, decide_true, decide_false, decide_eq_true_eq, Bool.false_eq_true, Bool.and_true, Bool.true_and, Bool.and_false, Bool.false_and, Bool.or_true, Bool.or_false, Bool.true_or, Bool.false_or, beq_self_eq_true, Nat.zero_add, List.nil_append, List.isEmpty_nil, List.isEmpty_cons, and_self, true_and, and_true, eq_self, bt_beq, reduceCtorEq, List.set_set, List.all_nil, List.all_cons, List.all_append, set_app, get_app_eq, cut_tl, List.length_set, len_ref_a, list_ref_a, seq_ref_a, lsf_ref_a, dic_ref_a, lst_ref_a, seq_lst, seq_tup, lsf_lst, ix_ref_a, slc_ref_a, rev_ref_a, app_ref_a, appX_l, setIx_ref_a, bin_addX, addU, lstU, List.getElem?_set_ne, List.getElem?_set_self, List.getElem?_append_left, get_app_len, set_app_len, cs0, mk0, is_integer]
theorem want_number {i : Int} (c : 0 ≤ i) : callN pr 0 (d + 3) 3 [.int i] h = .ok .non h := by
  refine Ok_eq ?_
  rw [c3]; unfold b3
  simp -dsimp (maxSteps := 1000000) (disch := first | assumption | omega | (simp only [List.length_cons, List.length_nil, List.length_append, List.length_map, List.length_take, List.length_drop, List.length_set, List.length_range, List.length_reverse] <;> omega) | rfl | decide) only [OkS_cons, OkS_nil, OkS_nx, OkS_rt, OkS_bk, OkS_ct, OkS_toS, OkS_if, Ok_bind, Ok_bindN, Ok_nx, Ok_ok, Ok_ofS, S_expr, S_asg, S_ret, S_retN, S_pass, S_brk, S_cont, S_for, S_par, par2, par3, cst_int, cst_non, cst_bl, cst_str, ofW, ofWs, E_cst, E_glo, E_var, E_mut, E_bin, E_neg, E_not, E_cmp, E_fld, E_ix, E_rev, E_slc, E_lst, E_tup, E_dic0, E_call, E_make, E_meth, E_callv, E_bc, E_bm, bmX_l, bmX_d, kindU_ref, E_isi, E_rngL, E_sset, E_comp, evEs, T_cst, T_glo, T_var, T_bin, T_neg, T_fld, T_ix, T_rev, T_slc, T_lst, T_tup, T_call, T_make, T_meth, T_callv, T_bc, T_bm, T_isi, T_comp, T_not, T_and, T_or, T_ife, T_cmp, T_cmp2, isB_bl, E_and, E_or, E_ife, E_cmp2, evO, evC, evI, evG, evGs, wipeS, permU, calN_call, calN_cs, getS_0, getS_s, newL_c, newT_c, tru_bl, tru_int, tru_non, tru_lst, tru_tup, bin_add, bin_sub, bin_mulc, bin_fdivc, bin_mod, bin_addL, cmp_lt, cmp_le, cmp_gt, cmp_ge, cmp_isN, cmp_isnN, isNon_non, isNon_int, isNon_tup, isNon_lst, isNon_ref, isNon_bl, cmp_eqI, cmp_neI, cmp_eq, cmp_ne, cmpEq_n, eqD_if, own_ref, der_ref, id_b, own_lst, own_tup, own_non, own_bl, own_int, own_str, der_lst, der_tup, der_non, der_int, der_bl, der_str, isD_int, isD_bl, isD_non, isD_bstr, isD_tup, isD_lst, eqv_int, eqv_bl, eqv_non, eqv_str, eqv_lst, eqv_tup, eqvs_nil, eqvs_nc, eqvs_cn, eqvs_cc, eqvs_n, eqv_ni, eqv_in, bc_int, bc_abs, bc_max, bc_min, bc_divmod, bc_len, bc_lenF, bc_lenT, bc_list, bc_listT, bc_tuple, rep_bl, ix_lst, ix_tup, ix_frz, at_0, at_1, at_2, at_3, at_4, slc_lst, rev_lst, fldU, setFld, methOf, putF, isiU, isOne, tyName, thaw, isFr, Mi.tgsL, List.contains_cons, List.contains_nil, List.length_cons, List.length_nil, List.length_append, List.length_map, List.set_cons_zero, List.set_cons_succ, List.lookup_cons, List.lookup_nil, Option.map_some, Bool.not_true, Bool.not_false, Nat.reduceBEq, Nat.reduceEqDiff, Nat.reduceAdd, Nat.reduceLT, Int.reduceEq, Int.reduceNe, Int.reduceLT, Int.reduceLE, if_true, if_false, reduceIte, decide_true, decide_false, decide_eq_true_eq, Bool.false_eq_true, Bool.and_true, Bool.true_and, Bool.and_false, Bool.false_and, Bool.or_true, Bool.or_false, Bool.true_or, Bool.false_or, beq_self_eq_true, Nat.zero_add, List.nil_append, List.isEmpty_nil, List.isEmpty_cons, and_self, true_and, and_true, eq_self, bt_beq, reduceCtorEq, List.set_set, List.all_nil, List.all_cons, List.all_append, set_app, get_app_eq, cut_tl, List.length_set, len_ref_a, list_ref_a, seq_ref_a, lsf_ref_a, dic_ref_a, lst_ref_a, seq_lst, seq_tup, lsf_lst, ix_ref_a, slc_ref_a, rev_ref_a, app_ref_a, appX_l, setIx_ref_a, bin_addX, addU, lstU, List.getElem?_set_ne, List.getElem?_set_self, List.getElem?_append_left, get_app_len, set_app_len, cs0, mk0, is_count, c]
theorem want_many {i a b : Int} (h0 : 0 ≤ i) (h1 : a ≤ i) (h2 : i ≤ b) : callN pr 0 (d + 3) 2 [.int i, .int a, .int b] h = .ok .non h := by
  refine Ok_eq ?_
  rw [c2]; unfold b2
  simp -dsimp (maxSteps := 1000000) (disch := first | assumption | omega | (simp only [List.length_cons, List.length_nil, List.length_append, List.length_map, List.length_take, List.length_drop, List.length_set, List.length_range, List.length_reverse] <;> omega) | rfl | decide) only [OkS_cons, OkS_nil, OkS_nx, OkS_rt, OkS_bk, OkS_ct, OkS_toS, OkS_if, Ok_bind, Ok_bindN, Ok_nx, Ok_ok, Ok_ofS, S_expr, S_asg, S_ret, S_retN, S_pass, S_brk, S_cont, S_for, S_par, par2, par3, cst_int, cst_non, cst_bl, cst_str, ofW, ofWs, E_cst, E_glo, E_var, E_mut, E_bin, E_neg, E_not, E_cmp, E_fld, E_ix, E_rev, E_slc, E_lst, E_tup, E_dic0, E_call, E_make, E_meth, E_callv, E_bc, E_bm, bmX_l, bmX_d, kindU_ref, E_isi, E_rngL, E_sset, E_comp, evEs, T_cst, T_glo, T_var, T_bin, T_neg, T_fld, T_ix, T_rev, T_slc, T_lst, T_tup, T_call, T_make, T_meth, T_callv, T_bc, T_bm, T_isi, T_comp, T_not, T_and, T_or, T_ife, T_cmp, T_cmp2, isB_bl, E_and, E_or, E_ife, E_cmp2, evO, evC, evI, evG, evGs, wipeS, permU, calN_call, calN_cs, getS_0, getS_s, newL_c, newT_c, tru_bl, tru_int, tru_non, tru_lst, tru_tup, bin_add, bin_sub, bin_mulc, bin_fdivc, bin_mod, bin_addL, cmp_lt, cmp_le, cmp_gt, cmp_ge, cmp_isN, cmp_isnN, isNon_non, isNon_int, isNon_tup, isNon_lst, isNon_ref, isNon_bl, cmp_eqI, cmp_neI, cmp_eq, cmp_ne, cmpEq_n, eqD_if, own_ref, der_ref, id_b, own_lst, own_tup, own_non, own_bl, own_int, own_str, der_lst, der_tup, der_non, der_int, der_bl, der_str, isD_int, isD_bl, isD_non, isD_bstr, isD_tup, isD_lst, eqv_int, eqv_bl, eqv_non, eqv_str, eqv_lst, eqv_tup, eqvs_nil, eqvs_nc, eqvs_cn, eqvs_cc, eqvs_n, eqv_ni, eqv_in, bc_int, bc_abs, bc_max, bc_min, bc_divmod, bc_len, bc_lenF, bc_lenT, bc_list, bc_listT, bc_tuple, rep_bl, ix_lst, ix_tup, ix_frz, at_0, at_1, at_2, at_3, at_4, slc_lst, rev_lst, fldU, setFld, methOf, putF, isiU, isOne, tyName, thaw, isFr, Mi.tgsL, List.contains_cons, List.contains_nil, List.length_cons, List.length_nil, List.length_append, List.length_map, List.set_cons_zero, List.set_cons_succ, List.lookup_cons, List.lookup_nil, Option.map_some, Bool.not_true, Bool.not_false, Nat.reduceBEq, Nat.reduceEqDiff, Nat.reduceAdd, Nat.reduceLT, Int.reduceEq, Int.reduceNe, Int.reduceLT, Int.reduceLE, if_true, if_false, reduceIte, decide_true, decide_false, decide_eq_true_eq, Bool.false_eq_true, Bool.and_true, Bool.true_and, Bool.and_false, Bool.false_and, Bool.or_true, Bool.or_false, Bool.true_or, Bool.false_or, beq_self_eq_true, Nat.zero_add, List.nil_append, List.isEmpty_nil, List.isEmpty_cons, and_self, true_and, and_true, eq_self, bt_beq, reduceCtorEq, List.set_set, List.all_nil, List.all_cons, List.all_append, set_app, get_app_eq, cut_tl, List.length_set, len_ref_a, list_ref_a, seq_ref_a, lsf_ref_a, dic_ref_a, lst_ref_a, seq_lst, seq_tup, lsf_lst, ix_ref_a, slc_ref_a, rev_ref_a, app_ref_a, appX_l, setIx_ref_a, bin_addX, addU, lstU, List.getElem?_set_ne, List.getElem?_set_self, List.getElem?_append_left, get_app_len, set_app_len, cs0, mk0, is_count, h0, h1, h2]
variable (H : h[u]? = some (.ins 0 [(0, .int many), (1, .int first), (2, .lst th), (3, .lst dn)]))
include H
theorem many_ : callN pr 0 (d + 1) 5 [.ref u] h = .ok (.int many) h := by
  refine Ok_eq ?_
  rw [c5]; unfold b5
  simp -dsimp (maxSteps := 1000000) (disch := first | assumption | omega | (simp only [List.length_cons, List.length_nil, List.length_append, List.length_map, List.length_take, List.length_drop, List.length_set, List.length_range, List.length_reverse] <;> omega) | rfl | decide) only [OkS_cons, OkS_nil, OkS_nx, OkS_rt, OkS_bk, OkS_ct, OkS_toS, OkS_if, Ok_bind, Ok_bindN, Ok_nx, Ok_ok, Ok_ofS, S_expr, S_asg, S_ret, S_retN, S_pass, S_brk, S_cont, S_for, S_par, par2, par3, cst_int, cst_non, cst_bl, cst_str, ofW, ofWs, E_cst, E_glo, E_var, E_mut, E_bin, E_neg, E_not, E_cmp, E_fld, E_ix, E_rev, E_slc, E_lst, E_tup, E_dic0, E_call, E_make, E_meth, E_callv, E_bc, E_bm, bmX_l, bmX_d, kindU_ref, E_isi, E_rngL, E_sset, E_comp, evEs, T_cst, T_glo, T_var, T_bin, T_neg, T_fld, T_ix, T_rev, T_slc, T_lst, T_tup, T_call, T_make, T_meth, T_callv, T_bc, T_bm, T_isi, T_comp, T_not, T_and, T_or, T_ife, T_cmp, T_cmp2, isB_bl, E_and, E_or, E_ife, E_cmp2, evO, evC, evI, evG, evGs, wipeS, permU, calN_call, calN_cs, getS_0, getS_s, newL_c, newT_c, tru_bl, tru_int, tru_non, tru_lst, tru_tup, bin_add, bin_sub, bin_mulc, bin_fdivc, bin_mod, bin_addL, cmp_lt, cmp_le, cmp_gt, cmp_ge, cmp_isN, cmp_isnN, isNon_non, isNon_int, isNon_tup, isNon_lst, isNon_ref, isNon_bl, cmp_eqI, cmp_neI, cmp_eq, cmp_ne, cmpEq_n, eqD_if, own_ref, der_ref, id_b, own_lst, own_tup, own_non, own_bl, own_int, own_str, der_lst, der_tup, der_non, der_int, der_bl, der_str, isD_int, isD_bl, isD_non, isD_bstr, isD_tup, isD_lst, eqv_int, eqv_bl, eqv_non, eqv_str, eqv_lst, eqv_tup, eqvs_nil, eqvs_nc, eqvs_cn, eqvs_cc, eqvs_n, eqv_ni, eqv_in, bc_int, bc_abs, bc_max, bc_min, bc_divmod, bc_len, bc_lenF, bc_lenT, bc_list, bc_listT, bc_tuple, rep_bl, ix_lst, ix_tup, ix_frz, at_0, at_1, at_2, at_3, at_4, slc_lst, rev_lst, fldU, setFld, methOf, putF, isiU, isOne, tyName, thaw, isFr, Mi.tgsL, List.contains_cons, List.contains_nil, List.length_cons, List.length_nil, List.length_append, List.length_map, List.set_cons_zero, List.set_cons_succ, List.lookup_cons, List.lookup_nil, Option.map_some, Bool.not_true, Bool.not_false, Nat.reduceBEq, Nat.reduceEqDiff, Nat.reduceAdd, Nat.reduceLT, Int.reduceEq, Int.reduceNe, Int.reduceLT, Int.reduceLE, if_true, if_false, reduceIte, decide_true, decide_false, decide_eq_true_eq, Bool.false_eq_true, Bool.and_true, Bool.true_and, Bool.and_false, Bool.false_and, Bool.or_true, Bool.or_false, Bool.true_or, Bool.false_or, beq_self_eq_true, Nat.zero_add, List.nil_append, List.isEmpty_nil, List.isEmpty_cons, and_self, true_and, and_true, eq_self, bt_beq, reduceCtorEq, List.set_set, List.all_nil, List.all_cons, List.all_append, set_app, get_app_eq, cut_tl, List.length_set, len_ref_a, list_ref_a, seq_ref_a, lsf_ref_a, dic_ref_a, lst_ref_a, seq_lst, seq_tup, lsf_lst, ix_ref_a, slc_ref_a, rev_ref_a, app_ref_a, appX_l, setIx_ref_a, bin_addX, addU, lstU, List.getElem?_set_ne, List.getElem?_set_self, List.getElem?_append_left, get_app_len, set_app_len, cs0, mk0, H, cs0]
theorem held : callN pr 0 (d + 1) 6 [.ref u] h = .ok (.int th.length) h := by
  refine Ok_eq ?_
  rw [c6]; unfold b6
  simp -dsimp (maxSteps := 1000000) (disch := first | assumption | omega | (simp only [List.length_cons, List.length_nil, List.length_append, List.length_map, List.length_take, List.length_drop, List.length_set, List.length_range, List.length_reverse] <;> omega) | rfl | decide) only [OkS_cons, OkS_nil, OkS_nx, OkS_rt, OkS_bk, OkS_ct, OkS_toS, OkS_if, Ok_bind, Ok_bindN, Ok_nx, Ok_ok, Ok_ofS, S_expr, S_asg, S_ret, S_retN, S_pass, S_brk, S_cont, S_for, S_par, par2, par3, cst_int, cst_non, cst_bl, cst_str, ofW, ofWs, E_cst, E_glo, E_var, E_mut, E_bin, E_neg, E_not, E_cmp, E_fld, E_ix, E_rev, E_slc, E_lst, E_tup, E_dic0, E_call, E_make, E_meth, E_callv, E_bc, E_bm, bmX_l, bmX_d, kindU_ref, E_isi, E_rngL, E_sset, E_comp, evEs, T_cst, T_glo, T_var, T_bin, T_neg, T_fld, T_ix, T_rev, T_slc, T_lst, T_tup, T_call, T_make, T_meth, T_callv, T_bc, T_bm, T_isi, T_comp, T_not, T_and, T_or, T_ife, T_cmp, T_cmp2, isB_bl, E_and, E_or, E_ife, E_cmp2, evO, evC, evI, evG, evGs, wipeS, permU, calN_call, calN_cs, getS_0, getS_s, newL_c, newT_c, tru_bl, tru_int, tru_non, tru_lst, tru_tup, bin_add, bin_sub, bin_mulc, bin_fdivc, bin_mod, bin_addL, cmp_lt, cmp_le, cmp_gt, cmp_ge, cmp_isN, cmp_isnN, isNon_non, isNon_int, isNon_tup, isNon_lst, isNon_ref, isNon_bl, cmp_eqI, cmp_neI, cmp_eq, cmp_ne, cmpEq_n, eqD_if, own_ref, der_ref, id_b, own_lst, own_tup, own_non, own_bl, own_int, own_str, der_lst, der_tup, der_non, der_int, der_bl, der_str, isD_int, isD_bl, isD_non, isD_bstr, isD_tup, isD_lst, eqv_int, eqv_bl, eqv_non, eqv_str, eqv_lst, eqv_tup, eqvs_nil, eqvs_nc, eqvs_cn, eqvs_cc, eqvs_n, eqv_ni, eqv_in, bc_int, bc_abs, bc_max, bc_min, bc_divmod, bc_len, bc_lenF, bc_lenT, bc_list, bc_listT, bc_tuple, rep_bl, ix_lst, ix_tup, ix_frz, at_0, at_1, at_2, at_3, at_4, slc_lst, rev_lst, fldU, setFld, methOf, putF, isiU, isOne, tyName, thaw, isFr, Mi.tgsL, List.contains_cons, List.contains_nil, List.length_cons, List.length_nil, List.length_append, List.length_map, List.set_cons_zero, List.set_cons_succ, List.lookup_cons, List.lookup_nil, Option.map_some, Bool.not_true, Bool.not_false, Nat.reduceBEq, Nat.reduceEqDiff, Nat.reduceAdd, Nat.reduceLT, Int.reduceEq, Int.reduceNe, Int.reduceLT, Int.reduceLE, if_true, if_false, reduceIte, decide_true, decide_false, decide_eq_true_eq, Bool.false_eq_true, Bool.and_true, Bool.true_and, Bool.and_false, Bool.false_and, Bool.or_true, Bool.or_false, Bool.true_or, Bool.false_or, beq_self_eq_true, Nat.zero_add, List.nil_append, List.isEmpty_nil, List.isEmpty_cons, and_self, true_and, and_true, eq_self, bt_beq, reduceCtorEq, List.set_set, List.all_nil, List.all_cons, List.all_append, set_app, get_app_eq, cut_tl, List.length_set, len_ref_a, list_ref_a, seq_ref_a, lsf_ref_a, dic_ref_a, lst_ref_a, seq_lst, seq_tup, lsf_lst, ix_ref_a, slc_ref_a, rev_ref_a, app_ref_a, appX_l, setIx_ref_a, bin_addX, addU, lstU, List.getElem?_set_ne, List.getElem?_set_self, List.getElem?_append_left, get_app_len, set_app_len, cs0, mk0, H]
theorem upcoming : callN pr 0 (d + 1) 7 [.ref u] h = .ok (.int (first + th.length)) h := by
  refine Ok_eq ?_
  rw [c7]; unfold b7
  simp -dsimp (maxSteps := 1000000) (disch := first | assumption | omega | (simp only [List.length_cons, List.length_nil, List.length_append, List.length_map, List.length_take, List.length_drop, List.length_set, List.length_range, List.length_reverse] <;> omega) | rfl | decide) only [OkS_cons, OkS_nil, OkS_nx, OkS_rt, OkS_bk, OkS_ct, OkS_toS, OkS_if, Ok_bind, Ok_bindN, Ok_nx, Ok_ok, Ok_ofS, S_expr, S_asg, S_ret, S_retN, S_pass, S_brk, S_cont, S_for, S_par, par2, par3, cst_int, cst_non, cst_bl, cst_str, ofW, ofWs, E_cst, E_glo, E_var, E_mut, E_bin, E_neg, E_not, E_cmp, E_fld, E_ix, E_rev, E_slc, E_lst, E_tup, E_dic0, E_call, E_make, E_meth, E_callv, E_bc, E_bm, bmX_l, bmX_d, kindU_ref, E_isi, E_rngL, E_sset, E_comp, evEs, T_cst, T_glo, T_var, T_bin, T_neg, T_fld, T_ix, T_rev, T_slc, T_lst, T_tup, T_call, T_make, T_meth, T_callv, T_bc, T_bm, T_isi, T_comp, T_not, T_and, T_or, T_ife, T_cmp, T_cmp2, isB_bl, E_and, E_or, E_ife, E_cmp2, evO, evC, evI, evG, evGs, wipeS, permU, calN_call, calN_cs, getS_0, getS_s, newL_c, newT_c, tru_bl, tru_int, tru_non, tru_lst, tru_tup, bin_add, bin_sub, bin_mulc, bin_fdivc, bin_mod, bin_addL, cmp_lt, cmp_le, cmp_gt, cmp_ge, cmp_isN, cmp_isnN, isNon_non, isNon_int, isNon_tup, isNon_lst, isNon_ref, isNon_bl, cmp_eqI, cmp_neI, cmp_eq, cmp_ne, cmpEq_n, eqD_if, own_ref, der_ref, id_b, own_lst, own_tup, own_non, own_bl, own_int, own_str, der_lst, der_tup, der_non, der_int, der_bl, der_str, isD_int, isD_bl, isD_non, isD_bstr, isD_tup, isD_lst, eqv_int, eqv_bl, eqv_non, eqv_str, eqv_lst, eqv_tup, eqvs_nil, eqvs_nc, eqvs_cn, eqvs_cc, eqvs_n, eqv_ni, eqv_in, bc_int, bc_abs, bc_max, bc_min, bc_divmod, bc_len, bc_lenF, bc_lenT, bc_list, bc_listT, bc_tuple, rep_bl, ix_lst, ix_tup, ix_frz, at_0, at_1, at_2, at_3, at_4, slc_lst, rev_lst, fldU, setFld, methOf, putF, isiU, isOne, tyName, thaw, isFr, Mi.tgsL, List.contains_cons, List.contains_nil, List.length_cons, List.length_nil, List.length_append, List.length_map, List.set_cons_zero, List.set_cons_succ, List.lookup_cons, List.lookup_nil, Option.map_some, Bool.not_true, Bool.not_false, Nat.reduceBEq, Nat.reduceEqDiff, Nat.reduceAdd, Nat.reduceLT, Int.reduceEq, Int.reduceNe, Int.reduceLT, Int.reduceLE, if_true, if_false, reduceIte, decide_true, decide_false, decide_eq_true_eq, Bool.false_eq_true, Bool.and_true, Bool.true_and, Bool.and_false, Bool.false_and, Bool.or_true, Bool.or_false, Bool.true_or, Bool.false_or, beq_self_eq_true, Nat.zero_add, List.nil_append, List.isEmpty_nil, List.isEmpty_cons, and_self, true_and, and_true, eq_self, bt_beq, reduceCtorEq, List.set_set, List.all_nil, List.all_cons, List.all_append, set_app, get_app_eq, cut_tl, List.length_set, len_ref_a, list_ref_a, seq_ref_a, lsf_ref_a, dic_ref_a, lst_ref_a, seq_lst, seq_tup, lsf_lst, ix_ref_a, slc_ref_a, rev_ref_a, app_ref_a, appX_l, setIx_ref_a, bin_addX, addU, lstU, List.getElem?_set_ne, List.getElem?_set_self, List.getElem?_append_left, get_app_len, set_app_len, cs0, mk0, H]
theorem position {n : Int} (f0 : 0 ≤ first) (h1 : first ≤ n) (h2 : n < first + th.length) : callN pr 0 (d + 4) 10 [.ref u, .int n] h = .ok (.int (n - first)) h := by
  have n0 : 0 ≤ n := by omega
  refine Ok_eq ?_
  rw [c10]; unfold b10
  simp -dsimp (maxSteps := 1000000) (disch := first | assumption | omega | (simp only [List.length_cons, List.length_nil, List.length_append, List.length_map, List.length_take, List.length_drop, List.length_set, List.length_range, List.length_reverse] <;> omega) | rfl | decide) only [OkS_cons, OkS_nil, OkS_nx, OkS_rt, OkS_bk, OkS_ct, OkS_toS, OkS_if, Ok_bind, Ok_bindN, Ok_nx, Ok_ok, Ok_ofS, S_expr, S_asg, S_ret, S_retN, S_pass, S_brk, S_cont, S_for, S_par, par2, par3, cst_int, cst_non, cst_bl, cst_str, ofW, ofWs, E_cst, E_glo, E_var, E_mut, E_bin, E_neg, E_not, E_cmp, E_fld, E_ix, E_rev, E_slc, E_lst, E_tup, E_dic0, E_call, E_make, E_meth, E_callv, E_bc, E_bm, bmX_l, bmX_d, kindU_ref, E_isi, E_rngL, E_sset, E_comp, evEs, T_cst, T_glo, T_var, T_bin, T_neg, T_fld, T_ix, T_rev, T_slc, T_lst, T_tup, T_call, T_make, T_meth, T_callv, T_bc, T_bm, T_isi, T_comp, T_not, T_and, T_or, T_ife, T_cmp, T_cmp2, isB_bl, E_and, E_or, E_ife, E_cmp2, evO, evC, evI, evG, evGs, wipeS, permU, calN_call, calN_cs, getS_0, getS_s, newL_c, newT_c, tru_bl, tru_int, tru_non, tru_lst, tru_tup, bin_add, bin_sub, bin_mulc, bin_fdivc, bin_mod, bin_addL, cmp_lt, cmp_le, cmp_gt, cmp_ge, cmp_isN, cmp_isnN, isNon_non, isNon_int, isNon_tup, isNon_lst, isNon_ref, isNon_bl, cmp_eqI, cmp_neI, cmp_eq, cmp_ne, cmpEq_n, eqD_if, own_ref, der_ref, id_b, own_lst, own_tup, own_non, own_bl, own_int, own_str, der_lst, der_tup, der_non, der_int, der_bl, der_str, isD_int, isD_bl, isD_non, isD_bstr, isD_tup, isD_lst, eqv_int, eqv_bl, eqv_non, eqv_str, eqv_lst, eqv_tup, eqvs_nil, eqvs_nc, eqvs_cn, eqvs_cc, eqvs_n, eqv_ni, eqv_in, bc_int, bc_abs, bc_max, bc_min, bc_divmod, bc_len, bc_lenF, bc_lenT, bc_list, bc_listT, bc_tuple, rep_bl, ix_lst, ix_tup, ix_frz, at_0, at_1, at_2, at_3, at_4, slc_lst, rev_lst, fldU, setFld, methOf, putF, isiU, isOne, tyName, thaw, isFr, Mi.tgsL, List.contains_cons, List.contains_nil, List.length_cons, List.length_nil, List.length_append, List.length_map, List.set_cons_zero, List.set_cons_succ, List.lookup_cons, List.lookup_nil, Option.map_some, Bool.not_true, Bool.not_false, Nat.reduceBEq, Nat.reduceEqDiff, Nat.reduceAdd, Nat.reduceLT, Int.reduceEq, Int.reduceNe, Int.reduceLT, Int.reduceLE, if_true, if_false, reduceIte, decide_true, decide_false, decide_eq_true_eq, Bool.false_eq_true, Bool.and_true, Bool.true_and, Bool.and_false, Bool.false_and, Bool.or_true, Bool.or_false, Bool.true_or, Bool.false_or, beq_self_eq_true, Nat.zero_add, List.nil_append, List.isEmpty_nil, List.isEmpty_cons, and_self, true_and, and_true, eq_self, bt_beq, reduceCtorEq, List.set_set, List.all_nil, List.all_cons, List.all_append, set_app, get_app_eq, cut_tl, List.length_set, len_ref_a, list_ref_a, seq_ref_a, lsf_ref_a, dic_ref_a, lst_ref_a, seq_lst, seq_tup, lsf_lst, ix_ref_a, slc_ref_a, rev_ref_a, app_ref_a, appX_l, setIx_ref_a, bin_addX, addU, lstU, List.getElem?_set_ne, List.getElem?_set_self, List.getElem?_append_left, get_app_len, set_app_len, cs0, mk0, H, want_number n0, h1, h2]
theorem thing {n : Int} {x : U} (f0 : 0 ≤ first) (h1 : first ≤ n) (e : th[(n - first).toNat]? = some x) : callN pr 0 (d + 5) 12 [.ref u, .int n] h = .ok x h := by
  have lt := (List.getElem?_eq_some_iff.mp e).1
  refine Ok_eq ?_
  rw [c12]; unfold b12
  simp -dsimp (maxSteps := 1000000) (disch := first | assumption | omega | (simp only [List.length_cons, List.length_nil, List.length_append, List.length_map, List.length_take, List.length_drop, List.length_set, List.length_range, List.length_reverse] <;> omega) | rfl | decide) only [OkS_cons, OkS_nil, OkS_nx, OkS_rt, OkS_bk, OkS_ct, OkS_toS, OkS_if, Ok_bind, Ok_bindN, Ok_nx, Ok_ok, Ok_ofS, S_expr, S_asg, S_ret, S_retN, S_pass, S_brk, S_cont, S_for, S_par, par2, par3, cst_int, cst_non, cst_bl, cst_str, ofW, ofWs, E_cst, E_glo, E_var, E_mut, E_bin, E_neg, E_not, E_cmp, E_fld, E_ix, E_rev, E_slc, E_lst, E_tup, E_dic0, E_call, E_make, E_meth, E_callv, E_bc, E_bm, bmX_l, bmX_d, kindU_ref, E_isi, E_rngL, E_sset, E_comp, evEs, T_cst, T_glo, T_var, T_bin, T_neg, T_fld, T_ix, T_rev, T_slc, T_lst, T_tup, T_call, T_make, T_meth, T_callv, T_bc, T_bm, T_isi, T_comp, T_not, T_and, T_or, T_ife, T_cmp, T_cmp2, isB_bl, E_and, E_or, E_ife, E_cmp2, evO, evC, evI, evG, evGs, wipeS, permU, calN_call, calN_cs, getS_0, getS_s, newL_c, newT_c, tru_bl, tru_int, tru_non, tru_lst, tru_tup, bin_add, bin_sub, bin_mulc, bin_fdivc, bin_mod, bin_addL, cmp_lt, cmp_le, cmp_gt, cmp_ge, cmp_isN, cmp_isnN, isNon_non, isNon_int, isNon_tup, isNon_lst, isNon_ref, isNon_bl, cmp_eqI, cmp_neI, cmp_eq, cmp_ne, cmpEq_n, eqD_if, own_ref, der_ref, id_b, own_lst, own_tup, own_non, own_bl, own_int, own_str, der_lst, der_tup, der_non, der_int, der_bl, der_str, isD_int, isD_bl, isD_non, isD_bstr, isD_tup, isD_lst, eqv_int, eqv_bl, eqv_non, eqv_str, eqv_lst, eqv_tup, eqvs_nil, eqvs_nc, eqvs_cn, eqvs_cc, eqvs_n, eqv_ni, eqv_in, bc_int, bc_abs, bc_max, bc_min, bc_divmod, bc_len, bc_lenF, bc_lenT, bc_list, bc_listT, bc_tuple, rep_bl, ix_lst, ix_tup, ix_frz, at_0, at_1, at_2, at_3, at_4, slc_lst, rev_lst, fldU, setFld, methOf, putF, isiU, isOne, tyName, thaw, isFr, Mi.tgsL, List.contains_cons, List.contains_nil, List.length_cons, List.length_nil, List.length_append, List.length_map, List.set_cons_zero, List.set_cons_succ, List.lookup_cons, List.lookup_nil, Option.map_some, Bool.not_true, Bool.not_false, Nat.reduceBEq, Nat.reduceEqDiff, Nat.reduceAdd, Nat.reduceLT, Int.reduceEq, Int.reduceNe, Int.reduceLT, Int.reduceLE, if_true, if_false, reduceIte, decide_true, decide_false, decide_eq_true_eq, Bool.false_eq_true, Bool.and_true, Bool.true_and, Bool.and_false, Bool.false_and, Bool.or_true, Bool.or_false, Bool.true_or, Bool.false_or, beq_self_eq_true, Nat.zero_add, List.nil_append, List.isEmpty_nil, List.isEmpty_cons, and_self, true_and, and_true, eq_self, bt_beq, reduceCtorEq, List.set_set, List.all_nil, List.all_cons, List.all_append, set_app, get_app_eq, cut_tl, List.length_set, len_ref_a, list_ref_a, seq_ref_a, lsf_ref_a, dic_ref_a, lst_ref_a, seq_lst, seq_tup, lsf_lst, ix_ref_a, slc_ref_a, rev_ref_a, app_ref_a, appX_l, setIx_ref_a, bin_addX, addU, lstU, List.getElem?_set_ne, List.getElem?_set_self, List.getElem?_append_left, get_app_len, set_app_len, cs0, mk0, H, position H f0 h1 (by omega), atI_of (show 0 ≤ n - first by omega) e]
theorem is_done {n : Int} {x : U} (f0 : 0 ≤ first) (l : th.length = dn.length) (h1 : first ≤ n) (e : dn[(n - first).toNat]? = some x) : callN pr 0 (d + 5) 13 [.ref u, .int n] h = .ok x h := by
  have lt := (List.getElem?_eq_some_iff.mp e).1
  refine Ok_eq ?_
  rw [c13]; unfold b13
  simp -dsimp (maxSteps := 1000000) (disch := first | assumption | omega | (simp only [List.length_cons, List.length_nil, List.length_append, List.length_map, List.length_take, List.length_drop, List.length_set, List.length_range, List.length_reverse] <;> omega) | rfl | decide) only [OkS_cons, OkS_nil, OkS_nx, OkS_rt, OkS_bk, OkS_ct, OkS_toS, OkS_if, Ok_bind, Ok_bindN, Ok_nx, Ok_ok, Ok_ofS, S_expr, S_asg, S_ret, S_retN, S_pass, S_brk, S_cont, S_for, S_par, par2, par3, cst_int, cst_non, cst_bl, cst_str, ofW, ofWs, E_cst, E_glo, E_var, E_mut, E_bin, E_neg, E_not, E_cmp, E_fld, E_ix, E_rev, E_slc, E_lst, E_tup, E_dic0, E_call, E_make, E_meth, E_callv, E_bc, E_bm, bmX_l, bmX_d, kindU_ref, E_isi, E_rngL, E_sset, E_comp, evEs, T_cst, T_glo, T_var, T_bin, T_neg, T_fld, T_ix, T_rev, T_slc, T_lst, T_tup, T_call, T_make, T_meth, T_callv, T_bc, T_bm, T_isi, T_comp, T_not, T_and, T_or, T_ife, T_cmp, T_cmp2, isB_bl, E_and, E_or, E_ife, E_cmp2, evO, evC, evI, evG, evGs, wipeS, permU, calN_call, calN_cs, getS_0, getS_s, newL_c, newT_c, tru_bl, tru_int, tru_non, tru_lst, tru_tup, bin_add, bin_sub, bin_mulc, bin_fdivc, bin_mod, bin_addL, cmp_lt, cmp_le, cmp_gt, cmp_ge, cmp_isN, cmp_isnN, isNon_non, isNon_int, isNon_tup, isNon_lst, isNon_ref, isNon_bl, cmp_eqI, cmp_neI, cmp_eq, cmp_ne, cmpEq_n, eqD_if, own_ref, der_ref, id_b, own_lst, own_tup, own_non, own_bl, own_int, own_str, der_lst, der_tup, der_non, der_int, der_bl, der_str, isD_int, isD_bl, isD_non, isD_bstr, isD_tup, isD_lst, eqv_int, eqv_bl, eqv_non, eqv_str, eqv_lst, eqv_tup, eqvs_nil, eqvs_nc, eqvs_cn, eqvs_cc, eqvs_n, eqv_ni, eqv_in, bc_int, bc_abs, bc_max, bc_min, bc_divmod, bc_len, bc_lenF, bc_lenT, bc_list, bc_listT, bc_tuple, rep_bl, ix_lst, ix_tup, ix_frz, at_0, at_1, at_2, at_3, at_4, slc_lst, rev_lst, fldU, setFld, methOf, putF, isiU, isOne, tyName, thaw, isFr, Mi.tgsL, List.contains_cons, List.contains_nil, List.length_cons, List.length_nil, List.length_append, List.length_map, List.set_cons_zero, List.set_cons_succ, List.lookup_cons, List.lookup_nil, Option.map_some, Bool.not_true, Bool.not_false, Nat.reduceBEq, Nat.reduceEqDiff, Nat.reduceAdd, Nat.reduceLT, Int.reduceEq, Int.reduceNe, Int.reduceLT, Int.reduceLE, if_true, if_false, reduceIte, decide_true, decide_false, decide_eq_true_eq, Bool.false_eq_true, Bool.and_true, Bool.true_and, Bool.and_false, Bool.false_and, Bool.or_true, Bool.or_false, Bool.true_or, Bool.false_or, beq_self_eq_true, Nat.zero_add, List.nil_append, List.isEmpty_nil, List.isEmpty_cons, and_self, true_and, and_true, eq_self, bt_beq, reduceCtorEq, List.set_set, List.all_nil, List.all_cons, List.all_append, set_app, get_app_eq, cut_tl, List.length_set, len_ref_a, list_ref_a, seq_ref_a, lsf_ref_a, dic_ref_a, lst_ref_a, seq_lst, seq_tup, lsf_lst, ix_ref_a, slc_ref_a, rev_ref_a, app_ref_a, appX_l, setIx_ref_a, bin_addX, addU, lstU, List.getElem?_set_ne, List.getElem?_set_self, List.getElem?_append_left, get_app_len, set_app_len, cs0, mk0, H, position H f0 h1 (by omega), atI_of (show 0 ≤ n - first by omega) e]
theorem entered {x : U} (ne : (th.length : Int) ≠ many) (s1 : th.length ≤ 100) (s2 : dn.length ≤ 100) : callN pr 0 (d + 1) 11 [.ref u, x] h = .ok (.int (first + th.length)) (h.set u (.ins 0 [(0, .int many), (1, .int first), (2, .lst (th ++ [x])), (3, .lst (dn ++ [.bl false]))])) := by
  refine Ok_eq ?_
  rw [c11]; unfold b11
  simp -dsimp (maxSteps := 1000000) (disch := first | assumption | omega | (simp only [List.length_cons, List.length_nil, List.length_append, List.length_map, List.length_take, List.length_drop, List.length_set, List.length_range, List.length_reverse] <;> omega) | rfl | decide) only [OkS_cons, OkS_nil, OkS_nx, OkS_rt, OkS_bk, OkS_ct, OkS_toS, OkS_if, Ok_bind, Ok_bindN, Ok_nx, Ok_ok, Ok_ofS, S_expr, S_asg, S_ret, S_retN, S_pass, S_brk, S_cont, S_for, S_par, par2, par3, cst_int, cst_non, cst_bl, cst_str, ofW, ofWs, E_cst, E_glo, E_var, E_mut, E_bin, E_neg, E_not, E_cmp, E_fld, E_ix, E_rev, E_slc, E_lst, E_tup, E_dic0, E_call, E_make, E_meth, E_callv, E_bc, E_bm, bmX_l, bmX_d, kindU_ref, E_isi, E_rngL, E_sset, E_comp, evEs, T_cst, T_glo, T_var, T_bin, T_neg, T_fld, T_ix, T_rev, T_slc, T_lst, T_tup, T_call, T_make, T_meth, T_callv, T_bc, T_bm, T_isi, T_comp, T_not, T_and, T_or, T_ife, T_cmp, T_cmp2, isB_bl, E_and, E_or, E_ife, E_cmp2, evO, evC, evI, evG, evGs, wipeS, permU, calN_call, calN_cs, getS_0, getS_s, newL_c, newT_c, tru_bl, tru_int, tru_non, tru_lst, tru_tup, bin_add, bin_sub, bin_mulc, bin_fdivc, bin_mod, bin_addL, cmp_lt, cmp_le, cmp_gt, cmp_ge, cmp_isN, cmp_isnN, isNon_non, isNon_int, isNon_tup, isNon_lst, isNon_ref, isNon_bl, cmp_eqI, cmp_neI, cmp_eq, cmp_ne, cmpEq_n, eqD_if, own_ref, der_ref, id_b, own_lst, own_tup, own_non, own_bl, own_int, own_str, der_lst, der_tup, der_non, der_int, der_bl, der_str, isD_int, isD_bl, isD_non, isD_bstr, isD_tup, isD_lst, eqv_int, eqv_bl, eqv_non, eqv_str, eqv_lst, eqv_tup, eqvs_nil, eqvs_nc, eqvs_cn, eqvs_cc, eqvs_n, eqv_ni, eqv_in, bc_int, bc_abs, bc_max, bc_min, bc_divmod, bc_len, bc_lenF, bc_lenT, bc_list, bc_listT, bc_tuple, rep_bl, ix_lst, ix_tup, ix_frz, at_0, at_1, at_2, at_3, at_4, slc_lst, rev_lst, fldU, setFld, methOf, putF, isiU, isOne, tyName, thaw, isFr, Mi.tgsL, List.contains_cons, List.contains_nil, List.length_cons, List.length_nil, List.length_append, List.length_map, List.set_cons_zero, List.set_cons_succ, List.lookup_cons, List.lookup_nil, Option.map_some, Bool.not_true, Bool.not_false, Nat.reduceBEq, Nat.reduceEqDiff, Nat.reduceAdd, Nat.reduceLT, Int.reduceEq, Int.reduceNe, Int.reduceLT, Int.reduceLE, if_true, if_false, reduceIte, decide_true, decide_false, decide_eq_true_eq, Bool.false_eq_true, Bool.and_true, Bool.true_and, Bool.and_false, Bool.false_and, Bool.or_true, Bool.or_false, Bool.true_or, Bool.false_or, beq_self_eq_true, Nat.zero_add, List.nil_append, List.isEmpty_nil, List.isEmpty_cons, and_self, true_and, and_true, eq_self, bt_beq, reduceCtorEq, List.set_set, List.all_nil, List.all_cons, List.all_append, set_app, get_app_eq, cut_tl, List.length_set, len_ref_a, list_ref_a, seq_ref_a, lsf_ref_a, dic_ref_a, lst_ref_a, seq_lst, seq_tup, lsf_lst, ix_ref_a, slc_ref_a, rev_ref_a, app_ref_a, appX_l, setIx_ref_a, bin_addX, addU, lstU, List.getElem?_set_ne, List.getElem?_set_self, List.getElem?_append_left, get_app_len, set_app_len, cs0, mk0, H, ne, get_set_eq H]
  congr 1; omega
theorem numbers (f0 : 0 ≤ first) (f1 : first ≤ 1000000) (s1 : th.length ≤ 100) : callN pr 0 (d + 1) 8 [.ref u] h = .ok (.lst ((List.range th.length).map fun i => .int (first + (i : Nat)))) h := by
  refine Ok_eq ?_
  rw [c8]; unfold b8
  simp -dsimp (maxSteps := 1000000) (disch := first | assumption | omega | (simp only [List.length_cons, List.length_nil, List.length_append, List.length_map, List.length_take, List.length_drop, List.length_set, List.length_range, List.length_reverse] <;> omega) | rfl | decide) only [OkS_cons, OkS_nil, OkS_nx, OkS_rt, OkS_bk, OkS_ct, OkS_toS, OkS_if, Ok_bind, Ok_bindN, Ok_nx, Ok_ok, Ok_ofS, S_expr, S_asg, S_ret, S_retN, S_pass, S_brk, S_cont, S_for, S_par, par2, par3, cst_int, cst_non, cst_bl, cst_str, ofW, ofWs, E_cst, E_glo, E_var, E_mut, E_bin, E_neg, E_not, E_cmp, E_fld, E_ix, E_rev, E_slc, E_lst, E_tup, E_dic0, E_call, E_make, E_meth, E_callv, E_bc, E_bm, bmX_l, bmX_d, kindU_ref, E_isi, E_rngL, E_sset, E_comp, evEs, T_cst, T_glo, T_var, T_bin, T_neg, T_fld, T_ix, T_rev, T_slc, T_lst, T_tup, T_call, T_make, T_meth, T_callv, T_bc, T_bm, T_isi, T_comp, T_not, T_and, T_or, T_ife, T_cmp, T_cmp2, isB_bl, E_and, E_or, E_ife, E_cmp2, evO, evC, evI, evG, evGs, wipeS, permU, calN_call, calN_cs, getS_0, getS_s, newL_c, newT_c, tru_bl, tru_int, tru_non, tru_lst, tru_tup, bin_add, bin_sub, bin_mulc, bin_fdivc, bin_mod, bin_addL, cmp_lt, cmp_le, cmp_gt, cmp_ge, cmp_isN, cmp_isnN, isNon_non, isNon_int, isNon_tup, isNon_lst, isNon_ref, isNon_bl, cmp_eqI, cmp_neI, cmp_eq, cmp_ne, cmpEq_n, eqD_if, own_ref, der_ref, id_b, own_lst, own_tup, own_non, own_bl, own_int, own_str, der_lst, der_tup, der_non, der_int, der_bl, der_str, isD_int, isD_bl, isD_non, isD_bstr, isD_tup, isD_lst, eqv_int, eqv_bl, eqv_non, eqv_str, eqv_lst, eqv_tup, eqvs_nil, eqvs_nc, eqvs_cn, eqvs_cc, eqvs_n, eqv_ni, eqv_in, bc_int, bc_abs, bc_max, bc_min, bc_divmod, bc_len, bc_lenF, bc_lenT, bc_list, bc_listT, bc_tuple, rep_bl, ix_lst, ix_tup, ix_frz, at_0, at_1, at_2, at_3, at_4, slc_lst, rev_lst, fldU, setFld, methOf, putF, isiU, isOne, tyName, thaw, isFr, Mi.tgsL, List.contains_cons, List.contains_nil, List.length_cons, List.length_nil, List.length_append, List.length_map, List.set_cons_zero, List.set_cons_succ, List.lookup_cons, List.lookup_nil, Option.map_some, Bool.not_true, Bool.not_false, Nat.reduceBEq, Nat.reduceEqDiff, Nat.reduceAdd, Nat.reduceLT, Int.reduceEq, Int.reduceNe, Int.reduceLT, Int.reduceLE, if_true, if_false, reduceIte, decide_true, decide_false, decide_eq_true_eq, Bool.false_eq_true, Bool.and_true, Bool.true_and, Bool.and_false, Bool.false_and, Bool.or_true, Bool.or_false, Bool.true_or, Bool.false_or, beq_self_eq_true, Nat.zero_add, List.nil_append, List.isEmpty_nil, List.isEmpty_cons, and_self, true_and, and_true, eq_self, bt_beq, reduceCtorEq, List.set_set, List.all_nil, List.all_cons, List.all_append, set_app, get_app_eq, cut_tl, List.length_set, len_ref_a, list_ref_a, seq_ref_a, lsf_ref_a, dic_ref_a, lst_ref_a, seq_lst, seq_tup, lsf_lst, ix_ref_a, slc_ref_a, rev_ref_a, app_ref_a, appX_l, setIx_ref_a, bin_addX, addU, lstU, List.getElem?_set_ne, List.getElem?_set_self, List.getElem?_append_left, get_app_len, set_app_len, cs0, mk0, H, rng_c (show -(2 ^ 62) ≤ first ∧ first < 2 ^ 62 ∧ -(2 ^ 62) ≤ first + (th.length : Int) ∧ first + (th.length : Int) < 2 ^ 62 ∧ (first + (th.length : Int) - first).toNat ≤ 2 ^ 24 from ⟨by omega, by omega, by omega, by omega, by omega⟩), show (first + (th.length : Int) - first).toNat = th.length by omega]
theorem oldest (iD : ∀ n, th.all (isD (n + 3)) = true) : callN pr 0 (d + 1) 9 [.ref u] h = .ok (if th.isEmpty then .non else .int first) h := by
  refine Ok_eq ?_
  rw [c9]; unfold b9
  cases th
  · simp -dsimp (maxSteps := 1000000) (disch := first | assumption | omega | (simp only [List.length_cons, List.length_nil, List.length_append, List.length_map, List.length_take, List.length_drop, List.length_set, List.length_range, List.length_reverse] <;> omega) | rfl | decide) only [OkS_cons, OkS_nil, OkS_nx, OkS_rt, OkS_bk, OkS_ct, OkS_toS, OkS_if, Ok_bind, Ok_bindN, Ok_nx, Ok_ok, Ok_ofS, S_expr, S_asg, S_ret, S_retN, S_pass, S_brk, S_cont, S_for, S_par, par2, par3, cst_int, cst_non, cst_bl, cst_str, ofW, ofWs, E_cst, E_glo, E_var, E_mut, E_bin, E_neg, E_not, E_cmp, E_fld, E_ix, E_rev, E_slc, E_lst, E_tup, E_dic0, E_call, E_make, E_meth, E_callv, E_bc, E_bm, bmX_l, bmX_d, kindU_ref, E_isi, E_rngL, E_sset, E_comp, evEs, T_cst, T_glo, T_var, T_bin, T_neg, T_fld, T_ix, T_rev, T_slc, T_lst, T_tup, T_call, T_make, T_meth, T_callv, T_bc, T_bm, T_isi, T_comp, T_not, T_and, T_or, T_ife, T_cmp, T_cmp2, isB_bl, E_and, E_or, E_ife, E_cmp2, evO, evC, evI, evG, evGs, wipeS, permU, calN_call, calN_cs, getS_0, getS_s, newL_c, newT_c, tru_bl, tru_int, tru_non, tru_lst, tru_tup, bin_add, bin_sub, bin_mulc, bin_fdivc, bin_mod, bin_addL, cmp_lt, cmp_le, cmp_gt, cmp_ge, cmp_isN, cmp_isnN, isNon_non, isNon_int, isNon_tup, isNon_lst, isNon_ref, isNon_bl, cmp_eqI, cmp_neI, cmp_eq, cmp_ne, cmpEq_n, eqD_if, own_ref, der_ref, id_b, own_lst, own_tup, own_non, own_bl, own_int, own_str, der_lst, der_tup, der_non, der_int, der_bl, der_str, isD_int, isD_bl, isD_non, isD_bstr, isD_tup, isD_lst, eqv_int, eqv_bl, eqv_non, eqv_str, eqv_lst, eqv_tup, eqvs_nil, eqvs_nc, eqvs_cn, eqvs_cc, eqvs_n, eqv_ni, eqv_in, bc_int, bc_abs, bc_max, bc_min, bc_divmod, bc_len, bc_lenF, bc_lenT, bc_list, bc_listT, bc_tuple, rep_bl, ix_lst, ix_tup, ix_frz, at_0, at_1, at_2, at_3, at_4, slc_lst, rev_lst, fldU, setFld, methOf, putF, isiU, isOne, tyName, thaw, isFr, Mi.tgsL, List.contains_cons, List.contains_nil, List.length_cons, List.length_nil, List.length_append, List.length_map, List.set_cons_zero, List.set_cons_succ, List.lookup_cons, List.lookup_nil, Option.map_some, Bool.not_true, Bool.not_false, Nat.reduceBEq, Nat.reduceEqDiff, Nat.reduceAdd, Nat.reduceLT, Int.reduceEq, Int.reduceNe, Int.reduceLT, Int.reduceLE, if_true, if_false, reduceIte, decide_true, decide_false, decide_eq_true_eq, Bool.false_eq_true, Bool.and_true, Bool.true_and, Bool.and_false, Bool.false_and, Bool.or_true, Bool.or_false, Bool.true_or, Bool.false_or, beq_self_eq_true, Nat.zero_add, List.nil_append, List.isEmpty_nil, List.isEmpty_cons, and_self, true_and, and_true, eq_self, bt_beq, reduceCtorEq, List.set_set, List.all_nil, List.all_cons, List.all_append, set_app, get_app_eq, cut_tl, List.length_set, len_ref_a, list_ref_a, seq_ref_a, lsf_ref_a, dic_ref_a, lst_ref_a, seq_lst, seq_tup, lsf_lst, ix_ref_a, slc_ref_a, rev_ref_a, app_ref_a, appX_l, setIx_ref_a, bin_addX, addU, lstU, List.getElem?_set_ne, List.getElem?_set_self, List.getElem?_append_left, get_app_len, set_app_len, cs0, mk0, H]
  · simp -dsimp (maxSteps := 1000000) (disch := first | assumption | omega | (simp only [List.length_cons, List.length_nil, List.length_append, List.length_map, List.length_take, List.length_drop, List.length_set, List.length_range, List.length_reverse] <;> omega) | rfl | decide) only [OkS_cons, OkS_nil, OkS_nx, OkS_rt, OkS_bk, OkS_ct, OkS_toS, OkS_if, Ok_bind, Ok_bindN, Ok_nx, Ok_ok, Ok_ofS, S_expr, S_asg, S_ret, S_retN, S_pass, S_brk, S_cont, S_for, S_par, par2, par3, cst_int, cst_non, cst_bl, cst_str, ofW, ofWs, E_cst, E_glo, E_var, E_mut, E_bin, E_neg, E_not, E_cmp, E_fld, E_ix, E_rev, E_slc, E_lst, E_tup, E_dic0, E_call, E_make, E_meth, E_callv, E_bc, E_bm, bmX_l, bmX_d, kindU_ref, E_isi, E_rngL, E_sset, E_comp, evEs, T_cst, T_glo, T_var, T_bin, T_neg, T_fld, T_ix, T_rev, T_slc, T_lst, T_tup, T_call, T_make, T_meth, T_callv, T_bc, T_bm, T_isi, T_comp, T_not, T_and, T_or, T_ife, T_cmp, T_cmp2, isB_bl, E_and, E_or, E_ife, E_cmp2, evO, evC, evI, evG, evGs, wipeS, permU, calN_call, calN_cs, getS_0, getS_s, newL_c, newT_c, tru_bl, tru_int, tru_non, tru_lst, tru_tup, bin_add, bin_sub, bin_mulc, bin_fdivc, bin_mod, bin_addL, cmp_lt, cmp_le, cmp_gt, cmp_ge, cmp_isN, cmp_isnN, isNon_non, isNon_int, isNon_tup, isNon_lst, isNon_ref, isNon_bl, cmp_eqI, cmp_neI, cmp_eq, cmp_ne, cmpEq_n, eqD_if, own_ref, der_ref, id_b, own_lst, own_tup, own_non, own_bl, own_int, own_str, der_lst, der_tup, der_non, der_int, der_bl, der_str, isD_int, isD_bl, isD_non, isD_bstr, isD_tup, isD_lst, eqv_int, eqv_bl, eqv_non, eqv_str, eqv_lst, eqv_tup, eqvs_nil, eqvs_nc, eqvs_cn, eqvs_cc, eqvs_n, eqv_ni, eqv_in, bc_int, bc_abs, bc_max, bc_min, bc_divmod, bc_len, bc_lenF, bc_lenT, bc_list, bc_listT, bc_tuple, rep_bl, ix_lst, ix_tup, ix_frz, at_0, at_1, at_2, at_3, at_4, slc_lst, rev_lst, fldU, setFld, methOf, putF, isiU, isOne, tyName, thaw, isFr, Mi.tgsL, List.contains_cons, List.contains_nil, List.length_cons, List.length_nil, List.length_append, List.length_map, List.set_cons_zero, List.set_cons_succ, List.lookup_cons, List.lookup_nil, Option.map_some, Bool.not_true, Bool.not_false, Nat.reduceBEq, Nat.reduceEqDiff, Nat.reduceAdd, Nat.reduceLT, Int.reduceEq, Int.reduceNe, Int.reduceLT, Int.reduceLE, if_true, if_false, reduceIte, decide_true, decide_false, decide_eq_true_eq, Bool.false_eq_true, Bool.and_true, Bool.true_and, Bool.and_false, Bool.false_and, Bool.or_true, Bool.or_false, Bool.true_or, Bool.false_or, beq_self_eq_true, Nat.zero_add, List.nil_append, List.isEmpty_nil, List.isEmpty_cons, and_self, true_and, and_true, eq_self, bt_beq, reduceCtorEq, List.set_set, List.all_nil, List.all_cons, List.all_append, set_app, get_app_eq, cut_tl, List.length_set, len_ref_a, list_ref_a, seq_ref_a, lsf_ref_a, dic_ref_a, lst_ref_a, seq_lst, seq_tup, lsf_lst, ix_ref_a, slc_ref_a, rev_ref_a, app_ref_a, appX_l, setIx_ref_a, bin_addX, addU, lstU, List.getElem?_set_ne, List.getElem?_set_self, List.getElem?_append_left, get_app_len, set_app_len, cs0, mk0, H, iD]
theorem done {n : Int} (f0 : 0 ≤ first) (l : th.length = dn.length) (h1 : first ≤ n) (e : dn[(n - first).toNat]? = some (.bl false)) (sz : dn.length ≤ 100) : callN pr 0 (d + 5) 14 [.ref u, .int n] h = .ok .non (h.set u (.ins 0 [(0, .int many), (1, .int first), (2, .lst th), (3, .lst (dn.set (n - first).toNat (.bl true)))])) := by
  have lt := (List.getElem?_eq_some_iff.mp e).1
  refine Ok_eq ?_
  rw [c14]; unfold b14
  simp -dsimp (maxSteps := 1000000) (disch := first | assumption | omega | (simp only [List.length_cons, List.length_nil, List.length_append, List.length_map, List.length_take, List.length_drop, List.length_set, List.length_range, List.length_reverse] <;> omega) | rfl | decide) only [OkS_cons, OkS_nil, OkS_nx, OkS_rt, OkS_bk, OkS_ct, OkS_toS, OkS_if, Ok_bind, Ok_bindN, Ok_nx, Ok_ok, Ok_ofS, S_expr, S_asg, S_ret, S_retN, S_pass, S_brk, S_cont, S_for, S_par, par2, par3, cst_int, cst_non, cst_bl, cst_str, ofW, ofWs, E_cst, E_glo, E_var, E_mut, E_bin, E_neg, E_not, E_cmp, E_fld, E_ix, E_rev, E_slc, E_lst, E_tup, E_dic0, E_call, E_make, E_meth, E_callv, E_bc, E_bm, bmX_l, bmX_d, kindU_ref, E_isi, E_rngL, E_sset, E_comp, evEs, T_cst, T_glo, T_var, T_bin, T_neg, T_fld, T_ix, T_rev, T_slc, T_lst, T_tup, T_call, T_make, T_meth, T_callv, T_bc, T_bm, T_isi, T_comp, T_not, T_and, T_or, T_ife, T_cmp, T_cmp2, isB_bl, E_and, E_or, E_ife, E_cmp2, evO, evC, evI, evG, evGs, wipeS, permU, calN_call, calN_cs, getS_0, getS_s, newL_c, newT_c, tru_bl, tru_int, tru_non, tru_lst, tru_tup, bin_add, bin_sub, bin_mulc, bin_fdivc, bin_mod, bin_addL, cmp_lt, cmp_le, cmp_gt, cmp_ge, cmp_isN, cmp_isnN, isNon_non, isNon_int, isNon_tup, isNon_lst, isNon_ref, isNon_bl, cmp_eqI, cmp_neI, cmp_eq, cmp_ne, cmpEq_n, eqD_if, own_ref, der_ref, id_b, own_lst, own_tup, own_non, own_bl, own_int, own_str, der_lst, der_tup, der_non, der_int, der_bl, der_str, isD_int, isD_bl, isD_non, isD_bstr, isD_tup, isD_lst, eqv_int, eqv_bl, eqv_non, eqv_str, eqv_lst, eqv_tup, eqvs_nil, eqvs_nc, eqvs_cn, eqvs_cc, eqvs_n, eqv_ni, eqv_in, bc_int, bc_abs, bc_max, bc_min, bc_divmod, bc_len, bc_lenF, bc_lenT, bc_list, bc_listT, bc_tuple, rep_bl, ix_lst, ix_tup, ix_frz, at_0, at_1, at_2, at_3, at_4, slc_lst, rev_lst, fldU, setFld, methOf, putF, isiU, isOne, tyName, thaw, isFr, Mi.tgsL, List.contains_cons, List.contains_nil, List.length_cons, List.length_nil, List.length_append, List.length_map, List.set_cons_zero, List.set_cons_succ, List.lookup_cons, List.lookup_nil, Option.map_some, Bool.not_true, Bool.not_false, Nat.reduceBEq, Nat.reduceEqDiff, Nat.reduceAdd, Nat.reduceLT, Int.reduceEq, Int.reduceNe, Int.reduceLT, Int.reduceLE, if_true, if_false, reduceIte, decide_true, decide_false, decide_eq_true_eq, Bool.false_eq_true, Bool.and_true, Bool.true_and, Bool.and_false, Bool.false_and, Bool.or_true, Bool.or_false, Bool.true_or, Bool.false_or, beq_self_eq_true, Nat.zero_add, List.nil_append, List.isEmpty_nil, List.isEmpty_cons, and_self, true_and, and_true, eq_self, bt_beq, reduceCtorEq, List.set_set, List.all_nil, List.all_cons, List.all_append, set_app, get_app_eq, cut_tl, List.length_set, len_ref_a, list_ref_a, seq_ref_a, lsf_ref_a, dic_ref_a, lst_ref_a, seq_lst, seq_tup, lsf_lst, ix_ref_a, slc_ref_a, rev_ref_a, app_ref_a, appX_l, setIx_ref_a, bin_addX, addU, lstU, List.getElem?_set_ne, List.getElem?_set_self, List.getElem?_append_left, get_app_len, set_app_len, cs0, mk0, H, position H f0 h1 (by omega), atI_of (show 0 ≤ n - first by omega) e, cut_take (show 0 ≤ n - first by omega), cut_drop (show 0 ≤ n - first + 1 by omega)]
  have e2 : (n - first + 1).toNat = (n - first).toNat + 1 := by omega
  have e3 : dn.set (n - first).toNat (.bl true) = List.take (n - first).toNat dn ++ [U.bl true] ++ List.drop (n - first + 1).toNat dn := by
    rw [e2, List.append_assoc, List.set_eq_take_append_cons_drop, if_pos lt]; rfl
  rw [e3]
theorem left {x : U} {th' dn' : List U} (ex : th = x :: th') (ed : dn = .bl true :: dn') : callN pr 0 (d + 1) 15 [.ref u] h = .ok (.tup [.int first, x]) (h.set u (.ins 0 [(0, .int many), (1, .int (first + 1)), (2, .lst th'), (3, .lst dn')])) := by
  subst ex ed
  refine Ok_eq ?_
  rw [c15]; unfold b15
  have k1 : cutU (.bl true :: dn') none (some 1) = [.bl true] := by rw [cut_take (by decide)]; rfl
  have k2 : ∀ (y : U) (ys : List U), cutU (y :: ys) (some 1) none = ys := fun y ys => by rw [cut_drop (by decide)]; rfl
  simp -dsimp (maxSteps := 1000000) (disch := first | assumption | omega | (simp only [List.length_cons, List.length_nil, List.length_append, List.length_map, List.length_take, List.length_drop, List.length_set, List.length_range, List.length_reverse] <;> omega) | rfl | decide) only [OkS_cons, OkS_nil, OkS_nx, OkS_rt, OkS_bk, OkS_ct, OkS_toS, OkS_if, Ok_bind, Ok_bindN, Ok_nx, Ok_ok, Ok_ofS, S_expr, S_asg, S_ret, S_retN, S_pass, S_brk, S_cont, S_for, S_par, par2, par3, cst_int, cst_non, cst_bl, cst_str, ofW, ofWs, E_cst, E_glo, E_var, E_mut, E_bin, E_neg, E_not, E_cmp, E_fld, E_ix, E_rev, E_slc, E_lst, E_tup, E_dic0, E_call, E_make, E_meth, E_callv, E_bc, E_bm, bmX_l, bmX_d, kindU_ref, E_isi, E_rngL, E_sset, E_comp, evEs, T_cst, T_glo, T_var, T_bin, T_neg, T_fld, T_ix, T_rev, T_slc, T_lst, T_tup, T_call, T_make, T_meth, T_callv, T_bc, T_bm, T_isi, T_comp, T_not, T_and, T_or, T_ife, T_cmp, T_cmp2, isB_bl, E_and, E_or, E_ife, E_cmp2, evO, evC, evI, evG, evGs, wipeS, permU, calN_call, calN_cs, getS_0, getS_s, newL_c, newT_c, tru_bl, tru_int, tru_non, tru_lst, tru_tup, bin_add, bin_sub, bin_mulc, bin_fdivc, bin_mod, bin_addL, cmp_lt, cmp_le, cmp_gt, cmp_ge, cmp_isN, cmp_isnN, isNon_non, isNon_int, isNon_tup, isNon_lst, isNon_ref, isNon_bl, cmp_eqI, cmp_neI, cmp_eq, cmp_ne, cmpEq_n, eqD_if, own_ref, der_ref, id_b, own_lst, own_tup, own_non, own_bl, own_int, own_str, der_lst, der_tup, der_non, der_int, der_bl, der_str, isD_int, isD_bl, isD_non, isD_bstr, isD_tup, isD_lst, eqv_int, eqv_bl, eqv_non, eqv_str, eqv_lst, eqv_tup, eqvs_nil, eqvs_nc, eqvs_cn, eqvs_cc, eqvs_n, eqv_ni, eqv_in, bc_int, bc_abs, bc_max, bc_min, bc_divmod, bc_len, bc_lenF, bc_lenT, bc_list, bc_listT, bc_tuple, rep_bl, ix_lst, ix_tup, ix_frz, at_0, at_1, at_2, at_3, at_4, slc_lst, rev_lst, fldU, setFld, methOf, putF, isiU, isOne, tyName, thaw, isFr, Mi.tgsL, List.contains_cons, List.contains_nil, List.length_cons, List.length_nil, List.length_append, List.length_map, List.set_cons_zero, List.set_cons_succ, List.lookup_cons, List.lookup_nil, Option.map_some, Bool.not_true, Bool.not_false, Nat.reduceBEq, Nat.reduceEqDiff, Nat.reduceAdd, Nat.reduceLT, Int.reduceEq, Int.reduceNe, Int.reduceLT, Int.reduceLE, if_true, if_false, reduceIte, decide_true, decide_false, decide_eq_true_eq, Bool.false_eq_true, Bool.and_true, Bool.true_and, Bool.and_false, Bool.false_and, Bool.or_true, Bool.or_false, Bool.true_or, Bool.false_or, beq_self_eq_true, Nat.zero_add, List.nil_append, List.isEmpty_nil, List.isEmpty_cons, and_self, true_and, and_true, eq_self, bt_beq, reduceCtorEq, List.set_set, List.all_nil, List.all_cons, List.all_append, set_app, get_app_eq, cut_tl, List.length_set, len_ref_a, list_ref_a, seq_ref_a, lsf_ref_a, dic_ref_a, lst_ref_a, seq_lst, seq_tup, lsf_lst, ix_ref_a, slc_ref_a, rev_ref_a, app_ref_a, appX_l, setIx_ref_a, bin_addX, addU, lstU, List.getElem?_set_ne, List.getElem?_set_self, List.getElem?_append_left, get_app_len, set_app_len, cs0, mk0, H, k1, k2, get_set_eq H]
theorem dropped {n : Int} (f0 : 0 ≤ first) (n0 : 0 ≤ n) (s1 : th.length ≤ 100) (l : th.length = dn.length) : callN pr 0 (d + 4) 16 [.ref u, .int n] h = .ok (.lst ((List.range (th.length - (n - first).toNat)).map fun i : Nat => U.tup [.int (first + (((n - first).toNat + i : Nat) : Int)), th.getD ((n - first).toNat + i) .non]).reverse) (h.set u (.ins 0 [(0, .int many), (1, .int first), (2, .lst (th.take (n - first).toNat)), (3, .lst (dn.take (n - first).toNat))])) := by
  refine Ok_eq ?_
  rw [c16]; unfold b16
  generalize em : (n - first).toNat = m
  have ek : min (max 0 (n - first)) (th.length : Int) = ((min m th.length : Nat) : Int) := by omega
  have c0 : -(2 ^ 62) ≤ ((min m th.length : Nat) : Int) ∧ ((min m th.length : Nat) : Int) < 2 ^ 62 ∧ -(2 ^ 62) ≤ (th.length : Int) ∧ (th.length : Int) < 2 ^ 62 := ⟨by omega, by omega, by omega, by omega⟩
  simp -dsimp (maxSteps := 1000000) (disch := first | assumption | omega | (simp only [List.length_cons, List.length_nil, List.length_append, List.length_map, List.length_take, List.length_drop, List.length_set, List.length_range, List.length_reverse] <;> omega) | rfl | decide) only [OkS_cons, OkS_nil, OkS_nx, OkS_rt, OkS_bk, OkS_ct, OkS_toS, OkS_if, Ok_bind, Ok_bindN, Ok_nx, Ok_ok, Ok_ofS, S_expr, S_asg, S_ret, S_retN, S_pass, S_brk, S_cont, S_for, S_par, par2, par3, cst_int, cst_non, cst_bl, cst_str, ofW, ofWs, E_cst, E_glo, E_var, E_mut, E_bin, E_neg, E_not, E_cmp, E_fld, E_ix, E_rev, E_slc, E_lst, E_tup, E_dic0, E_call, E_make, E_meth, E_callv, E_bc, E_bm, bmX_l, bmX_d, kindU_ref, E_isi, E_rngL, E_sset, E_comp, evEs, T_cst, T_glo, T_var, T_bin, T_neg, T_fld, T_ix, T_rev, T_slc, T_lst, T_tup, T_call, T_make, T_meth, T_callv, T_bc, T_bm, T_isi, T_comp, T_not, T_and, T_or, T_ife, T_cmp, T_cmp2, isB_bl, E_and, E_or, E_ife, E_cmp2, evO, evC, evI, evG, evGs, wipeS, permU, calN_call, calN_cs, getS_0, getS_s, newL_c, newT_c, tru_bl, tru_int, tru_non, tru_lst, tru_tup, bin_add, bin_sub, bin_mulc, bin_fdivc, bin_mod, bin_addL, cmp_lt, cmp_le, cmp_gt, cmp_ge, cmp_isN, cmp_isnN, isNon_non, isNon_int, isNon_tup, isNon_lst, isNon_ref, isNon_bl, cmp_eqI, cmp_neI, cmp_eq, cmp_ne, cmpEq_n, eqD_if, own_ref, der_ref, id_b, own_lst, own_tup, own_non, own_bl, own_int, own_str, der_lst, der_tup, der_non, der_int, der_bl, der_str, isD_int, isD_bl, isD_non, isD_bstr, isD_tup, isD_lst, eqv_int, eqv_bl, eqv_non, eqv_str, eqv_lst, eqv_tup, eqvs_nil, eqvs_nc, eqvs_cn, eqvs_cc, eqvs_n, eqv_ni, eqv_in, bc_int, bc_abs, bc_max, bc_min, bc_divmod, bc_len, bc_lenF, bc_lenT, bc_list, bc_listT, bc_tuple, rep_bl, ix_lst, ix_tup, ix_frz, at_0, at_1, at_2, at_3, at_4, slc_lst, rev_lst, fldU, setFld, methOf, putF, isiU, isOne, tyName, thaw, isFr, Mi.tgsL, List.contains_cons, List.contains_nil, List.length_cons, List.length_nil, List.length_append, List.length_map, List.set_cons_zero, List.set_cons_succ, List.lookup_cons, List.lookup_nil, Option.map_some, Bool.not_true, Bool.not_false, Nat.reduceBEq, Nat.reduceEqDiff, Nat.reduceAdd, Nat.reduceLT, Int.reduceEq, Int.reduceNe, Int.reduceLT, Int.reduceLE, if_true, if_false, reduceIte, decide_true, decide_false, decide_eq_true_eq, Bool.false_eq_true, Bool.and_true, Bool.true_and, Bool.and_false, Bool.false_and, Bool.or_true, Bool.or_false, Bool.true_or, Bool.false_or, beq_self_eq_true, Nat.zero_add, List.nil_append, List.isEmpty_nil, List.isEmpty_cons, and_self, true_and, and_true, eq_self, bt_beq, reduceCtorEq, List.set_set, List.all_nil, List.all_cons, List.all_append, set_app, get_app_eq, cut_tl, List.length_set, len_ref_a, list_ref_a, seq_ref_a, lsf_ref_a, dic_ref_a, lst_ref_a, seq_lst, seq_tup, lsf_lst, ix_ref_a, slc_ref_a, rev_ref_a, app_ref_a, appX_l, setIx_ref_a, bin_addX, addU, lstU, List.getElem?_set_ne, List.getElem?_set_self, List.getElem?_append_left, get_app_len, set_app_len, cs0, mk0, H, want_number n0, ek, rngJ_c c0]
  have e1 : ((th.length : Int) - ((min m th.length : Nat) : Int)).toNat = th.length - m := by omega
  rw [e1]
  refine comp_map src_rng (fun u => match u with | .int j => .tup [.int (first + j), th.getD j.toNat .non] | _ => .non) (by simp; omega) ?_ ?_
  · intro v mv
    obtain ⟨i, hi, rfl⟩ := List.mem_map.mp mv
    have hi' : i < th.length - m := by simpa using hi
    have lt : (((min m th.length : Nat) : Int) + (i : Int)).toNat < th.length := by omega
    simp -dsimp (maxSteps := 1000000) (disch := first | assumption | omega | (simp only [List.length_cons, List.length_nil, List.length_append, List.length_map, List.length_take, List.length_drop, List.length_set, List.length_range, List.length_reverse] <;> omega) | rfl | decide) only [OkS_cons, OkS_nil, OkS_nx, OkS_rt, OkS_bk, OkS_ct, OkS_toS, OkS_if, Ok_bind, Ok_bindN, Ok_nx, Ok_ok, Ok_ofS, S_expr, S_asg, S_ret, S_retN, S_pass, S_brk, S_cont, S_for, S_par, par2, par3, cst_int, cst_non, cst_bl, cst_str, ofW, ofWs, E_cst, E_glo, E_var, E_mut, E_bin, E_neg, E_not, E_cmp, E_fld, E_ix, E_rev, E_slc, E_lst, E_tup, E_dic0, E_call, E_make, E_meth, E_callv, E_bc, E_bm, bmX_l, bmX_d, kindU_ref, E_isi, E_rngL, E_sset, E_comp, evEs, T_cst, T_glo, T_var, T_bin, T_neg, T_fld, T_ix, T_rev, T_slc, T_lst, T_tup, T_call, T_make, T_meth, T_callv, T_bc, T_bm, T_isi, T_comp, T_not, T_and, T_or, T_ife, T_cmp, T_cmp2, isB_bl, E_and, E_or, E_ife, E_cmp2, evO, evC, evI, evG, evGs, wipeS, permU, calN_call, calN_cs, getS_0, getS_s, newL_c, newT_c, tru_bl, tru_int, tru_non, tru_lst, tru_tup, bin_add, bin_sub, bin_mulc, bin_fdivc, bin_mod, bin_addL, cmp_lt, cmp_le, cmp_gt, cmp_ge, cmp_isN, cmp_isnN, isNon_non, isNon_int, isNon_tup, isNon_lst, isNon_ref, isNon_bl, cmp_eqI, cmp_neI, cmp_eq, cmp_ne, cmpEq_n, eqD_if, own_ref, der_ref, id_b, own_lst, own_tup, own_non, own_bl, own_int, own_str, der_lst, der_tup, der_non, der_int, der_bl, der_str, isD_int, isD_bl, isD_non, isD_bstr, isD_tup, isD_lst, eqv_int, eqv_bl, eqv_non, eqv_str, eqv_lst, eqv_tup, eqvs_nil, eqvs_nc, eqvs_cn, eqvs_cc, eqvs_n, eqv_ni, eqv_in, bc_int, bc_abs, bc_max, bc_min, bc_divmod, bc_len, bc_lenF, bc_lenT, bc_list, bc_listT, bc_tuple, rep_bl, ix_lst, ix_tup, ix_frz, at_0, at_1, at_2, at_3, at_4, slc_lst, rev_lst, fldU, setFld, methOf, putF, isiU, isOne, tyName, thaw, isFr, Mi.tgsL, List.contains_cons, List.contains_nil, List.length_cons, List.length_nil, List.length_append, List.length_map, List.set_cons_zero, List.set_cons_succ, List.lookup_cons, List.lookup_nil, Option.map_some, Bool.not_true, Bool.not_false, Nat.reduceBEq, Nat.reduceEqDiff, Nat.reduceAdd, Nat.reduceLT, Int.reduceEq, Int.reduceNe, Int.reduceLT, Int.reduceLE, if_true, if_false, reduceIte, decide_true, decide_false, decide_eq_true_eq, Bool.false_eq_true, Bool.and_true, Bool.true_and, Bool.and_false, Bool.false_and, Bool.or_true, Bool.or_false, Bool.true_or, Bool.false_or, beq_self_eq_true, Nat.zero_add, List.nil_append, List.isEmpty_nil, List.isEmpty_cons, and_self, true_and, and_true, eq_self, bt_beq, reduceCtorEq, List.set_set, List.all_nil, List.all_cons, List.all_append, set_app, get_app_eq, cut_tl, List.length_set, len_ref_a, list_ref_a, seq_ref_a, lsf_ref_a, dic_ref_a, lst_ref_a, seq_lst, seq_tup, lsf_lst, ix_ref_a, slc_ref_a, rev_ref_a, app_ref_a, appX_l, setIx_ref_a, bin_addX, addU, lstU, List.getElem?_set_ne, List.getElem?_set_self, List.getElem?_append_left, get_app_len, set_app_len, cs0, mk0, H, atI_of (show 0 ≤ ((min m th.length : Nat) : Int) + (i : Int) by omega) (List.getElem?_eq_getElem lt)]
    simp [List.getD_eq_getElem?_getD, List.getElem?_eq_getElem lt]
  · have k1 : cutU th none (some ((min m th.length : Nat) : Int)) = th.take m := by rw [cut_take (by omega)]; simp [List.take_eq_take_iff]
    have k2 : cutU dn none (some ((min m th.length : Nat) : Int)) = dn.take m := by rw [cut_take (by omega), l]; simp [List.take_eq_take_iff]
    simp -dsimp (maxSteps := 1000000) (disch := first | assumption | omega | (simp only [List.length_cons, List.length_nil, List.length_append, List.length_map, List.length_take, List.length_drop, List.length_set, List.length_range, List.length_reverse] <;> omega) | rfl | decide) only [OkS_cons, OkS_nil, OkS_nx, OkS_rt, OkS_bk, OkS_ct, OkS_toS, OkS_if, Ok_bind, Ok_bindN, Ok_nx, Ok_ok, Ok_ofS, S_expr, S_asg, S_ret, S_retN, S_pass, S_brk, S_cont, S_for, S_par, par2, par3, cst_int, cst_non, cst_bl, cst_str, ofW, ofWs, E_cst, E_glo, E_var, E_mut, E_bin, E_neg, E_not, E_cmp, E_fld, E_ix, E_rev, E_slc, E_lst, E_tup, E_dic0, E_call, E_make, E_meth, E_callv, E_bc, E_bm, bmX_l, bmX_d, kindU_ref, E_isi, E_rngL, E_sset, E_comp, evEs, T_cst, T_glo, T_var, T_bin, T_neg, T_fld, T_ix, T_rev, T_slc, T_lst, T_tup, T_call, T_make, T_meth, T_callv, T_bc, T_bm, T_isi, T_comp, T_not, T_and, T_or, T_ife, T_cmp, T_cmp2, isB_bl, E_and, E_or, E_ife, E_cmp2, evO, evC, evI, evG, evGs, wipeS, permU, calN_call, calN_cs, getS_0, getS_s, newL_c, newT_c, tru_bl, tru_int, tru_non, tru_lst, tru_tup, bin_add, bin_sub, bin_mulc, bin_fdivc, bin_mod, bin_addL, cmp_lt, cmp_le, cmp_gt, cmp_ge, cmp_isN, cmp_isnN, isNon_non, isNon_int, isNon_tup, isNon_lst, isNon_ref, isNon_bl, cmp_eqI, cmp_neI, cmp_eq, cmp_ne, cmpEq_n, eqD_if, own_ref, der_ref, id_b, own_lst, own_tup, own_non, own_bl, own_int, own_str, der_lst, der_tup, der_non, der_int, der_bl, der_str, isD_int, isD_bl, isD_non, isD_bstr, isD_tup, isD_lst, eqv_int, eqv_bl, eqv_non, eqv_str, eqv_lst, eqv_tup, eqvs_nil, eqvs_nc, eqvs_cn, eqvs_cc, eqvs_n, eqv_ni, eqv_in, bc_int, bc_abs, bc_max, bc_min, bc_divmod, bc_len, bc_lenF, bc_lenT, bc_list, bc_listT, bc_tuple, rep_bl, ix_lst, ix_tup, ix_frz, at_0, at_1, at_2, at_3, at_4, slc_lst, rev_lst, fldU, setFld, methOf, putF, isiU, isOne, tyName, thaw, isFr, Mi.tgsL, List.contains_cons, List.contains_nil, List.length_cons, List.length_nil, List.length_append, List.length_map, List.set_cons_zero, List.set_cons_succ, List.lookup_cons, List.lookup_nil, Option.map_some, Bool.not_true, Bool.not_false, Nat.reduceBEq, Nat.reduceEqDiff, Nat.reduceAdd, Nat.reduceLT, Int.reduceEq, Int.reduceNe, Int.reduceLT, Int.reduceLE, if_true, if_false, reduceIte, decide_true, decide_false, decide_eq_true_eq, Bool.false_eq_true, Bool.and_true, Bool.true_and, Bool.and_false, Bool.false_and, Bool.or_true, Bool.or_false, Bool.true_or, Bool.false_or, beq_self_eq_true, Nat.zero_add, List.nil_append, List.isEmpty_nil, List.isEmpty_cons, and_self, true_and, and_true, eq_self, bt_beq, reduceCtorEq, List.set_set, List.all_nil, List.all_cons, List.all_append, set_app, get_app_eq, cut_tl, List.length_set, len_ref_a, list_ref_a, seq_ref_a, lsf_ref_a, dic_ref_a, lst_ref_a, seq_lst, seq_tup, lsf_lst, ix_ref_a, slc_ref_a, rev_ref_a, app_ref_a, appX_l, setIx_ref_a, bin_addX, addU, lstU, List.getElem?_set_ne, List.getElem?_set_self, List.getElem?_append_left, get_app_len, set_app_len, cs0, mk0, H, k1, k2, get_set_eq H]
    congr 2
    rw [List.map_map]
    refine List.map_congr_left fun i hi => ?_
    have hi' : i < th.length - m := by simpa using hi
    have e2 : ((min m th.length : Nat) : Int) + (i : Int) = ((m + i : Nat) : Int) := by omega
    simp only [Function.comp, e2, Int.toNat_natCast]
omit H in
theorem init (c : 1 ≤ many ∧ many ≤ 32) : callN pr 0 (d + 4) 4 [.ref h.length, .int many] (h ++ [.ins 0 []]) = .ok .non (h ++ [.ins 0 [(0, .int many), (1, .int 0), (2, .lst []), (3, .lst [])]]) := by
  refine Ok_eq ?_
  rw [c4]; unfold b4
  simp -dsimp (maxSteps := 1000000) (disch := first | assumption | omega | (simp only [List.length_cons, List.length_nil, List.length_append, List.length_map, List.length_take, List.length_drop, List.length_set, List.length_range, List.length_reverse] <;> omega) | rfl | decide) only [OkS_cons, OkS_nil, OkS_nx, OkS_rt, OkS_bk, OkS_ct, OkS_toS, OkS_if, Ok_bind, Ok_bindN, Ok_nx, Ok_ok, Ok_ofS, S_expr, S_asg, S_ret, S_retN, S_pass, S_brk, S_cont, S_for, S_par, par2, par3, cst_int, cst_non, cst_bl, cst_str, ofW, ofWs, E_cst, E_glo, E_var, E_mut, E_bin, E_neg, E_not, E_cmp, E_fld, E_ix, E_rev, E_slc, E_lst, E_tup, E_dic0, E_call, E_make, E_meth, E_callv, E_bc, E_bm, bmX_l, bmX_d, kindU_ref, E_isi, E_rngL, E_sset, E_comp, evEs, T_cst, T_glo, T_var, T_bin, T_neg, T_fld, T_ix, T_rev, T_slc, T_lst, T_tup, T_call, T_make, T_meth, T_callv, T_bc, T_bm, T_isi, T_comp, T_not, T_and, T_or, T_ife, T_cmp, T_cmp2, isB_bl, E_and, E_or, E_ife, E_cmp2, evO, evC, evI, evG, evGs, wipeS, permU, calN_call, calN_cs, getS_0, getS_s, newL_c, newT_c, tru_bl, tru_int, tru_non, tru_lst, tru_tup, bin_add, bin_sub, bin_mulc, bin_fdivc, bin_mod, bin_addL, cmp_lt, cmp_le, cmp_gt, cmp_ge, cmp_isN, cmp_isnN, isNon_non, isNon_int, isNon_tup, isNon_lst, isNon_ref, isNon_bl, cmp_eqI, cmp_neI, cmp_eq, cmp_ne, cmpEq_n, eqD_if, own_ref, der_ref, id_b, own_lst, own_tup, own_non, own_bl, own_int, own_str, der_lst, der_tup, der_non, der_int, der_bl, der_str, isD_int, isD_bl, isD_non, isD_bstr, isD_tup, isD_lst, eqv_int, eqv_bl, eqv_non, eqv_str, eqv_lst, eqv_tup, eqvs_nil, eqvs_nc, eqvs_cn, eqvs_cc, eqvs_n, eqv_ni, eqv_in, bc_int, bc_abs, bc_max, bc_min, bc_divmod, bc_len, bc_lenF, bc_lenT, bc_list, bc_listT, bc_tuple, rep_bl, ix_lst, ix_tup, ix_frz, at_0, at_1, at_2, at_3, at_4, slc_lst, rev_lst, fldU, setFld, methOf, putF, isiU, isOne, tyName, thaw, isFr, Mi.tgsL, List.contains_cons, List.contains_nil, List.length_cons, List.length_nil, List.length_append, List.length_map, List.set_cons_zero, List.set_cons_succ, List.lookup_cons, List.lookup_nil, Option.map_some, Bool.not_true, Bool.not_false, Nat.reduceBEq, Nat.reduceEqDiff, Nat.reduceAdd, Nat.reduceLT, Int.reduceEq, Int.reduceNe, Int.reduceLT, Int.reduceLE, if_true, if_false, reduceIte, decide_true, decide_false, decide_eq_true_eq, Bool.false_eq_true, Bool.and_true, Bool.true_and, Bool.and_false, Bool.false_and, Bool.or_true, Bool.or_false, Bool.true_or, Bool.false_or, beq_self_eq_true, Nat.zero_add, List.nil_append, List.isEmpty_nil, List.isEmpty_cons, and_self, true_and, and_true, eq_self, bt_beq, reduceCtorEq, List.set_set, List.all_nil, List.all_cons, List.all_append, set_app, get_app_eq, cut_tl, List.length_set, len_ref_a, list_ref_a, seq_ref_a, lsf_ref_a, dic_ref_a, lst_ref_a, seq_lst, seq_tup, lsf_lst, ix_ref_a, slc_ref_a, rev_ref_a, app_ref_a, appX_l, setIx_ref_a, bin_addX, addU, lstU, List.getElem?_set_ne, List.getElem?_set_self, List.getElem?_append_left, get_app_len, set_app_len, cs0, mk0, want_many (show 0 ≤ many by omega) c.1 c.2]
theorem copy (c : 1 ≤ many ∧ many ≤ 32) : callN pr 0 (d + 5) 17 [.ref u] h = .ok (.ref h.length) (h ++ [.ins 0 [(0, .int many), (1, .int first), (2, .lst th), (3, .lst dn)]]) := by
  have H2 : ∀ o, (h ++ [o])[u]? = some (.ins 0 [(0, .int many), (1, .int first), (2, .lst th), (3, .lst dn)]) := fun o => get_app H
  refine Ok_eq ?_
  rw [c17]; unfold b17
  simp -dsimp (maxSteps := 1000000) (disch := first | assumption | omega | (simp only [List.length_cons, List.length_nil, List.length_append, List.length_map, List.length_take, List.length_drop, List.length_set, List.length_range, List.length_reverse] <;> omega) | rfl | decide) only [OkS_cons, OkS_nil, OkS_nx, OkS_rt, OkS_bk, OkS_ct, OkS_toS, OkS_if, Ok_bind, Ok_bindN, Ok_nx, Ok_ok, Ok_ofS, S_expr, S_asg, S_ret, S_retN, S_pass, S_brk, S_cont, S_for, S_par, par2, par3, cst_int, cst_non, cst_bl, cst_str, ofW, ofWs, E_cst, E_glo, E_var, E_mut, E_bin, E_neg, E_not, E_cmp, E_fld, E_ix, E_rev, E_slc, E_lst, E_tup, E_dic0, E_call, E_make, E_meth, E_callv, E_bc, E_bm, bmX_l, bmX_d, kindU_ref, E_isi, E_rngL, E_sset, E_comp, evEs, T_cst, T_glo, T_var, T_bin, T_neg, T_fld, T_ix, T_rev, T_slc, T_lst, T_tup, T_call, T_make, T_meth, T_callv, T_bc, T_bm, T_isi, T_comp, T_not, T_and, T_or, T_ife, T_cmp, T_cmp2, isB_bl, E_and, E_or, E_ife, E_cmp2, evO, evC, evI, evG, evGs, wipeS, permU, calN_call, calN_cs, getS_0, getS_s, newL_c, newT_c, tru_bl, tru_int, tru_non, tru_lst, tru_tup, bin_add, bin_sub, bin_mulc, bin_fdivc, bin_mod, bin_addL, cmp_lt, cmp_le, cmp_gt, cmp_ge, cmp_isN, cmp_isnN, isNon_non, isNon_int, isNon_tup, isNon_lst, isNon_ref, isNon_bl, cmp_eqI, cmp_neI, cmp_eq, cmp_ne, cmpEq_n, eqD_if, own_ref, der_ref, id_b, own_lst, own_tup, own_non, own_bl, own_int, own_str, der_lst, der_tup, der_non, der_int, der_bl, der_str, isD_int, isD_bl, isD_non, isD_bstr, isD_tup, isD_lst, eqv_int, eqv_bl, eqv_non, eqv_str, eqv_lst, eqv_tup, eqvs_nil, eqvs_nc, eqvs_cn, eqvs_cc, eqvs_n, eqv_ni, eqv_in, bc_int, bc_abs, bc_max, bc_min, bc_divmod, bc_len, bc_lenF, bc_lenT, bc_list, bc_listT, bc_tuple, rep_bl, ix_lst, ix_tup, ix_frz, at_0, at_1, at_2, at_3, at_4, slc_lst, rev_lst, fldU, setFld, methOf, putF, isiU, isOne, tyName, thaw, isFr, Mi.tgsL, List.contains_cons, List.contains_nil, List.length_cons, List.length_nil, List.length_append, List.length_map, List.set_cons_zero, List.set_cons_succ, List.lookup_cons, List.lookup_nil, Option.map_some, Bool.not_true, Bool.not_false, Nat.reduceBEq, Nat.reduceEqDiff, Nat.reduceAdd, Nat.reduceLT, Int.reduceEq, Int.reduceNe, Int.reduceLT, Int.reduceLE, if_true, if_false, reduceIte, decide_true, decide_false, decide_eq_true_eq, Bool.false_eq_true, Bool.and_true, Bool.true_and, Bool.and_false, Bool.false_and, Bool.or_true, Bool.or_false, Bool.true_or, Bool.false_or, beq_self_eq_true, Nat.zero_add, List.nil_append, List.isEmpty_nil, List.isEmpty_cons, and_self, true_and, and_true, eq_self, bt_beq, reduceCtorEq, List.set_set, List.all_nil, List.all_cons, List.all_append, set_app, get_app_eq, cut_tl, List.length_set, len_ref_a, list_ref_a, seq_ref_a, lsf_ref_a, dic_ref_a, lst_ref_a, seq_lst, seq_tup, lsf_lst, ix_ref_a, slc_ref_a, rev_ref_a, app_ref_a, appX_l, setIx_ref_a, bin_addX, addU, lstU, List.getElem?_set_ne, List.getElem?_set_self, List.getElem?_append_left, get_app_len, set_app_len, cs0, mk0, H, init c, H2]
end
end Lawk71

set_option Elab.async false
set_option linter.all false
set_option maxRecDepth 100000
set_option maxHeartbeats 4000000
namespace Lawk71
open PySem Mu
abbrev thL (es : List (Int × Bool)) : List U := es.map fun e => .lst [.int e.1]
abbrev dnL (es : List (Int × Bool)) : List U := es.map fun e => .bl e.2
abbrev owL (es : List (Int × Bool)) : List U := es.map fun e => .tup [.lst [.int e.1], .bl e.2]
theorem thD {es : List (Int × Bool)} : ∀ n, (thL es).all (isD (n + 3)) = true := fun n => by simp [isD]
theorem owD {es : List (Int × Bool)} : ∀ n, (owL es).all (isD (n + 3)) = true := fun n => by simp [isD]
section
variable {d u : Nat} {many first : Int} {es : List (Int × Bool)} {h : Hu}
variable (H : h[u]? = some (.ins 0 [(0, .int many), (1, .int first), (2, .lst (thL es)), (3, .lst (dnL es))])) (f0 : 0 ≤ first) (f1 : first ≤ 1000000) (sz : es.length ≤ 100)
include H f0 f1 sz
theorem seen {x : U} (hx : IsL h x (owL es)) : callN pr 0 (d + 6) 22 [.ref u, x, .int first, .int many] h = .ok (.bl true) h := by
  refine Ok_eq ?_
  rw [c22]; unfold b22
  have c0 : -(2 ^ 62) ≤ (0 : Int) ∧ (0 : Int) < 2 ^ 62 ∧ -(2 ^ 62) ≤ (es.length : Int) ∧ (es.length : Int) < 2 ^ 62 := ⟨by omega, by omega, by omega, by omega⟩
  simp -dsimp (maxSteps := 1000000) (disch := first | assumption | omega | (simp only [List.length_cons, List.length_nil, List.length_append, List.length_map, List.length_take, List.length_drop, List.length_set, List.length_range, List.length_reverse] <;> omega) | rfl | decide) only [OkS_cons, OkS_nil, OkS_nx, OkS_rt, OkS_bk, OkS_ct, OkS_toS, OkS_if, Ok_bind, Ok_bindN, Ok_nx, Ok_ok, Ok_ofS, S_expr, S_asg, S_ret, S_retN, S_pass, S_brk, S_cont, S_for, S_par, par2, par3, cst_int, cst_non, cst_bl, cst_str, ofW, ofWs, E_cst, E_glo, E_var, E_mut, E_bin, E_neg, E_not, E_cmp, E_fld, E_ix, E_rev, E_slc, E_lst, E_tup, E_dic0, E_call, E_make, E_meth, E_callv, E_bc, E_bm, bmX_l, bmX_d, kindU_ref, E_isi, E_rngL, E_sset, E_comp, evEs, T_cst, T_glo, T_var, T_bin, T_neg, T_fld, T_ix, T_rev, T_slc, T_lst, T_tup, T_call, T_make, T_meth, T_callv, T_bc, T_bm, T_isi, T_comp, T_not, T_and, T_or, T_ife, T_cmp, T_cmp2, isB_bl, E_and, E_or, E_ife, E_cmp2, evO, evC, evI, evG, evGs, wipeS, permU, calN_call, calN_cs, getS_0, getS_s, newL_c, newT_c, tru_bl, tru_int, tru_non, tru_lst, tru_tup, bin_add, bin_sub, bin_mulc, bin_fdivc, bin_mod, bin_addL, cmp_lt, cmp_le, cmp_gt, cmp_ge, cmp_isN, cmp_isnN, isNon_non, isNon_int, isNon_tup, isNon_lst, isNon_ref, isNon_bl, cmp_eqI, cmp_neI, cmp_eq, cmp_ne, cmpEq_n, eqD_if, own_ref, der_ref, id_b, own_lst, own_tup, own_non, own_bl, own_int, own_str, der_lst, der_tup, der_non, der_int, der_bl, der_str, isD_int, isD_bl, isD_non, isD_bstr, isD_tup, isD_lst, eqv_int, eqv_bl, eqv_non, eqv_str, eqv_lst, eqv_tup, eqvs_nil, eqvs_nc, eqvs_cn, eqvs_cc, eqvs_n, eqv_ni, eqv_in, bc_int, bc_abs, bc_max, bc_min, bc_divmod, bc_len, bc_lenF, bc_lenT, bc_list, bc_listT, bc_tuple, rep_bl, ix_lst, ix_tup, ix_frz, at_0, at_1, at_2, at_3, at_4, slc_lst, rev_lst, fldU, setFld, methOf, putF, isiU, isOne, tyName, thaw, isFr, Mi.tgsL, List.contains_cons, List.contains_nil, List.length_cons, List.length_nil, List.length_append, List.length_map, List.set_cons_zero, List.set_cons_succ, List.lookup_cons, List.lookup_nil, Option.map_some, Bool.not_true, Bool.not_false, Nat.reduceBEq, Nat.reduceEqDiff, Nat.reduceAdd, Nat.reduceLT, Int.reduceEq, Int.reduceNe, Int.reduceLT, Int.reduceLE, if_true, if_false, reduceIte, decide_true, decide_false, decide_eq_true_eq, Bool.false_eq_true, Bool.and_true, Bool.true_and, Bool.and_false, Bool.false_and, Bool.or_true, Bool.or_false, Bool.true_or, Bool.false_or, beq_self_eq_true, Nat.zero_add, List.nil_append, List.isEmpty_nil, List.isEmpty_cons, and_self, true_and, and_true, eq_self, bt_beq, reduceCtorEq, List.set_set, List.all_nil, List.all_cons, List.all_append, set_app, get_app_eq, cut_tl, List.length_set, len_ref_a, list_ref_a, seq_ref_a, lsf_ref_a, dic_ref_a, lst_ref_a, seq_lst, seq_tup, lsf_lst, ix_ref_a, slc_ref_a, rev_ref_a, app_ref_a, appX_l, setIx_ref_a, bin_addX, addU, lstU, List.getElem?_set_ne, List.getElem?_set_self, List.getElem?_append_left, get_app_len, set_app_len, cs0, mk0, H, numbers H f0 f1 (by simpa using sz), hx.len, rngJ_c c0]
  have e0 : ((es.length : Int) - 0).toNat = es.length := by omega
  rw [e0]
  refine comp_dat src_rng (List.range es.length) (fun i : Nat => .int (0 + (i : Int))) (fun i : Nat => .int (first + (i : Int))) rfl (by simp; omega) (fun i hi => ?_) ?_
  · simp -dsimp (maxSteps := 1000000) (disch := first | assumption | omega | (simp only [List.length_cons, List.length_nil, List.length_append, List.length_map, List.length_take, List.length_drop, List.length_set, List.length_range, List.length_reverse] <;> omega) | rfl | decide) only [OkS_cons, OkS_nil, OkS_nx, OkS_rt, OkS_bk, OkS_ct, OkS_toS, OkS_if, Ok_bind, Ok_bindN, Ok_nx, Ok_ok, Ok_ofS, S_expr, S_asg, S_ret, S_retN, S_pass, S_brk, S_cont, S_for, S_par, par2, par3, cst_int, cst_non, cst_bl, cst_str, ofW, ofWs, E_cst, E_glo, E_var, E_mut, E_bin, E_neg, E_not, E_cmp, E_fld, E_ix, E_rev, E_slc, E_lst, E_tup, E_dic0, E_call, E_make, E_meth, E_callv, E_bc, E_bm, bmX_l, bmX_d, kindU_ref, E_isi, E_rngL, E_sset, E_comp, evEs, T_cst, T_glo, T_var, T_bin, T_neg, T_fld, T_ix, T_rev, T_slc, T_lst, T_tup, T_call, T_make, T_meth, T_callv, T_bc, T_bm, T_isi, T_comp, T_not, T_and, T_or, T_ife, T_cmp, T_cmp2, isB_bl, E_and, E_or, E_ife, E_cmp2, evO, evC, evI, evG, evGs, wipeS, permU, calN_call, calN_cs, getS_0, getS_s, newL_c, newT_c, tru_bl, tru_int, tru_non, tru_lst, tru_tup, bin_add, bin_sub, bin_mulc, bin_fdivc, bin_mod, bin_addL, cmp_lt, cmp_le, cmp_gt, cmp_ge, cmp_isN, cmp_isnN, isNon_non, isNon_int, isNon_tup, isNon_lst, isNon_ref, isNon_bl, cmp_eqI, cmp_neI, cmp_eq, cmp_ne, cmpEq_n, eqD_if, own_ref, der_ref, id_b, own_lst, own_tup, own_non, own_bl, own_int, own_str, der_lst, der_tup, der_non, der_int, der_bl, der_str, isD_int, isD_bl, isD_non, isD_bstr, isD_tup, isD_lst, eqv_int, eqv_bl, eqv_non, eqv_str, eqv_lst, eqv_tup, eqvs_nil, eqvs_nc, eqvs_cn, eqvs_cc, eqvs_n, eqv_ni, eqv_in, bc_int, bc_abs, bc_max, bc_min, bc_divmod, bc_len, bc_lenF, bc_lenT, bc_list, bc_listT, bc_tuple, rep_bl, ix_lst, ix_tup, ix_frz, at_0, at_1, at_2, at_3, at_4, slc_lst, rev_lst, fldU, setFld, methOf, putF, isiU, isOne, tyName, thaw, isFr, Mi.tgsL, List.contains_cons, List.contains_nil, List.length_cons, List.length_nil, List.length_append, List.length_map, List.set_cons_zero, List.set_cons_succ, List.lookup_cons, List.lookup_nil, Option.map_some, Bool.not_true, Bool.not_false, Nat.reduceBEq, Nat.reduceEqDiff, Nat.reduceAdd, Nat.reduceLT, Int.reduceEq, Int.reduceNe, Int.reduceLT, Int.reduceLE, if_true, if_false, reduceIte, decide_true, decide_false, decide_eq_true_eq, Bool.false_eq_true, Bool.and_true, Bool.true_and, Bool.and_false, Bool.false_and, Bool.or_true, Bool.or_false, Bool.true_or, Bool.false_or, beq_self_eq_true, Nat.zero_add, List.nil_append, List.isEmpty_nil, List.isEmpty_cons, and_self, true_and, and_true, eq_self, bt_beq, reduceCtorEq, List.set_set, List.all_nil, List.all_cons, List.all_append, set_app, get_app_eq, cut_tl, List.length_set, len_ref_a, list_ref_a, seq_ref_a, lsf_ref_a, dic_ref_a, lst_ref_a, seq_lst, seq_tup, lsf_lst, ix_ref_a, slc_ref_a, rev_ref_a, app_ref_a, appX_l, setIx_ref_a, bin_addX, addU, lstU, List.getElem?_set_ne, List.getElem?_set_self, List.getElem?_append_left, get_app_len, set_app_len, cs0, mk0, Int.zero_add]
  · have D1 : ∀ n, ((List.range es.length).map fun i : Nat => U.int (first + (i : Int))).all (isD (n + 3)) = true := fun n => by simp [isD]
    have z1 : (owL es).isEmpty = es.isEmpty := by cases es <;> rfl
    have hO : ∀ d, callN pr 0 (d + 1) 9 [.ref u] h = .ok (if es.isEmpty = true then .non else .int first) h := fun d => by rw [oldest H thD]; cases es <;> rfl
    simp -dsimp (maxSteps := 1000000) (disch := first | assumption | omega | (simp only [List.length_cons, List.length_nil, List.length_append, List.length_map, List.length_take, List.length_drop, List.length_set, List.length_range, List.length_reverse] <;> omega) | rfl | decide) only [OkS_cons, OkS_nil, OkS_nx, OkS_rt, OkS_bk, OkS_ct, OkS_toS, OkS_if, Ok_bind, Ok_bindN, Ok_nx, Ok_ok, Ok_ofS, S_expr, S_asg, S_ret, S_retN, S_pass, S_brk, S_cont, S_for, S_par, par2, par3, cst_int, cst_non, cst_bl, cst_str, ofW, ofWs, E_cst, E_glo, E_var, E_mut, E_bin, E_neg, E_not, E_cmp, E_fld, E_ix, E_rev, E_slc, E_lst, E_tup, E_dic0, E_call, E_make, E_meth, E_callv, E_bc, E_bm, bmX_l, bmX_d, kindU_ref, E_isi, E_rngL, E_sset, E_comp, evEs, T_cst, T_glo, T_var, T_bin, T_neg, T_fld, T_ix, T_rev, T_slc, T_lst, T_tup, T_call, T_make, T_meth, T_callv, T_bc, T_bm, T_isi, T_comp, T_not, T_and, T_or, T_ife, T_cmp, T_cmp2, isB_bl, E_and, E_or, E_ife, E_cmp2, evO, evC, evI, evG, evGs, wipeS, permU, calN_call, calN_cs, getS_0, getS_s, newL_c, newT_c, tru_bl, tru_int, tru_non, tru_lst, tru_tup, bin_add, bin_sub, bin_mulc, bin_fdivc, bin_mod, bin_addL, cmp_lt, cmp_le, cmp_gt, cmp_ge, cmp_isN, cmp_isnN, isNon_non, isNon_int, isNon_tup, isNon_lst, isNon_ref, isNon_bl, cmp_eqI, cmp_neI, cmp_eq, cmp_ne, cmpEq_n, eqD_if, own_ref, der_ref, id_b, own_lst, own_tup, own_non, own_bl, own_int, own_str, der_lst, der_tup, der_non, der_int, der_bl, der_str, isD_int, isD_bl, isD_non, isD_bstr, isD_tup, isD_lst, eqv_int, eqv_bl, eqv_non, eqv_str, eqv_lst, eqv_tup, eqvs_nil, eqvs_nc, eqvs_cn, eqvs_cc, eqvs_n, eqv_ni, eqv_in, bc_int, bc_abs, bc_max, bc_min, bc_divmod, bc_len, bc_lenF, bc_lenT, bc_list, bc_listT, bc_tuple, rep_bl, ix_lst, ix_tup, ix_frz, at_0, at_1, at_2, at_3, at_4, slc_lst, rev_lst, fldU, setFld, methOf, putF, isiU, isOne, tyName, thaw, isFr, Mi.tgsL, List.contains_cons, List.contains_nil, List.length_cons, List.length_nil, List.length_append, List.length_map, List.set_cons_zero, List.set_cons_succ, List.lookup_cons, List.lookup_nil, Option.map_some, Bool.not_true, Bool.not_false, Nat.reduceBEq, Nat.reduceEqDiff, Nat.reduceAdd, Nat.reduceLT, Int.reduceEq, Int.reduceNe, Int.reduceLT, Int.reduceLE, if_true, if_false, reduceIte, decide_true, decide_false, decide_eq_true_eq, Bool.false_eq_true, Bool.and_true, Bool.true_and, Bool.and_false, Bool.false_and, Bool.or_true, Bool.or_false, Bool.true_or, Bool.false_or, beq_self_eq_true, Nat.zero_add, List.nil_append, List.isEmpty_nil, List.isEmpty_cons, and_self, true_and, and_true, eq_self, bt_beq, reduceCtorEq, List.set_set, List.all_nil, List.all_cons, List.all_append, set_app, get_app_eq, cut_tl, List.length_set, len_ref_a, list_ref_a, seq_ref_a, lsf_ref_a, dic_ref_a, lst_ref_a, seq_lst, seq_tup, lsf_lst, ix_ref_a, slc_ref_a, rev_ref_a, app_ref_a, appX_l, setIx_ref_a, bin_addX, addU, lstU, List.getElem?_set_ne, List.getElem?_set_self, List.getElem?_append_left, get_app_len, set_app_len, cs0, mk0, H, D1, eqvs_self D1, many_ H, held H, upcoming H, hx.len]
    cases z : es.isEmpty
    all_goals
      simp -dsimp (maxSteps := 1000000) (disch := first | assumption | omega | (simp only [List.length_cons, List.length_nil, List.length_append, List.length_map, List.length_take, List.length_drop, List.length_set, List.length_range, List.length_reverse] <;> omega) | rfl | decide) only [OkS_cons, OkS_nil, OkS_nx, OkS_rt, OkS_bk, OkS_ct, OkS_toS, OkS_if, Ok_bind, Ok_bindN, Ok_nx, Ok_ok, Ok_ofS, S_expr, S_asg, S_ret, S_retN, S_pass, S_brk, S_cont, S_for, S_par, par2, par3, cst_int, cst_non, cst_bl, cst_str, ofW, ofWs, E_cst, E_glo, E_var, E_mut, E_bin, E_neg, E_not, E_cmp, E_fld, E_ix, E_rev, E_slc, E_lst, E_tup, E_dic0, E_call, E_make, E_meth, E_callv, E_bc, E_bm, bmX_l, bmX_d, kindU_ref, E_isi, E_rngL, E_sset, E_comp, evEs, T_cst, T_glo, T_var, T_bin, T_neg, T_fld, T_ix, T_rev, T_slc, T_lst, T_tup, T_call, T_make, T_meth, T_callv, T_bc, T_bm, T_isi, T_comp, T_not, T_and, T_or, T_ife, T_cmp, T_cmp2, isB_bl, E_and, E_or, E_ife, E_cmp2, evO, evC, evI, evG, evGs, wipeS, permU, calN_call, calN_cs, getS_0, getS_s, newL_c, newT_c, tru_bl, tru_int, tru_non, tru_lst, tru_tup, bin_add, bin_sub, bin_mulc, bin_fdivc, bin_mod, bin_addL, cmp_lt, cmp_le, cmp_gt, cmp_ge, cmp_isN, cmp_isnN, isNon_non, isNon_int, isNon_tup, isNon_lst, isNon_ref, isNon_bl, cmp_eqI, cmp_neI, cmp_eq, cmp_ne, cmpEq_n, eqD_if, own_ref, der_ref, id_b, own_lst, own_tup, own_non, own_bl, own_int, own_str, der_lst, der_tup, der_non, der_int, der_bl, der_str, isD_int, isD_bl, isD_non, isD_bstr, isD_tup, isD_lst, eqv_int, eqv_bl, eqv_non, eqv_str, eqv_lst, eqv_tup, eqvs_nil, eqvs_nc, eqvs_cn, eqvs_cc, eqvs_n, eqv_ni, eqv_in, bc_int, bc_abs, bc_max, bc_min, bc_divmod, bc_len, bc_lenF, bc_lenT, bc_list, bc_listT, bc_tuple, rep_bl, ix_lst, ix_tup, ix_frz, at_0, at_1, at_2, at_3, at_4, slc_lst, rev_lst, fldU, setFld, methOf, putF, isiU, isOne, tyName, thaw, isFr, Mi.tgsL, List.contains_cons, List.contains_nil, List.length_cons, List.length_nil, List.length_append, List.length_map, List.set_cons_zero, List.set_cons_succ, List.lookup_cons, List.lookup_nil, Option.map_some, Bool.not_true, Bool.not_false, Nat.reduceBEq, Nat.reduceEqDiff, Nat.reduceAdd, Nat.reduceLT, Int.reduceEq, Int.reduceNe, Int.reduceLT, Int.reduceLE, if_true, if_false, reduceIte, decide_true, decide_false, decide_eq_true_eq, Bool.false_eq_true, Bool.and_true, Bool.true_and, Bool.and_false, Bool.false_and, Bool.or_true, Bool.or_false, Bool.true_or, Bool.false_or, beq_self_eq_true, Nat.zero_add, List.nil_append, List.isEmpty_nil, List.isEmpty_cons, and_self, true_and, and_true, eq_self, bt_beq, reduceCtorEq, List.set_set, List.all_nil, List.all_cons, List.all_append, set_app, get_app_eq, cut_tl, List.length_set, len_ref_a, list_ref_a, seq_ref_a, lsf_ref_a, dic_ref_a, lst_ref_a, seq_lst, seq_tup, lsf_lst, ix_ref_a, slc_ref_a, rev_ref_a, app_ref_a, appX_l, setIx_ref_a, bin_addX, addU, lstU, List.getElem?_set_ne, List.getElem?_set_self, List.getElem?_append_left, get_app_len, set_app_len, cs0, mk0, hO, z, z1, hx.own, hx.der, owD, hx.lsf]
      refine for_dat (src_enm hx.lsf) es.zipIdx (fun p => .tup [.int (p.2 : Nat), .tup [.lst [.int p.1.1], .bl p.1.2]]) (enmL_map _ _) (fun i s h' => h' = h ∧ ∃ a b c, s = [some (.ref u), some x, some (.int first), some (.int many), a, b, c]) ⟨rfl, _, _, _, rfl⟩ (fun i s h' iv => iv.1 ▸ src_enm hx.lsf) ?_ ?_
      · rintro i s h' ⟨⟨k, b⟩, j⟩ ea ⟨rfl, a1, a2, a3, rfl⟩
        have ej : es[j]? = some (k, b) := by
          rw [List.getElem?_zipIdx] at ea
          cases z : es[i]? with
          | none => rw [z] at ea; cases ea
          | some p => rw [z] at ea; simp at ea; obtain ⟨rfl, rfl⟩ := ea; exact z
        have t1 : (thL es)[(first + (j : Int) - first).toNat]? = some (.lst [.int k]) := by
          rw [show (first + (j : Int) - first).toNat = j by omega, List.getElem?_map, ej]; rfl
        have t2 : (dnL es)[(first + (j : Int) - first).toNat]? = some (.bl b) := by
          rw [show (first + (j : Int) - first).toNat = j by omega, List.getElem?_map, ej]; rfl
        simp -dsimp (maxSteps := 1000000) (disch := first | assumption | omega | (simp only [List.length_cons, List.length_nil, List.length_append, List.length_map, List.length_take, List.length_drop, List.length_set, List.length_range, List.length_reverse] <;> omega) | rfl | decide) only [OkS_cons, OkS_nil, OkS_nx, OkS_rt, OkS_bk, OkS_ct, OkS_toS, OkS_if, Ok_bind, Ok_bindN, Ok_nx, Ok_ok, Ok_ofS, S_expr, S_asg, S_ret, S_retN, S_pass, S_brk, S_cont, S_for, S_par, par2, par3, cst_int, cst_non, cst_bl, cst_str, ofW, ofWs, E_cst, E_glo, E_var, E_mut, E_bin, E_neg, E_not, E_cmp, E_fld, E_ix, E_rev, E_slc, E_lst, E_tup, E_dic0, E_call, E_make, E_meth, E_callv, E_bc, E_bm, bmX_l, bmX_d, kindU_ref, E_isi, E_rngL, E_sset, E_comp, evEs, T_cst, T_glo, T_var, T_bin, T_neg, T_fld, T_ix, T_rev, T_slc, T_lst, T_tup, T_call, T_make, T_meth, T_callv, T_bc, T_bm, T_isi, T_comp, T_not, T_and, T_or, T_ife, T_cmp, T_cmp2, isB_bl, E_and, E_or, E_ife, E_cmp2, evO, evC, evI, evG, evGs, wipeS, permU, calN_call, calN_cs, getS_0, getS_s, newL_c, newT_c, tru_bl, tru_int, tru_non, tru_lst, tru_tup, bin_add, bin_sub, bin_mulc, bin_fdivc, bin_mod, bin_addL, cmp_lt, cmp_le, cmp_gt, cmp_ge, cmp_isN, cmp_isnN, isNon_non, isNon_int, isNon_tup, isNon_lst, isNon_ref, isNon_bl, cmp_eqI, cmp_neI, cmp_eq, cmp_ne, cmpEq_n, eqD_if, own_ref, der_ref, id_b, own_lst, own_tup, own_non, own_bl, own_int, own_str, der_lst, der_tup, der_non, der_int, der_bl, der_str, isD_int, isD_bl, isD_non, isD_bstr, isD_tup, isD_lst, eqv_int, eqv_bl, eqv_non, eqv_str, eqv_lst, eqv_tup, eqvs_nil, eqvs_nc, eqvs_cn, eqvs_cc, eqvs_n, eqv_ni, eqv_in, bc_int, bc_abs, bc_max, bc_min, bc_divmod, bc_len, bc_lenF, bc_lenT, bc_list, bc_listT, bc_tuple, rep_bl, ix_lst, ix_tup, ix_frz, at_0, at_1, at_2, at_3, at_4, slc_lst, rev_lst, fldU, setFld, methOf, putF, isiU, isOne, tyName, thaw, isFr, Mi.tgsL, List.contains_cons, List.contains_nil, List.length_cons, List.length_nil, List.length_append, List.length_map, List.set_cons_zero, List.set_cons_succ, List.lookup_cons, List.lookup_nil, Option.map_some, Bool.not_true, Bool.not_false, Nat.reduceBEq, Nat.reduceEqDiff, Nat.reduceAdd, Nat.reduceLT, Int.reduceEq, Int.reduceNe, Int.reduceLT, Int.reduceLE, if_true, if_false, reduceIte, decide_true, decide_false, decide_eq_true_eq, Bool.false_eq_true, Bool.and_true, Bool.true_and, Bool.and_false, Bool.false_and, Bool.or_true, Bool.or_false, Bool.true_or, Bool.false_or, beq_self_eq_true, Nat.zero_add, List.nil_append, List.isEmpty_nil, List.isEmpty_cons, and_self, true_and, and_true, eq_self, bt_beq, reduceCtorEq, List.set_set, List.all_nil, List.all_cons, List.all_append, set_app, get_app_eq, cut_tl, List.length_set, len_ref_a, list_ref_a, seq_ref_a, lsf_ref_a, dic_ref_a, lst_ref_a, seq_lst, seq_tup, lsf_lst, ix_ref_a, slc_ref_a, rev_ref_a, app_ref_a, appX_l, setIx_ref_a, bin_addX, addU, lstU, List.getElem?_set_ne, List.getElem?_set_self, List.getElem?_append_left, get_app_len, set_app_len, cs0, mk0, H, thing H f0 (by omega) t1, is_done H f0 (by simp) (by omega) t2]
        exact ⟨_, _, _, rfl⟩
      · rintro s h' ⟨rfl, a1, a2, a3, rfl⟩
        simp -dsimp (maxSteps := 1000000) (disch := first | assumption | omega | (simp only [List.length_cons, List.length_nil, List.length_append, List.length_map, List.length_take, List.length_drop, List.length_set, List.length_range, List.length_reverse] <;> omega) | rfl | decide) only [OkS_cons, OkS_nil, OkS_nx, OkS_rt, OkS_bk, OkS_ct, OkS_toS, OkS_if, Ok_bind, Ok_bindN, Ok_nx, Ok_ok, Ok_ofS, S_expr, S_asg, S_ret, S_retN, S_pass, S_brk, S_cont, S_for, S_par, par2, par3, cst_int, cst_non, cst_bl, cst_str, ofW, ofWs, E_cst, E_glo, E_var, E_mut, E_bin, E_neg, E_not, E_cmp, E_fld, E_ix, E_rev, E_slc, E_lst, E_tup, E_dic0, E_call, E_make, E_meth, E_callv, E_bc, E_bm, bmX_l, bmX_d, kindU_ref, E_isi, E_rngL, E_sset, E_comp, evEs, T_cst, T_glo, T_var, T_bin, T_neg, T_fld, T_ix, T_rev, T_slc, T_lst, T_tup, T_call, T_make, T_meth, T_callv, T_bc, T_bm, T_isi, T_comp, T_not, T_and, T_or, T_ife, T_cmp, T_cmp2, isB_bl, E_and, E_or, E_ife, E_cmp2, evO, evC, evI, evG, evGs, wipeS, permU, calN_call, calN_cs, getS_0, getS_s, newL_c, newT_c, tru_bl, tru_int, tru_non, tru_lst, tru_tup, bin_add, bin_sub, bin_mulc, bin_fdivc, bin_mod, bin_addL, cmp_lt, cmp_le, cmp_gt, cmp_ge, cmp_isN, cmp_isnN, isNon_non, isNon_int, isNon_tup, isNon_lst, isNon_ref, isNon_bl, cmp_eqI, cmp_neI, cmp_eq, cmp_ne, cmpEq_n, eqD_if, own_ref, der_ref, id_b, own_lst, own_tup, own_non, own_bl, own_int, own_str, der_lst, der_tup, der_non, der_int, der_bl, der_str, isD_int, isD_bl, isD_non, isD_bstr, isD_tup, isD_lst, eqv_int, eqv_bl, eqv_non, eqv_str, eqv_lst, eqv_tup, eqvs_nil, eqvs_nc, eqvs_cn, eqvs_cc, eqvs_n, eqv_ni, eqv_in, bc_int, bc_abs, bc_max, bc_min, bc_divmod, bc_len, bc_lenF, bc_lenT, bc_list, bc_listT, bc_tuple, rep_bl, ix_lst, ix_tup, ix_frz, at_0, at_1, at_2, at_3, at_4, slc_lst, rev_lst, fldU, setFld, methOf, putF, isiU, isOne, tyName, thaw, isFr, Mi.tgsL, List.contains_cons, List.contains_nil, List.length_cons, List.length_nil, List.length_append, List.length_map, List.set_cons_zero, List.set_cons_succ, List.lookup_cons, List.lookup_nil, Option.map_some, Bool.not_true, Bool.not_false, Nat.reduceBEq, Nat.reduceEqDiff, Nat.reduceAdd, Nat.reduceLT, Int.reduceEq, Int.reduceNe, Int.reduceLT, Int.reduceLE, if_true, if_false, reduceIte, decide_true, decide_false, decide_eq_true_eq, Bool.false_eq_true, Bool.and_true, Bool.true_and, Bool.and_false, Bool.false_and, Bool.or_true, Bool.or_false, Bool.true_or, Bool.false_or, beq_self_eq_true, Nat.zero_add, List.nil_append, List.isEmpty_nil, List.isEmpty_cons, and_self, true_and, and_true, eq_self, bt_beq, reduceCtorEq, List.set_set, List.all_nil, List.all_cons, List.all_append, set_app, get_app_eq, cut_tl, List.length_set, len_ref_a, list_ref_a, seq_ref_a, lsf_ref_a, dic_ref_a, lst_ref_a, seq_lst, seq_tup, lsf_lst, ix_ref_a, slc_ref_a, rev_ref_a, app_ref_a, appX_l, setIx_ref_a, bin_addX, addU, lstU, List.getElem?_set_ne, List.getElem?_set_self, List.getElem?_append_left, get_app_len, set_app_len, cs0, mk0]
end
end Lawk71

set_option Elab.async false
set_option linter.all false
set_option maxRecDepth 100000
set_option maxHeartbeats 4000000
namespace Lawk71
open PySem Mu
theorem filt_all {α : Type} {m : Nat} : ∀ {es : List α} {k : Nat}, m ≤ k → (es.zipIdx k).filter (fun p => decide (m ≤ p.2)) = es.zipIdx k
  | [], _, _ => rfl
  | a :: es, k, c => by
    rw [List.zipIdx_cons, List.filter_cons, if_pos (by simpa using c), filt_all (by omega)]
theorem filt_zip {α : Type} {m : Nat} : ∀ {es : List α} {k : Nat}, k ≤ m → (es.zipIdx k).filter (fun p => decide (m ≤ p.2)) = (es.drop (m - k)).zipIdx m
  | [], _, _ => by simp
  | a :: es, k, c => by
    by_cases e : k = m
    · subst e
      rw [filt_all (Nat.le_refl _), Nat.sub_self, List.drop_zero]
    · obtain ⟨j, ej⟩ : ∃ j, m - k = j + 1 := ⟨m - k - 1, by omega⟩
      rw [List.zipIdx_cons, List.filter_cons, if_neg (by simp; omega), filt_zip (by omega), ej, List.drop_succ_cons]
      congr 2; omega
section
variable {d u : Nat} {many first : Int} {es : List (Int × Bool)} {h : Hu}
variable (H : h[u]? = some (.ins 0 [(0, .int many), (1, .int first), (2, .lst (thL es)), (3, .lst (dnL es))])) (f0 : 0 ≤ first) (sz : es.length ≤ 100)
include H f0 sz
theorem drop_ {x : U} {n : Int} (hx : ∀ o, IsL (h.set u o) x (owL es)) (n0 : 0 ≤ n) : callN pr 0 (d + 5) 23 [.ref u, x, .int first, .int n] h = .ok (.bl true) (h.set u (.ins 0 [(0, .int many), (1, .int first), (2, .lst (thL (es.take (n - first).toNat))), (3, .lst (dnL (es.take (n - first).toNat)))])) := by
  refine Ok_eq ?_
  rw [c23]; unfold b23
  have e1 := dropped (d := d) H f0 n0 (by simpa using sz) (by simp)
  simp -dsimp (maxSteps := 1000000) (disch := first | assumption | omega | (simp only [List.length_cons, List.length_nil, List.length_append, List.length_map, List.length_take, List.length_drop, List.length_set, List.length_range, List.length_reverse] <;> omega) | rfl | decide) only [OkS_cons, OkS_nil, OkS_nx, OkS_rt, OkS_bk, OkS_ct, OkS_toS, OkS_if, Ok_bind, Ok_bindN, Ok_nx, Ok_ok, Ok_ofS, S_expr, S_asg, S_ret, S_retN, S_pass, S_brk, S_cont, S_for, S_par, par2, par3, cst_int, cst_non, cst_bl, cst_str, ofW, ofWs, E_cst, E_glo, E_var, E_mut, E_bin, E_neg, E_not, E_cmp, E_fld, E_ix, E_rev, E_slc, E_lst, E_tup, E_dic0, E_call, E_make, E_meth, E_callv, E_bc, E_bm, bmX_l, bmX_d, kindU_ref, E_isi, E_rngL, E_sset, E_comp, evEs, T_cst, T_glo, T_var, T_bin, T_neg, T_fld, T_ix, T_rev, T_slc, T_lst, T_tup, T_call, T_make, T_meth, T_callv, T_bc, T_bm, T_isi, T_comp, T_not, T_and, T_or, T_ife, T_cmp, T_cmp2, isB_bl, E_and, E_or, E_ife, E_cmp2, evO, evC, evI, evG, evGs, wipeS, permU, calN_call, calN_cs, getS_0, getS_s, newL_c, newT_c, tru_bl, tru_int, tru_non, tru_lst, tru_tup, bin_add, bin_sub, bin_mulc, bin_fdivc, bin_mod, bin_addL, cmp_lt, cmp_le, cmp_gt, cmp_ge, cmp_isN, cmp_isnN, isNon_non, isNon_int, isNon_tup, isNon_lst, isNon_ref, isNon_bl, cmp_eqI, cmp_neI, cmp_eq, cmp_ne, cmpEq_n, eqD_if, own_ref, der_ref, id_b, own_lst, own_tup, own_non, own_bl, own_int, own_str, der_lst, der_tup, der_non, der_int, der_bl, der_str, isD_int, isD_bl, isD_non, isD_bstr, isD_tup, isD_lst, eqv_int, eqv_bl, eqv_non, eqv_str, eqv_lst, eqv_tup, eqvs_nil, eqvs_nc, eqvs_cn, eqvs_cc, eqvs_n, eqv_ni, eqv_in, bc_int, bc_abs, bc_max, bc_min, bc_divmod, bc_len, bc_lenF, bc_lenT, bc_list, bc_listT, bc_tuple, rep_bl, ix_lst, ix_tup, ix_frz, at_0, at_1, at_2, at_3, at_4, slc_lst, rev_lst, fldU, setFld, methOf, putF, isiU, isOne, tyName, thaw, isFr, Mi.tgsL, List.contains_cons, List.contains_nil, List.length_cons, List.length_nil, List.length_append, List.length_map, List.set_cons_zero, List.set_cons_succ, List.lookup_cons, List.lookup_nil, Option.map_some, Bool.not_true, Bool.not_false, Nat.reduceBEq, Nat.reduceEqDiff, Nat.reduceAdd, Nat.reduceLT, Int.reduceEq, Int.reduceNe, Int.reduceLT, Int.reduceLE, if_true, if_false, reduceIte, decide_true, decide_false, decide_eq_true_eq, Bool.false_eq_true, Bool.and_true, Bool.true_and, Bool.and_false, Bool.false_and, Bool.or_true, Bool.or_false, Bool.true_or, Bool.false_or, beq_self_eq_true, Nat.zero_add, List.nil_append, List.isEmpty_nil, List.isEmpty_cons, and_self, true_and, and_true, eq_self, bt_beq, reduceCtorEq, List.set_set, List.all_nil, List.all_cons, List.all_append, set_app, get_app_eq, cut_tl, List.length_set, len_ref_a, list_ref_a, seq_ref_a, lsf_ref_a, dic_ref_a, lst_ref_a, seq_lst, seq_tup, lsf_lst, ix_ref_a, slc_ref_a, rev_ref_a, app_ref_a, appX_l, setIx_ref_a, bin_addX, addU, lstU, List.getElem?_set_ne, List.getElem?_set_self, List.getElem?_append_left, get_app_len, set_app_len, cs0, mk0, H, e1]
  generalize eh : h.set u (.ins 0 [(0, .int many), (1, .int first), (2, .lst ((thL es).take (n - first).toNat)), (3, .lst ((dnL es).take (n - first).toNat))]) = h1
  have hx1 : IsL h1 x (owL es) := eh ▸ hx _
  simp -dsimp (maxSteps := 1000000) (disch := first | assumption | omega | (simp only [List.length_cons, List.length_nil, List.length_append, List.length_map, List.length_take, List.length_drop, List.length_set, List.length_range, List.length_reverse] <;> omega) | rfl | decide) only [OkS_cons, OkS_nil, OkS_nx, OkS_rt, OkS_bk, OkS_ct, OkS_toS, OkS_if, Ok_bind, Ok_bindN, Ok_nx, Ok_ok, Ok_ofS, S_expr, S_asg, S_ret, S_retN, S_pass, S_brk, S_cont, S_for, S_par, par2, par3, cst_int, cst_non, cst_bl, cst_str, ofW, ofWs, E_cst, E_glo, E_var, E_mut, E_bin, E_neg, E_not, E_cmp, E_fld, E_ix, E_rev, E_slc, E_lst, E_tup, E_dic0, E_call, E_make, E_meth, E_callv, E_bc, E_bm, bmX_l, bmX_d, kindU_ref, E_isi, E_rngL, E_sset, E_comp, evEs, T_cst, T_glo, T_var, T_bin, T_neg, T_fld, T_ix, T_rev, T_slc, T_lst, T_tup, T_call, T_make, T_meth, T_callv, T_bc, T_bm, T_isi, T_comp, T_not, T_and, T_or, T_ife, T_cmp, T_cmp2, isB_bl, E_and, E_or, E_ife, E_cmp2, evO, evC, evI, evG, evGs, wipeS, permU, calN_call, calN_cs, getS_0, getS_s, newL_c, newT_c, tru_bl, tru_int, tru_non, tru_lst, tru_tup, bin_add, bin_sub, bin_mulc, bin_fdivc, bin_mod, bin_addL, cmp_lt, cmp_le, cmp_gt, cmp_ge, cmp_isN, cmp_isnN, isNon_non, isNon_int, isNon_tup, isNon_lst, isNon_ref, isNon_bl, cmp_eqI, cmp_neI, cmp_eq, cmp_ne, cmpEq_n, eqD_if, own_ref, der_ref, id_b, own_lst, own_tup, own_non, own_bl, own_int, own_str, der_lst, der_tup, der_non, der_int, der_bl, der_str, isD_int, isD_bl, isD_non, isD_bstr, isD_tup, isD_lst, eqv_int, eqv_bl, eqv_non, eqv_str, eqv_lst, eqv_tup, eqvs_nil, eqvs_nc, eqvs_cn, eqvs_cc, eqvs_n, eqv_ni, eqv_in, bc_int, bc_abs, bc_max, bc_min, bc_divmod, bc_len, bc_lenF, bc_lenT, bc_list, bc_listT, bc_tuple, rep_bl, ix_lst, ix_tup, ix_frz, at_0, at_1, at_2, at_3, at_4, slc_lst, rev_lst, fldU, setFld, methOf, putF, isiU, isOne, tyName, thaw, isFr, Mi.tgsL, List.contains_cons, List.contains_nil, List.length_cons, List.length_nil, List.length_append, List.length_map, List.set_cons_zero, List.set_cons_succ, List.lookup_cons, List.lookup_nil, Option.map_some, Bool.not_true, Bool.not_false, Nat.reduceBEq, Nat.reduceEqDiff, Nat.reduceAdd, Nat.reduceLT, Int.reduceEq, Int.reduceNe, Int.reduceLT, Int.reduceLE, if_true, if_false, reduceIte, decide_true, decide_false, decide_eq_true_eq, Bool.false_eq_true, Bool.and_true, Bool.true_and, Bool.and_false, Bool.false_and, Bool.or_true, Bool.or_false, Bool.true_or, Bool.false_or, beq_self_eq_true, Nat.zero_add, List.nil_append, List.isEmpty_nil, List.isEmpty_cons, and_self, true_and, and_true, eq_self, bt_beq, reduceCtorEq, List.set_set, List.all_nil, List.all_cons, List.all_append, set_app, get_app_eq, cut_tl, List.length_set, len_ref_a, list_ref_a, seq_ref_a, lsf_ref_a, dic_ref_a, lst_ref_a, seq_lst, seq_tup, lsf_lst, ix_ref_a, slc_ref_a, rev_ref_a, app_ref_a, appX_l, setIx_ref_a, bin_addX, addU, lstU, List.getElem?_set_ne, List.getElem?_set_self, List.getElem?_append_left, get_app_len, set_app_len, cs0, mk0, hx1.lsf]
  refine comp_datF (src_enm hx1.lsf) es.zipIdx (fun p => .tup [.int (p.2 : Nat), .tup [.lst [.int p.1.1], .bl p.1.2]]) (fun p => .tup [.int (first + (p.2 : Nat)), .lst [.int p.1.1]]) (fun p => decide ((n - first).toNat ≤ p.2)) (enmL_map _ _) (by simp; omega) ?_ ?_
  · rintro ⟨⟨k, b⟩, j⟩ ma
    simp -dsimp (maxSteps := 1000000) (disch := first | assumption | omega | (simp only [List.length_cons, List.length_nil, List.length_append, List.length_map, List.length_take, List.length_drop, List.length_set, List.length_range, List.length_reverse] <;> omega) | rfl | decide) only [OkS_cons, OkS_nil, OkS_nx, OkS_rt, OkS_bk, OkS_ct, OkS_toS, OkS_if, Ok_bind, Ok_bindN, Ok_nx, Ok_ok, Ok_ofS, S_expr, S_asg, S_ret, S_retN, S_pass, S_brk, S_cont, S_for, S_par, par2, par3, cst_int, cst_non, cst_bl, cst_str, ofW, ofWs, E_cst, E_glo, E_var, E_mut, E_bin, E_neg, E_not, E_cmp, E_fld, E_ix, E_rev, E_slc, E_lst, E_tup, E_dic0, E_call, E_make, E_meth, E_callv, E_bc, E_bm, bmX_l, bmX_d, kindU_ref, E_isi, E_rngL, E_sset, E_comp, evEs, T_cst, T_glo, T_var, T_bin, T_neg, T_fld, T_ix, T_rev, T_slc, T_lst, T_tup, T_call, T_make, T_meth, T_callv, T_bc, T_bm, T_isi, T_comp, T_not, T_and, T_or, T_ife, T_cmp, T_cmp2, isB_bl, E_and, E_or, E_ife, E_cmp2, evO, evC, evI, evG, evGs, wipeS, permU, calN_call, calN_cs, getS_0, getS_s, newL_c, newT_c, tru_bl, tru_int, tru_non, tru_lst, tru_tup, bin_add, bin_sub, bin_mulc, bin_fdivc, bin_mod, bin_addL, cmp_lt, cmp_le, cmp_gt, cmp_ge, cmp_isN, cmp_isnN, isNon_non, isNon_int, isNon_tup, isNon_lst, isNon_ref, isNon_bl, cmp_eqI, cmp_neI, cmp_eq, cmp_ne, cmpEq_n, eqD_if, own_ref, der_ref, id_b, own_lst, own_tup, own_non, own_bl, own_int, own_str, der_lst, der_tup, der_non, der_int, der_bl, der_str, isD_int, isD_bl, isD_non, isD_bstr, isD_tup, isD_lst, eqv_int, eqv_bl, eqv_non, eqv_str, eqv_lst, eqv_tup, eqvs_nil, eqvs_nc, eqvs_cn, eqvs_cc, eqvs_n, eqv_ni, eqv_in, bc_int, bc_abs, bc_max, bc_min, bc_divmod, bc_len, bc_lenF, bc_lenT, bc_list, bc_listT, bc_tuple, rep_bl, ix_lst, ix_tup, ix_frz, at_0, at_1, at_2, at_3, at_4, slc_lst, rev_lst, fldU, setFld, methOf, putF, isiU, isOne, tyName, thaw, isFr, Mi.tgsL, List.contains_cons, List.contains_nil, List.length_cons, List.length_nil, List.length_append, List.length_map, List.set_cons_zero, List.set_cons_succ, List.lookup_cons, List.lookup_nil, Option.map_some, Bool.not_true, Bool.not_false, Nat.reduceBEq, Nat.reduceEqDiff, Nat.reduceAdd, Nat.reduceLT, Int.reduceEq, Int.reduceNe, Int.reduceLT, Int.reduceLE, if_true, if_false, reduceIte, decide_true, decide_false, decide_eq_true_eq, Bool.false_eq_true, Bool.and_true, Bool.true_and, Bool.and_false, Bool.false_and, Bool.or_true, Bool.or_false, Bool.true_or, Bool.false_or, beq_self_eq_true, Nat.zero_add, List.nil_append, List.isEmpty_nil, List.isEmpty_cons, and_self, true_and, and_true, eq_self, bt_beq, reduceCtorEq, List.set_set, List.all_nil, List.all_cons, List.all_append, set_app, get_app_eq, cut_tl, List.length_set, len_ref_a, list_ref_a, seq_ref_a, lsf_ref_a, dic_ref_a, lst_ref_a, seq_lst, seq_tup, lsf_lst, ix_ref_a, slc_ref_a, rev_ref_a, app_ref_a, appX_l, setIx_ref_a, bin_addX, addU, lstU, List.getElem?_set_ne, List.getElem?_set_self, List.getElem?_append_left, get_app_len, set_app_len, cs0, mk0]
    have : ((n - first).toNat ≤ j) ↔ (max 0 (n - first) ≤ (j : Int)) := by omega
    simp [this]
  · rw [filt_zip (Nat.zero_le _), Nat.sub_zero]
    have e2 : ((List.range (es.length - (n - first).toNat)).map fun i : Nat => U.tup [.int (first + (((n - first).toNat + i : Nat) : Int)), (thL es).getD ((n - first).toNat + i) .non]) = ((es.drop (n - first).toNat).zipIdx (n - first).toNat).map fun p => .tup [.int (first + (p.2 : Nat)), .lst [.int p.1.1]] := by
      refine List.ext_getElem? fun i => ?_
      simp only [List.getElem?_map, List.getElem?_zipIdx, List.getElem?_drop, List.length_map]
      by_cases c : i < es.length - (n - first).toNat
      · have c2 : (n - first).toNat + i < es.length := by omega
        rw [List.getElem?_range c]
        simp [c2, List.getD_eq_getElem?_getD]
      · have c2 : ¬ (n - first).toNat + i < es.length := by omega
        have c3 : ((List.range (es.length - (n - first).toNat))[i]?) = none := by simp; omega
        rw [c3]
        simp [c2]
    rw [e2]
    generalize ((es.drop (n - first).toNat).zipIdx (n - first).toNat) = ps
    have D1 : ∀ k, ((ps.map fun p : (Int × Bool) × Nat => U.tup [.int (first + (p.2 : Nat)), .lst [.int p.1.1]]).reverse).all (isD (k + 3)) = true := fun k => by simp [isD]
    simp -dsimp (maxSteps := 1000000) (disch := first | assumption | omega | (simp only [List.length_cons, List.length_nil, List.length_append, List.length_map, List.length_take, List.length_drop, List.length_set, List.length_range, List.length_reverse] <;> omega) | rfl | decide) only [OkS_cons, OkS_nil, OkS_nx, OkS_rt, OkS_bk, OkS_ct, OkS_toS, OkS_if, Ok_bind, Ok_bindN, Ok_nx, Ok_ok, Ok_ofS, S_expr, S_asg, S_ret, S_retN, S_pass, S_brk, S_cont, S_for, S_par, par2, par3, cst_int, cst_non, cst_bl, cst_str, ofW, ofWs, E_cst, E_glo, E_var, E_mut, E_bin, E_neg, E_not, E_cmp, E_fld, E_ix, E_rev, E_slc, E_lst, E_tup, E_dic0, E_call, E_make, E_meth, E_callv, E_bc, E_bm, bmX_l, bmX_d, kindU_ref, E_isi, E_rngL, E_sset, E_comp, evEs, T_cst, T_glo, T_var, T_bin, T_neg, T_fld, T_ix, T_rev, T_slc, T_lst, T_tup, T_call, T_make, T_meth, T_callv, T_bc, T_bm, T_isi, T_comp, T_not, T_and, T_or, T_ife, T_cmp, T_cmp2, isB_bl, E_and, E_or, E_ife, E_cmp2, evO, evC, evI, evG, evGs, wipeS, permU, calN_call, calN_cs, getS_0, getS_s, newL_c, newT_c, tru_bl, tru_int, tru_non, tru_lst, tru_tup, bin_add, bin_sub, bin_mulc, bin_fdivc, bin_mod, bin_addL, cmp_lt, cmp_le, cmp_gt, cmp_ge, cmp_isN, cmp_isnN, isNon_non, isNon_int, isNon_tup, isNon_lst, isNon_ref, isNon_bl, cmp_eqI, cmp_neI, cmp_eq, cmp_ne, cmpEq_n, eqD_if, own_ref, der_ref, id_b, own_lst, own_tup, own_non, own_bl, own_int, own_str, der_lst, der_tup, der_non, der_int, der_bl, der_str, isD_int, isD_bl, isD_non, isD_bstr, isD_tup, isD_lst, eqv_int, eqv_bl, eqv_non, eqv_str, eqv_lst, eqv_tup, eqvs_nil, eqvs_nc, eqvs_cn, eqvs_cc, eqvs_n, eqv_ni, eqv_in, bc_int, bc_abs, bc_max, bc_min, bc_divmod, bc_len, bc_lenF, bc_lenT, bc_list, bc_listT, bc_tuple, rep_bl, ix_lst, ix_tup, ix_frz, at_0, at_1, at_2, at_3, at_4, slc_lst, rev_lst, fldU, setFld, methOf, putF, isiU, isOne, tyName, thaw, isFr, Mi.tgsL, List.contains_cons, List.contains_nil, List.length_cons, List.length_nil, List.length_append, List.length_map, List.set_cons_zero, List.set_cons_succ, List.lookup_cons, List.lookup_nil, Option.map_some, Bool.not_true, Bool.not_false, Nat.reduceBEq, Nat.reduceEqDiff, Nat.reduceAdd, Nat.reduceLT, Int.reduceEq, Int.reduceNe, Int.reduceLT, Int.reduceLE, if_true, if_false, reduceIte, decide_true, decide_false, decide_eq_true_eq, Bool.false_eq_true, Bool.and_true, Bool.true_and, Bool.and_false, Bool.false_and, Bool.or_true, Bool.or_false, Bool.true_or, Bool.false_or, beq_self_eq_true, Nat.zero_add, List.nil_append, List.isEmpty_nil, List.isEmpty_cons, and_self, true_and, and_true, eq_self, bt_beq, reduceCtorEq, List.set_set, List.all_nil, List.all_cons, List.all_append, set_app, get_app_eq, cut_tl, List.length_set, len_ref_a, list_ref_a, seq_ref_a, lsf_ref_a, dic_ref_a, lst_ref_a, seq_lst, seq_tup, lsf_lst, ix_ref_a, slc_ref_a, rev_ref_a, app_ref_a, appX_l, setIx_ref_a, bin_addX, addU, lstU, List.getElem?_set_ne, List.getElem?_set_self, List.getElem?_append_left, get_app_len, set_app_len, cs0, mk0, D1, eqvs_self D1]
    rw [← eh]
    simp [List.map_take]
end
end Lawk71

set_option Elab.async false
set_option linter.all false
set_option maxRecDepth 100000
set_option maxHeartbeats 4000000
namespace Lawk71
open PySem Mu
theorem draw {d : Nat} {h : Hu} {Q : U → Hu → Prop} {p : Nat} {a b z : Int} (hp : h[p]? = some (.lst [.int a, .int b])) (hb : PotB b) (h0 : 0 < z) (h1 : z < 1000000) (q : ∀ r a' b', 0 ≤ r → r < z → PotB b' → Q (.int r) (h.set p (.lst [.int a', .int b']))) : Ok (callN pr 0 (d + 1) 20 [.ref p, .int z] h) Q :=
  draw_ok (k := 20) rfl (by decide) (by decide) (by decide) hp hb h0 (by omega) q
theorem pick {d : Nat} {h : Hu} {Q : U → Hu → Prop} {p : Nat} {a b : Int} {us : List U} (hp : h[p]? = some (.lst [.int a, .int b])) (hb : PotB b) (h0 : 0 < us.length) (h1 : us.length < 1000) (q : ∀ v a' b', v ∈ us → PotB b' → Q v (h.set p (.lst [.int a', .int b']))) : Ok (callN pr 0 (d + 2) 21 [.ref p, .lst us] h) Q :=
  pick_ok (k := 21) (n := 20) rfl rfl (by decide) (by decide) (by decide) hp hb h0 h1 q
abbrev ksL (ks : List Int) : List U := ks.map fun k => .lst [.int k]
structure St (i : Nat) (many first made : Int) (es : List (Int × Bool)) (lefts : List Int) (o : Nat) (as : U) (h : Hu) : Prop where
  po : ∃ a b, h[0]? = some (.lst [.int a, .int b]) ∧ PotB b
  ob : h[1]? = some (.ins 0 [(0, .int many), (1, .int first), (2, .lst (thL es)), (3, .lst (dnL es))])
  ow : h[o]? = some (.lst (owL es))
  oo : o ≠ 0 ∧ o ≠ 1 ∧ o ≠ 3 ∧ o ≠ 4
  en : h[3]? = some (.lst (ksL (lefts ++ es.map Prod.fst)))
  lf : h[4]? = some (.lst (ksL lefts))
  nd : (lefts ++ es.map Prod.fst).Nodup
  ml : ∀ k ∈ lefts ++ es.map Prod.fst, k < made
  f0 : 0 ≤ first
  fl : first ≤ i
  ll : lefts.length ≤ i
  sz : (es.length : Int) ≤ many
  m0 : 1 ≤ many ∧ many ≤ 6
  asd : as = .non ∨ ∃ c es' f', as = .tup [.ref c, .lst (owL es'), .int f'] ∧ 5 ≤ c ∧ c ≠ o ∧ h[c]? = some (.ins 0 [(0, .int many), (1, .int f'), (2, .lst (thL es')), (3, .lst (dnL es'))]) ∧ 0 ≤ f' ∧ f' ≤ 1000000 ∧ es'.length ≤ 100
def sl (many first made : Int) (o : Nat) (as : U) (t9 t10 t11 t12 t13 t14 t15 : Option U) : Sl := [some (.ref 0), some (.int many), some (.ref 1), some (.ref o), some (.int first), some (.int made), some (.ref 3), some (.ref 4), some as, t9, t10, t11, t12, t13, t14, t15]
theorem St.len {i : Nat} {many first made : Int} {es : List (Int × Bool)} {lefts : List Int} {o : Nat} {as : U} {h : Hu} (S : St i many first made es lefts o as h) : 5 ≤ h.length ∧ o < h.length := by
  have h1 := (List.getElem?_eq_some_iff.mp S.lf).1
  have h2 := (List.getElem?_eq_some_iff.mp S.ow).1
  exact ⟨by omega, h2⟩
/-- what the deed leaves alone -/
theorem as_set {many : Int} {o : Nat} {as : U} {h h' : Hu} (k : ∀ c, 5 ≤ c → c ≠ o → ∀ x, h[c]? = some x → h'[c]? = some x)
    (q : as = .non ∨ ∃ c es' f', as = .tup [.ref c, .lst (owL es'), .int f'] ∧ 5 ≤ c ∧ c ≠ o ∧ h[c]? = some (.ins 0 [(0, .int many), (1, .int f'), (2, .lst (thL es')), (3, .lst (dnL es'))]) ∧ 0 ≤ f' ∧ f' ≤ 1000000 ∧ es'.length ≤ 100) :
    as = .non ∨ ∃ c es' f', as = .tup [.ref c, .lst (owL es'), .int f'] ∧ 5 ≤ c ∧ c ≠ o ∧ h'[c]? = some (.ins 0 [(0, .int many), (1, .int f'), (2, .lst (thL es')), (3, .lst (dnL es'))]) ∧ 0 ≤ f' ∧ f' ≤ 1000000 ∧ es'.length ≤ 100 := by
  rcases q with q | ⟨c, es', f', e1, e2, e3, e4, e5⟩
  · exact .inl q
  · exact .inr ⟨c, es', f', e1, e2, e3, k c e2 e3 _ e4, e5⟩
section
variable {d i : Nat} {many first made : Int} {es : List (Int × Bool)} {lefts : List Int} {o : Nat} {as : U} {h : Hu}
theorem St.sn (S : St i many first made es lefts o as h) (hi : i ≤ 100) : callN pr 0 (d + 6) 22 [.ref 1, .ref o, .int first, .int many] h = .ok (.bl true) h := by
  have := S.fl; have := S.sz; have := S.m0.2
  exact seen S.ob S.f0 (by omega) (by omega) (isL_r S.ow)
theorem St.go (many first made : Int) (es : List (Int × Bool)) (lefts : List Int) (o : Nat) (as : U) {Q : U → Hu → Prop} (S : St i many first made es lefts o as h) (hi : i ≤ 100) (q : St i many first made es lefts o as h → Q (.bl true) h) : Ok (callN pr 0 (d + 6) 22 [.ref 1, .ref o, .int first, .int many] h) Q := (Ok_by (S.sn hi)).mpr (q S)
/-- the loop's body -/
theorem body (S : St i many first made es lefts o as h) (hi : i ≤ 40) (t9 t10 t11 t12 t13 t14 t15 : Option U) {D : Dn} (q : ∀ first made es lefts o as h s, St (i + 1) many first made es lefts o as h → (∃ t9 t10 t11 t12 t13 t14 t15, s = sl many first made o as t9 t10 t11 t12 t13 t14 t15) → D.nx s h) :
    OkS (evSs (calN pr 0 (d + 6)) (match b24 with | .cons _ (.cons _ (.cons _ (.cons (.forS _ _ b) _))) => b | _ => .nil) (sl many first made o as t9 t10 t11 t12 t13 t14 t15) h) D := by
  obtain ⟨a, b, hp, hb⟩ := S.po
  have l5 := S.len.1
  have lo := S.len.2
  have oo := S.oo
  have f0 := S.f0; have fl := S.fl; have sz := S.sz; have m0 := S.m0; have ll := S.ll
  unfold b24 sl
  simp -dsimp (maxSteps := 1000000) (disch := first | assumption | omega | (simp only [List.length_cons, List.length_nil, List.length_append, List.length_map, List.length_take, List.length_drop, List.length_set, List.length_range, List.length_reverse] <;> omega) | rfl | decide) only [OkS_cons, OkS_nil, OkS_nx, OkS_rt, OkS_bk, OkS_ct, OkS_toS, OkS_if, Ok_bind, Ok_bindN, Ok_nx, Ok_ok, Ok_ofS, S_expr, S_asg, S_ret, S_retN, S_pass, S_brk, S_cont, S_for, S_par, par2, par3, cst_int, cst_non, cst_bl, cst_str, ofW, ofWs, E_cst, E_glo, E_var, E_mut, E_bin, E_neg, E_not, E_cmp, E_fld, E_ix, E_rev, E_slc, E_lst, E_tup, E_dic0, E_call, E_make, E_meth, E_callv, E_bc, E_bm, bmX_l, bmX_d, kindU_ref, E_isi, E_rngL, E_sset, E_comp, evEs, T_cst, T_glo, T_var, T_bin, T_neg, T_fld, T_ix, T_rev, T_slc, T_lst, T_tup, T_call, T_make, T_meth, T_callv, T_bc, T_bm, T_isi, T_comp, T_not, T_and, T_or, T_ife, T_cmp, T_cmp2, isB_bl, E_and, E_or, E_ife, E_cmp2, evO, evC, evI, evG, evGs, wipeS, permU, calN_call, calN_cs, getS_0, getS_s, newL_c, newT_c, tru_bl, tru_int, tru_non, tru_lst, tru_tup, bin_add, bin_sub, bin_mulc, bin_fdivc, bin_mod, bin_addL, cmp_lt, cmp_le, cmp_gt, cmp_ge, cmp_isN, cmp_isnN, isNon_non, isNon_int, isNon_tup, isNon_lst, isNon_ref, isNon_bl, cmp_eqI, cmp_neI, cmp_eq, cmp_ne, cmpEq_n, eqD_if, own_ref, der_ref, id_b, own_lst, own_tup, own_non, own_bl, own_int, own_str, der_lst, der_tup, der_non, der_int, der_bl, der_str, isD_int, isD_bl, isD_non, isD_bstr, isD_tup, isD_lst, eqv_int, eqv_bl, eqv_non, eqv_str, eqv_lst, eqv_tup, eqvs_nil, eqvs_nc, eqvs_cn, eqvs_cc, eqvs_n, eqv_ni, eqv_in, bc_int, bc_abs, bc_max, bc_min, bc_divmod, bc_len, bc_lenF, bc_lenT, bc_list, bc_listT, bc_tuple, rep_bl, ix_lst, ix_tup, ix_frz, at_0, at_1, at_2, at_3, at_4, slc_lst, rev_lst, fldU, setFld, methOf, putF, isiU, isOne, tyName, thaw, isFr, Mi.tgsL, List.contains_cons, List.contains_nil, List.length_cons, List.length_nil, List.length_append, List.length_map, List.set_cons_zero, List.set_cons_succ, List.lookup_cons, List.lookup_nil, Option.map_some, Bool.not_true, Bool.not_false, Nat.reduceBEq, Nat.reduceEqDiff, Nat.reduceAdd, Nat.reduceLT, Int.reduceEq, Int.reduceNe, Int.reduceLT, Int.reduceLE, if_true, if_false, reduceIte, decide_true, decide_false, decide_eq_true_eq, Bool.false_eq_true, Bool.and_true, Bool.true_and, Bool.and_false, Bool.false_and, Bool.or_true, Bool.or_false, Bool.true_or, Bool.false_or, beq_self_eq_true, Nat.zero_add, List.nil_append, List.isEmpty_nil, List.isEmpty_cons, and_self, true_and, and_true, eq_self, bt_beq, reduceCtorEq, List.set_set, List.all_nil, List.all_cons, List.all_append, set_app, get_app_eq, cut_tl, List.length_set, len_ref_a, list_ref_a, seq_ref_a, lsf_ref_a, dic_ref_a, lst_ref_a, seq_lst, seq_tup, lsf_lst, ix_ref_a, slc_ref_a, rev_ref_a, app_ref_a, appX_l, setIx_ref_a, bin_addX, addU, lstU, List.getElem?_set_ne, List.getElem?_set_self, List.getElem?_append_left, get_app_len, set_app_len, cs0, mk0]
  refine pick hp hb (by simp) (by simp) fun v a' b' mv hb' => ?_
  have S' : St i many first made es lefts o as (h.set 0 (.lst [.int a', .int b'])) := by
    refine ⟨⟨a', b', by simp -dsimp (maxSteps := 1000000) (disch := first | assumption | omega | (simp only [List.length_cons, List.length_nil, List.length_append, List.length_map, List.length_take, List.length_drop, List.length_set, List.length_range, List.length_reverse] <;> omega) | rfl | decide) only [OkS_cons, OkS_nil, OkS_nx, OkS_rt, OkS_bk, OkS_ct, OkS_toS, OkS_if, Ok_bind, Ok_bindN, Ok_nx, Ok_ok, Ok_ofS, S_expr, S_asg, S_ret, S_retN, S_pass, S_brk, S_cont, S_for, S_par, par2, par3, cst_int, cst_non, cst_bl, cst_str, ofW, ofWs, E_cst, E_glo, E_var, E_mut, E_bin, E_neg, E_not, E_cmp, E_fld, E_ix, E_rev, E_slc, E_lst, E_tup, E_dic0, E_call, E_make, E_meth, E_callv, E_bc, E_bm, bmX_l, bmX_d, kindU_ref, E_isi, E_rngL, E_sset, E_comp, evEs, T_cst, T_glo, T_var, T_bin, T_neg, T_fld, T_ix, T_rev, T_slc, T_lst, T_tup, T_call, T_make, T_meth, T_callv, T_bc, T_bm, T_isi, T_comp, T_not, T_and, T_or, T_ife, T_cmp, T_cmp2, isB_bl, E_and, E_or, E_ife, E_cmp2, evO, evC, evI, evG, evGs, wipeS, permU, calN_call, calN_cs, getS_0, getS_s, newL_c, newT_c, tru_bl, tru_int, tru_non, tru_lst, tru_tup, bin_add, bin_sub, bin_mulc, bin_fdivc, bin_mod, bin_addL, cmp_lt, cmp_le, cmp_gt, cmp_ge, cmp_isN, cmp_isnN, isNon_non, isNon_int, isNon_tup, isNon_lst, isNon_ref, isNon_bl, cmp_eqI, cmp_neI, cmp_eq, cmp_ne, cmpEq_n, eqD_if, own_ref, der_ref, id_b, own_lst, own_tup, own_non, own_bl, own_int, own_str, der_lst, der_tup, der_non, der_int, der_bl, der_str, isD_int, isD_bl, isD_non, isD_bstr, isD_tup, isD_lst, eqv_int, eqv_bl, eqv_non, eqv_str, eqv_lst, eqv_tup, eqvs_nil, eqvs_nc, eqvs_cn, eqvs_cc, eqvs_n, eqv_ni, eqv_in, bc_int, bc_abs, bc_max, bc_min, bc_divmod, bc_len, bc_lenF, bc_lenT, bc_list, bc_listT, bc_tuple, rep_bl, ix_lst, ix_tup, ix_frz, at_0, at_1, at_2, at_3, at_4, slc_lst, rev_lst, fldU, setFld, methOf, putF, isiU, isOne, tyName, thaw, isFr, Mi.tgsL, List.contains_cons, List.contains_nil, List.length_cons, List.length_nil, List.length_append, List.length_map, List.set_cons_zero, List.set_cons_succ, List.lookup_cons, List.lookup_nil, Option.map_some, Bool.not_true, Bool.not_false, Nat.reduceBEq, Nat.reduceEqDiff, Nat.reduceAdd, Nat.reduceLT, Int.reduceEq, Int.reduceNe, Int.reduceLT, Int.reduceLE, if_true, if_false, reduceIte, decide_true, decide_false, decide_eq_true_eq, Bool.false_eq_true, Bool.and_true, Bool.true_and, Bool.and_false, Bool.false_and, Bool.or_true, Bool.or_false, Bool.true_or, Bool.false_or, beq_self_eq_true, Nat.zero_add, List.nil_append, List.isEmpty_nil, List.isEmpty_cons, and_self, true_and, and_true, eq_self, bt_beq, reduceCtorEq, List.set_set, List.all_nil, List.all_cons, List.all_append, set_app, get_app_eq, cut_tl, List.length_set, len_ref_a, list_ref_a, seq_ref_a, lsf_ref_a, dic_ref_a, lst_ref_a, seq_lst, seq_tup, lsf_lst, ix_ref_a, slc_ref_a, rev_ref_a, app_ref_a, appX_l, setIx_ref_a, bin_addX, addU, lstU, List.getElem?_set_ne, List.getElem?_set_self, List.getElem?_append_left, get_app_len, set_app_len, cs0, mk0], hb'⟩, by simp -dsimp (maxSteps := 1000000) (disch := first | assumption | omega | (simp only [List.length_cons, List.length_nil, List.length_append, List.length_map, List.length_take, List.length_drop, List.length_set, List.length_range, List.length_reverse] <;> omega) | rfl | decide) only [OkS_cons, OkS_nil, OkS_nx, OkS_rt, OkS_bk, OkS_ct, OkS_toS, OkS_if, Ok_bind, Ok_bindN, Ok_nx, Ok_ok, Ok_ofS, S_expr, S_asg, S_ret, S_retN, S_pass, S_brk, S_cont, S_for, S_par, par2, par3, cst_int, cst_non, cst_bl, cst_str, ofW, ofWs, E_cst, E_glo, E_var, E_mut, E_bin, E_neg, E_not, E_cmp, E_fld, E_ix, E_rev, E_slc, E_lst, E_tup, E_dic0, E_call, E_make, E_meth, E_callv, E_bc, E_bm, bmX_l, bmX_d, kindU_ref, E_isi, E_rngL, E_sset, E_comp, evEs, T_cst, T_glo, T_var, T_bin, T_neg, T_fld, T_ix, T_rev, T_slc, T_lst, T_tup, T_call, T_make, T_meth, T_callv, T_bc, T_bm, T_isi, T_comp, T_not, T_and, T_or, T_ife, T_cmp, T_cmp2, isB_bl, E_and, E_or, E_ife, E_cmp2, evO, evC, evI, evG, evGs, wipeS, permU, calN_call, calN_cs, getS_0, getS_s, newL_c, newT_c, tru_bl, tru_int, tru_non, tru_lst, tru_tup, bin_add, bin_sub, bin_mulc, bin_fdivc, bin_mod, bin_addL, cmp_lt, cmp_le, cmp_gt, cmp_ge, cmp_isN, cmp_isnN, isNon_non, isNon_int, isNon_tup, isNon_lst, isNon_ref, isNon_bl, cmp_eqI, cmp_neI, cmp_eq, cmp_ne, cmpEq_n, eqD_if, own_ref, der_ref, id_b, own_lst, own_tup, own_non, own_bl, own_int, own_str, der_lst, der_tup, der_non, der_int, der_bl, der_str, isD_int, isD_bl, isD_non, isD_bstr, isD_tup, isD_lst, eqv_int, eqv_bl, eqv_non, eqv_str, eqv_lst, eqv_tup, eqvs_nil, eqvs_nc, eqvs_cn, eqvs_cc, eqvs_n, eqv_ni, eqv_in, bc_int, bc_abs, bc_max, bc_min, bc_divmod, bc_len, bc_lenF, bc_lenT, bc_list, bc_listT, bc_tuple, rep_bl, ix_lst, ix_tup, ix_frz, at_0, at_1, at_2, at_3, at_4, slc_lst, rev_lst, fldU, setFld, methOf, putF, isiU, isOne, tyName, thaw, isFr, Mi.tgsL, List.contains_cons, List.contains_nil, List.length_cons, List.length_nil, List.length_append, List.length_map, List.set_cons_zero, List.set_cons_succ, List.lookup_cons, List.lookup_nil, Option.map_some, Bool.not_true, Bool.not_false, Nat.reduceBEq, Nat.reduceEqDiff, Nat.reduceAdd, Nat.reduceLT, Int.reduceEq, Int.reduceNe, Int.reduceLT, Int.reduceLE, if_true, if_false, reduceIte, decide_true, decide_false, decide_eq_true_eq, Bool.false_eq_true, Bool.and_true, Bool.true_and, Bool.and_false, Bool.false_and, Bool.or_true, Bool.or_false, Bool.true_or, Bool.false_or, beq_self_eq_true, Nat.zero_add, List.nil_append, List.isEmpty_nil, List.isEmpty_cons, and_self, true_and, and_true, eq_self, bt_beq, reduceCtorEq, List.set_set, List.all_nil, List.all_cons, List.all_append, set_app, get_app_eq, cut_tl, List.length_set, len_ref_a, list_ref_a, seq_ref_a, lsf_ref_a, dic_ref_a, lst_ref_a, seq_lst, seq_tup, lsf_lst, ix_ref_a, slc_ref_a, rev_ref_a, app_ref_a, appX_l, setIx_ref_a, bin_addX, addU, lstU, List.getElem?_set_ne, List.getElem?_set_self, List.getElem?_append_left, get_app_len, set_app_len, cs0, mk0, S.ob], by simp -dsimp (maxSteps := 1000000) (disch := first | assumption | omega | (simp only [List.length_cons, List.length_nil, List.length_append, List.length_map, List.length_take, List.length_drop, List.length_set, List.length_range, List.length_reverse] <;> omega) | rfl | decide) only [OkS_cons, OkS_nil, OkS_nx, OkS_rt, OkS_bk, OkS_ct, OkS_toS, OkS_if, Ok_bind, Ok_bindN, Ok_nx, Ok_ok, Ok_ofS, S_expr, S_asg, S_ret, S_retN, S_pass, S_brk, S_cont, S_for, S_par, par2, par3, cst_int, cst_non, cst_bl, cst_str, ofW, ofWs, E_cst, E_glo, E_var, E_mut, E_bin, E_neg, E_not, E_cmp, E_fld, E_ix, E_rev, E_slc, E_lst, E_tup, E_dic0, E_call, E_make, E_meth, E_callv, E_bc, E_bm, bmX_l, bmX_d, kindU_ref, E_isi, E_rngL, E_sset, E_comp, evEs, T_cst, T_glo, T_var, T_bin, T_neg, T_fld, T_ix, T_rev, T_slc, T_lst, T_tup, T_call, T_make, T_meth, T_callv, T_bc, T_bm, T_isi, T_comp, T_not, T_and, T_or, T_ife, T_cmp, T_cmp2, isB_bl, E_and, E_or, E_ife, E_cmp2, evO, evC, evI, evG, evGs, wipeS, permU, calN_call, calN_cs, getS_0, getS_s, newL_c, newT_c, tru_bl, tru_int, tru_non, tru_lst, tru_tup, bin_add, bin_sub, bin_mulc, bin_fdivc, bin_mod, bin_addL, cmp_lt, cmp_le, cmp_gt, cmp_ge, cmp_isN, cmp_isnN, isNon_non, isNon_int, isNon_tup, isNon_lst, isNon_ref, isNon_bl, cmp_eqI, cmp_neI, cmp_eq, cmp_ne, cmpEq_n, eqD_if, own_ref, der_ref, id_b, own_lst, own_tup, own_non, own_bl, own_int, own_str, der_lst, der_tup, der_non, der_int, der_bl, der_str, isD_int, isD_bl, isD_non, isD_bstr, isD_tup, isD_lst, eqv_int, eqv_bl, eqv_non, eqv_str, eqv_lst, eqv_tup, eqvs_nil, eqvs_nc, eqvs_cn, eqvs_cc, eqvs_n, eqv_ni, eqv_in, bc_int, bc_abs, bc_max, bc_min, bc_divmod, bc_len, bc_lenF, bc_lenT, bc_list, bc_listT, bc_tuple, rep_bl, ix_lst, ix_tup, ix_frz, at_0, at_1, at_2, at_3, at_4, slc_lst, rev_lst, fldU, setFld, methOf, putF, isiU, isOne, tyName, thaw, isFr, Mi.tgsL, List.contains_cons, List.contains_nil, List.length_cons, List.length_nil, List.length_append, List.length_map, List.set_cons_zero, List.set_cons_succ, List.lookup_cons, List.lookup_nil, Option.map_some, Bool.not_true, Bool.not_false, Nat.reduceBEq, Nat.reduceEqDiff, Nat.reduceAdd, Nat.reduceLT, Int.reduceEq, Int.reduceNe, Int.reduceLT, Int.reduceLE, if_true, if_false, reduceIte, decide_true, decide_false, decide_eq_true_eq, Bool.false_eq_true, Bool.and_true, Bool.true_and, Bool.and_false, Bool.false_and, Bool.or_true, Bool.or_false, Bool.true_or, Bool.false_or, beq_self_eq_true, Nat.zero_add, List.nil_append, List.isEmpty_nil, List.isEmpty_cons, and_self, true_and, and_true, eq_self, bt_beq, reduceCtorEq, List.set_set, List.all_nil, List.all_cons, List.all_append, set_app, get_app_eq, cut_tl, List.length_set, len_ref_a, list_ref_a, seq_ref_a, lsf_ref_a, dic_ref_a, lst_ref_a, seq_lst, seq_tup, lsf_lst, ix_ref_a, slc_ref_a, rev_ref_a, app_ref_a, appX_l, setIx_ref_a, bin_addX, addU, lstU, List.getElem?_set_ne, List.getElem?_set_self, List.getElem?_append_left, get_app_len, set_app_len, cs0, mk0, S.ow], S.oo, by simp -dsimp (maxSteps := 1000000) (disch := first | assumption | omega | (simp only [List.length_cons, List.length_nil, List.length_append, List.length_map, List.length_take, List.length_drop, List.length_set, List.length_range, List.length_reverse] <;> omega) | rfl | decide) only [OkS_cons, OkS_nil, OkS_nx, OkS_rt, OkS_bk, OkS_ct, OkS_toS, OkS_if, Ok_bind, Ok_bindN, Ok_nx, Ok_ok, Ok_ofS, S_expr, S_asg, S_ret, S_retN, S_pass, S_brk, S_cont, S_for, S_par, par2, par3, cst_int, cst_non, cst_bl, cst_str, ofW, ofWs, E_cst, E_glo, E_var, E_mut, E_bin, E_neg, E_not, E_cmp, E_fld, E_ix, E_rev, E_slc, E_lst, E_tup, E_dic0, E_call, E_make, E_meth, E_callv, E_bc, E_bm, bmX_l, bmX_d, kindU_ref, E_isi, E_rngL, E_sset, E_comp, evEs, T_cst, T_glo, T_var, T_bin, T_neg, T_fld, T_ix, T_rev, T_slc, T_lst, T_tup, T_call, T_make, T_meth, T_callv, T_bc, T_bm, T_isi, T_comp, T_not, T_and, T_or, T_ife, T_cmp, T_cmp2, isB_bl, E_and, E_or, E_ife, E_cmp2, evO, evC, evI, evG, evGs, wipeS, permU, calN_call, calN_cs, getS_0, getS_s, newL_c, newT_c, tru_bl, tru_int, tru_non, tru_lst, tru_tup, bin_add, bin_sub, bin_mulc, bin_fdivc, bin_mod, bin_addL, cmp_lt, cmp_le, cmp_gt, cmp_ge, cmp_isN, cmp_isnN, isNon_non, isNon_int, isNon_tup, isNon_lst, isNon_ref, isNon_bl, cmp_eqI, cmp_neI, cmp_eq, cmp_ne, cmpEq_n, eqD_if, own_ref, der_ref, id_b, own_lst, own_tup, own_non, own_bl, own_int, own_str, der_lst, der_tup, der_non, der_int, der_bl, der_str, isD_int, isD_bl, isD_non, isD_bstr, isD_tup, isD_lst, eqv_int, eqv_bl, eqv_non, eqv_str, eqv_lst, eqv_tup, eqvs_nil, eqvs_nc, eqvs_cn, eqvs_cc, eqvs_n, eqv_ni, eqv_in, bc_int, bc_abs, bc_max, bc_min, bc_divmod, bc_len, bc_lenF, bc_lenT, bc_list, bc_listT, bc_tuple, rep_bl, ix_lst, ix_tup, ix_frz, at_0, at_1, at_2, at_3, at_4, slc_lst, rev_lst, fldU, setFld, methOf, putF, isiU, isOne, tyName, thaw, isFr, Mi.tgsL, List.contains_cons, List.contains_nil, List.length_cons, List.length_nil, List.length_append, List.length_map, List.set_cons_zero, List.set_cons_succ, List.lookup_cons, List.lookup_nil, Option.map_some, Bool.not_true, Bool.not_false, Nat.reduceBEq, Nat.reduceEqDiff, Nat.reduceAdd, Nat.reduceLT, Int.reduceEq, Int.reduceNe, Int.reduceLT, Int.reduceLE, if_true, if_false, reduceIte, decide_true, decide_false, decide_eq_true_eq, Bool.false_eq_true, Bool.and_true, Bool.true_and, Bool.and_false, Bool.false_and, Bool.or_true, Bool.or_false, Bool.true_or, Bool.false_or, beq_self_eq_true, Nat.zero_add, List.nil_append, List.isEmpty_nil, List.isEmpty_cons, and_self, true_and, and_true, eq_self, bt_beq, reduceCtorEq, List.set_set, List.all_nil, List.all_cons, List.all_append, set_app, get_app_eq, cut_tl, List.length_set, len_ref_a, list_ref_a, seq_ref_a, lsf_ref_a, dic_ref_a, lst_ref_a, seq_lst, seq_tup, lsf_lst, ix_ref_a, slc_ref_a, rev_ref_a, app_ref_a, appX_l, setIx_ref_a, bin_addX, addU, lstU, List.getElem?_set_ne, List.getElem?_set_self, List.getElem?_append_left, get_app_len, set_app_len, cs0, mk0, S.en], by simp -dsimp (maxSteps := 1000000) (disch := first | assumption | omega | (simp only [List.length_cons, List.length_nil, List.length_append, List.length_map, List.length_take, List.length_drop, List.length_set, List.length_range, List.length_reverse] <;> omega) | rfl | decide) only [OkS_cons, OkS_nil, OkS_nx, OkS_rt, OkS_bk, OkS_ct, OkS_toS, OkS_if, Ok_bind, Ok_bindN, Ok_nx, Ok_ok, Ok_ofS, S_expr, S_asg, S_ret, S_retN, S_pass, S_brk, S_cont, S_for, S_par, par2, par3, cst_int, cst_non, cst_bl, cst_str, ofW, ofWs, E_cst, E_glo, E_var, E_mut, E_bin, E_neg, E_not, E_cmp, E_fld, E_ix, E_rev, E_slc, E_lst, E_tup, E_dic0, E_call, E_make, E_meth, E_callv, E_bc, E_bm, bmX_l, bmX_d, kindU_ref, E_isi, E_rngL, E_sset, E_comp, evEs, T_cst, T_glo, T_var, T_bin, T_neg, T_fld, T_ix, T_rev, T_slc, T_lst, T_tup, T_call, T_make, T_meth, T_callv, T_bc, T_bm, T_isi, T_comp, T_not, T_and, T_or, T_ife, T_cmp, T_cmp2, isB_bl, E_and, E_or, E_ife, E_cmp2, evO, evC, evI, evG, evGs, wipeS, permU, calN_call, calN_cs, getS_0, getS_s, newL_c, newT_c, tru_bl, tru_int, tru_non, tru_lst, tru_tup, bin_add, bin_sub, bin_mulc, bin_fdivc, bin_mod, bin_addL, cmp_lt, cmp_le, cmp_gt, cmp_ge, cmp_isN, cmp_isnN, isNon_non, isNon_int, isNon_tup, isNon_lst, isNon_ref, isNon_bl, cmp_eqI, cmp_neI, cmp_eq, cmp_ne, cmpEq_n, eqD_if, own_ref, der_ref, id_b, own_lst, own_tup, own_non, own_bl, own_int, own_str, der_lst, der_tup, der_non, der_int, der_bl, der_str, isD_int, isD_bl, isD_non, isD_bstr, isD_tup, isD_lst, eqv_int, eqv_bl, eqv_non, eqv_str, eqv_lst, eqv_tup, eqvs_nil, eqvs_nc, eqvs_cn, eqvs_cc, eqvs_n, eqv_ni, eqv_in, bc_int, bc_abs, bc_max, bc_min, bc_divmod, bc_len, bc_lenF, bc_lenT, bc_list, bc_listT, bc_tuple, rep_bl, ix_lst, ix_tup, ix_frz, at_0, at_1, at_2, at_3, at_4, slc_lst, rev_lst, fldU, setFld, methOf, putF, isiU, isOne, tyName, thaw, isFr, Mi.tgsL, List.contains_cons, List.contains_nil, List.length_cons, List.length_nil, List.length_append, List.length_map, List.set_cons_zero, List.set_cons_succ, List.lookup_cons, List.lookup_nil, Option.map_some, Bool.not_true, Bool.not_false, Nat.reduceBEq, Nat.reduceEqDiff, Nat.reduceAdd, Nat.reduceLT, Int.reduceEq, Int.reduceNe, Int.reduceLT, Int.reduceLE, if_true, if_false, reduceIte, decide_true, decide_false, decide_eq_true_eq, Bool.false_eq_true, Bool.and_true, Bool.true_and, Bool.and_false, Bool.false_and, Bool.or_true, Bool.or_false, Bool.true_or, Bool.false_or, beq_self_eq_true, Nat.zero_add, List.nil_append, List.isEmpty_nil, List.isEmpty_cons, and_self, true_and, and_true, eq_self, bt_beq, reduceCtorEq, List.set_set, List.all_nil, List.all_cons, List.all_append, set_app, get_app_eq, cut_tl, List.length_set, len_ref_a, list_ref_a, seq_ref_a, lsf_ref_a, dic_ref_a, lst_ref_a, seq_lst, seq_tup, lsf_lst, ix_ref_a, slc_ref_a, rev_ref_a, app_ref_a, appX_l, setIx_ref_a, bin_addX, addU, lstU, List.getElem?_set_ne, List.getElem?_set_self, List.getElem?_append_left, get_app_len, set_app_len, cs0, mk0, S.lf], S.nd, S.ml, S.f0, S.fl, S.ll, S.sz, S.m0, as_set (fun c c5 co x e => by simp -dsimp (maxSteps := 1000000) (disch := first | assumption | omega | (simp only [List.length_cons, List.length_nil, List.length_append, List.length_map, List.length_take, List.length_drop, List.length_set, List.length_range, List.length_reverse] <;> omega) | rfl | decide) only [OkS_cons, OkS_nil, OkS_nx, OkS_rt, OkS_bk, OkS_ct, OkS_toS, OkS_if, Ok_bind, Ok_bindN, Ok_nx, Ok_ok, Ok_ofS, S_expr, S_asg, S_ret, S_retN, S_pass, S_brk, S_cont, S_for, S_par, par2, par3, cst_int, cst_non, cst_bl, cst_str, ofW, ofWs, E_cst, E_glo, E_var, E_mut, E_bin, E_neg, E_not, E_cmp, E_fld, E_ix, E_rev, E_slc, E_lst, E_tup, E_dic0, E_call, E_make, E_meth, E_callv, E_bc, E_bm, bmX_l, bmX_d, kindU_ref, E_isi, E_rngL, E_sset, E_comp, evEs, T_cst, T_glo, T_var, T_bin, T_neg, T_fld, T_ix, T_rev, T_slc, T_lst, T_tup, T_call, T_make, T_meth, T_callv, T_bc, T_bm, T_isi, T_comp, T_not, T_and, T_or, T_ife, T_cmp, T_cmp2, isB_bl, E_and, E_or, E_ife, E_cmp2, evO, evC, evI, evG, evGs, wipeS, permU, calN_call, calN_cs, getS_0, getS_s, newL_c, newT_c, tru_bl, tru_int, tru_non, tru_lst, tru_tup, bin_add, bin_sub, bin_mulc, bin_fdivc, bin_mod, bin_addL, cmp_lt, cmp_le, cmp_gt, cmp_ge, cmp_isN, cmp_isnN, isNon_non, isNon_int, isNon_tup, isNon_lst, isNon_ref, isNon_bl, cmp_eqI, cmp_neI, cmp_eq, cmp_ne, cmpEq_n, eqD_if, own_ref, der_ref, id_b, own_lst, own_tup, own_non, own_bl, own_int, own_str, der_lst, der_tup, der_non, der_int, der_bl, der_str, isD_int, isD_bl, isD_non, isD_bstr, isD_tup, isD_lst, eqv_int, eqv_bl, eqv_non, eqv_str, eqv_lst, eqv_tup, eqvs_nil, eqvs_nc, eqvs_cn, eqvs_cc, eqvs_n, eqv_ni, eqv_in, bc_int, bc_abs, bc_max, bc_min, bc_divmod, bc_len, bc_lenF, bc_lenT, bc_list, bc_listT, bc_tuple, rep_bl, ix_lst, ix_tup, ix_frz, at_0, at_1, at_2, at_3, at_4, slc_lst, rev_lst, fldU, setFld, methOf, putF, isiU, isOne, tyName, thaw, isFr, Mi.tgsL, List.contains_cons, List.contains_nil, List.length_cons, List.length_nil, List.length_append, List.length_map, List.set_cons_zero, List.set_cons_succ, List.lookup_cons, List.lookup_nil, Option.map_some, Bool.not_true, Bool.not_false, Nat.reduceBEq, Nat.reduceEqDiff, Nat.reduceAdd, Nat.reduceLT, Int.reduceEq, Int.reduceNe, Int.reduceLT, Int.reduceLE, if_true, if_false, reduceIte, decide_true, decide_false, decide_eq_true_eq, Bool.false_eq_true, Bool.and_true, Bool.true_and, Bool.and_false, Bool.false_and, Bool.or_true, Bool.or_false, Bool.true_or, Bool.false_or, beq_self_eq_true, Nat.zero_add, List.nil_append, List.isEmpty_nil, List.isEmpty_cons, and_self, true_and, and_true, eq_self, bt_beq, reduceCtorEq, List.set_set, List.all_nil, List.all_cons, List.all_append, set_app, get_app_eq, cut_tl, List.length_set, len_ref_a, list_ref_a, seq_ref_a, lsf_ref_a, dic_ref_a, lst_ref_a, seq_lst, seq_tup, lsf_lst, ix_ref_a, slc_ref_a, rev_ref_a, app_ref_a, appX_l, setIx_ref_a, bin_addX, addU, lstU, List.getElem?_set_ne, List.getElem?_set_self, List.getElem?_append_left, get_app_len, set_app_len, cs0, mk0, e]) S.asd⟩
  generalize h.set 0 (.lst [.int a', .int b']) = g at S'
  clear S hp hb hb' l5 lo
  rename St i many first made es lefts o as g => S
  obtain ⟨a, b, hp, hb⟩ := S.po
  have l5 := S.len.1
  have lo := S.len.2
  have hv : v = .int 0 ∨ v = .int 1 ∨ v = .int 2 ∨ v = .int 3 ∨ v = .int 4 := by
    simp only [List.mem_cons, List.not_mem_nil, or_false] at mv
    rcases mv with h | h | h | h | h | h | h | h | h <;> simp [h]
  have S0 : St (i + 1) many first made es lefts o as g := ⟨S.po, S.ob, S.ow, S.oo, S.en, S.lf, S.nd, S.ml, S.f0, by omega, by omega, S.sz, S.m0, S.asd⟩
  have stay : ∀ {t9 t10 t11 t12 t13 t14 t15 : Option U}, D.nx (sl many first made o as t9 t10 t11 t12 t13 t14 t15) g := fun {t9 t10 t11 t12 t13 t14 t15} => q _ _ _ _ _ _ _ _ S0 ⟨_, _, _, _, _, _, _, rfl⟩
  unfold sl at stay
  rcases hv with rfl | rfl | rfl | rfl | rfl
  · by_cases c : (es.length : Int) < many
    · have ne : ((thL es).length : Int) ≠ many := by simp; omega
      simp -dsimp (maxSteps := 1000000) (disch := first | assumption | omega | (simp only [List.length_cons, List.length_nil, List.length_append, List.length_map, List.length_take, List.length_drop, List.length_set, List.length_range, List.length_reverse] <;> omega) | rfl | decide) only [OkS_cons, OkS_nil, OkS_nx, OkS_rt, OkS_bk, OkS_ct, OkS_toS, OkS_if, Ok_bind, Ok_bindN, Ok_nx, Ok_ok, Ok_ofS, S_expr, S_asg, S_ret, S_retN, S_pass, S_brk, S_cont, S_for, S_par, par2, par3, cst_int, cst_non, cst_bl, cst_str, ofW, ofWs, E_cst, E_glo, E_var, E_mut, E_bin, E_neg, E_not, E_cmp, E_fld, E_ix, E_rev, E_slc, E_lst, E_tup, E_dic0, E_call, E_make, E_meth, E_callv, E_bc, E_bm, bmX_l, bmX_d, kindU_ref, E_isi, E_rngL, E_sset, E_comp, evEs, T_cst, T_glo, T_var, T_bin, T_neg, T_fld, T_ix, T_rev, T_slc, T_lst, T_tup, T_call, T_make, T_meth, T_callv, T_bc, T_bm, T_isi, T_comp, T_not, T_and, T_or, T_ife, T_cmp, T_cmp2, isB_bl, E_and, E_or, E_ife, E_cmp2, evO, evC, evI, evG, evGs, wipeS, permU, calN_call, calN_cs, getS_0, getS_s, newL_c, newT_c, tru_bl, tru_int, tru_non, tru_lst, tru_tup, bin_add, bin_sub, bin_mulc, bin_fdivc, bin_mod, bin_addL, cmp_lt, cmp_le, cmp_gt, cmp_ge, cmp_isN, cmp_isnN, isNon_non, isNon_int, isNon_tup, isNon_lst, isNon_ref, isNon_bl, cmp_eqI, cmp_neI, cmp_eq, cmp_ne, cmpEq_n, eqD_if, own_ref, der_ref, id_b, own_lst, own_tup, own_non, own_bl, own_int, own_str, der_lst, der_tup, der_non, der_int, der_bl, der_str, isD_int, isD_bl, isD_non, isD_bstr, isD_tup, isD_lst, eqv_int, eqv_bl, eqv_non, eqv_str, eqv_lst, eqv_tup, eqvs_nil, eqvs_nc, eqvs_cn, eqvs_cc, eqvs_n, eqv_ni, eqv_in, bc_int, bc_abs, bc_max, bc_min, bc_divmod, bc_len, bc_lenF, bc_lenT, bc_list, bc_listT, bc_tuple, rep_bl, ix_lst, ix_tup, ix_frz, at_0, at_1, at_2, at_3, at_4, slc_lst, rev_lst, fldU, setFld, methOf, putF, isiU, isOne, tyName, thaw, isFr, Mi.tgsL, List.contains_cons, List.contains_nil, List.length_cons, List.length_nil, List.length_append, List.length_map, List.set_cons_zero, List.set_cons_succ, List.lookup_cons, List.lookup_nil, Option.map_some, Bool.not_true, Bool.not_false, Nat.reduceBEq, Nat.reduceEqDiff, Nat.reduceAdd, Nat.reduceLT, Int.reduceEq, Int.reduceNe, Int.reduceLT, Int.reduceLE, if_true, if_false, reduceIte, decide_true, decide_false, decide_eq_true_eq, Bool.false_eq_true, Bool.and_true, Bool.true_and, Bool.and_false, Bool.false_and, Bool.or_true, Bool.or_false, Bool.true_or, Bool.false_or, beq_self_eq_true, Nat.zero_add, List.nil_append, List.isEmpty_nil, List.isEmpty_cons, and_self, true_and, and_true, eq_self, bt_beq, reduceCtorEq, List.set_set, List.all_nil, List.all_cons, List.all_append, set_app, get_app_eq, cut_tl, List.length_set, len_ref_a, list_ref_a, seq_ref_a, lsf_ref_a, dic_ref_a, lst_ref_a, seq_lst, seq_tup, lsf_lst, ix_ref_a, slc_ref_a, rev_ref_a, app_ref_a, appX_l, setIx_ref_a, bin_addX, addU, lstU, List.getElem?_set_ne, List.getElem?_set_self, List.getElem?_append_left, get_app_len, set_app_len, cs0, mk0, S.ow, c, S.ob, entered S.ob (x := .lst [.int made]) ne (by simp; omega) (by simp; omega), S.en, S.lf]
      refine St.go (i := i + 1) many first (made + 1) (es ++ [(made, false)]) lefts o as ⟨?_, ?_, ?_, oo, ?_, ?_, ?_, ?_, f0, by omega, by omega, ?_, m0, ?_⟩ (by omega) fun S' => ?_
      · exact ⟨a, b, by simp -dsimp (maxSteps := 1000000) (disch := first | assumption | omega | (simp only [List.length_cons, List.length_nil, List.length_append, List.length_map, List.length_take, List.length_drop, List.length_set, List.length_range, List.length_reverse] <;> omega) | rfl | decide) only [OkS_cons, OkS_nil, OkS_nx, OkS_rt, OkS_bk, OkS_ct, OkS_toS, OkS_if, Ok_bind, Ok_bindN, Ok_nx, Ok_ok, Ok_ofS, S_expr, S_asg, S_ret, S_retN, S_pass, S_brk, S_cont, S_for, S_par, par2, par3, cst_int, cst_non, cst_bl, cst_str, ofW, ofWs, E_cst, E_glo, E_var, E_mut, E_bin, E_neg, E_not, E_cmp, E_fld, E_ix, E_rev, E_slc, E_lst, E_tup, E_dic0, E_call, E_make, E_meth, E_callv, E_bc, E_bm, bmX_l, bmX_d, kindU_ref, E_isi, E_rngL, E_sset, E_comp, evEs, T_cst, T_glo, T_var, T_bin, T_neg, T_fld, T_ix, T_rev, T_slc, T_lst, T_tup, T_call, T_make, T_meth, T_callv, T_bc, T_bm, T_isi, T_comp, T_not, T_and, T_or, T_ife, T_cmp, T_cmp2, isB_bl, E_and, E_or, E_ife, E_cmp2, evO, evC, evI, evG, evGs, wipeS, permU, calN_call, calN_cs, getS_0, getS_s, newL_c, newT_c, tru_bl, tru_int, tru_non, tru_lst, tru_tup, bin_add, bin_sub, bin_mulc, bin_fdivc, bin_mod, bin_addL, cmp_lt, cmp_le, cmp_gt, cmp_ge, cmp_isN, cmp_isnN, isNon_non, isNon_int, isNon_tup, isNon_lst, isNon_ref, isNon_bl, cmp_eqI, cmp_neI, cmp_eq, cmp_ne, cmpEq_n, eqD_if, own_ref, der_ref, id_b, own_lst, own_tup, own_non, own_bl, own_int, own_str, der_lst, der_tup, der_non, der_int, der_bl, der_str, isD_int, isD_bl, isD_non, isD_bstr, isD_tup, isD_lst, eqv_int, eqv_bl, eqv_non, eqv_str, eqv_lst, eqv_tup, eqvs_nil, eqvs_nc, eqvs_cn, eqvs_cc, eqvs_n, eqv_ni, eqv_in, bc_int, bc_abs, bc_max, bc_min, bc_divmod, bc_len, bc_lenF, bc_lenT, bc_list, bc_listT, bc_tuple, rep_bl, ix_lst, ix_tup, ix_frz, at_0, at_1, at_2, at_3, at_4, slc_lst, rev_lst, fldU, setFld, methOf, putF, isiU, isOne, tyName, thaw, isFr, Mi.tgsL, List.contains_cons, List.contains_nil, List.length_cons, List.length_nil, List.length_append, List.length_map, List.set_cons_zero, List.set_cons_succ, List.lookup_cons, List.lookup_nil, Option.map_some, Bool.not_true, Bool.not_false, Nat.reduceBEq, Nat.reduceEqDiff, Nat.reduceAdd, Nat.reduceLT, Int.reduceEq, Int.reduceNe, Int.reduceLT, Int.reduceLE, if_true, if_false, reduceIte, decide_true, decide_false, decide_eq_true_eq, Bool.false_eq_true, Bool.and_true, Bool.true_and, Bool.and_false, Bool.false_and, Bool.or_true, Bool.or_false, Bool.true_or, Bool.false_or, beq_self_eq_true, Nat.zero_add, List.nil_append, List.isEmpty_nil, List.isEmpty_cons, and_self, true_and, and_true, eq_self, bt_beq, reduceCtorEq, List.set_set, List.all_nil, List.all_cons, List.all_append, set_app, get_app_eq, cut_tl, List.length_set, len_ref_a, list_ref_a, seq_ref_a, lsf_ref_a, dic_ref_a, lst_ref_a, seq_lst, seq_tup, lsf_lst, ix_ref_a, slc_ref_a, rev_ref_a, app_ref_a, appX_l, setIx_ref_a, bin_addX, addU, lstU, List.getElem?_set_ne, List.getElem?_set_self, List.getElem?_append_left, get_app_len, set_app_len, cs0, mk0, hp], hb⟩
      · simp -dsimp (maxSteps := 1000000) (disch := first | assumption | omega | (simp only [List.length_cons, List.length_nil, List.length_append, List.length_map, List.length_take, List.length_drop, List.length_set, List.length_range, List.length_reverse] <;> omega) | rfl | decide) only [OkS_cons, OkS_nil, OkS_nx, OkS_rt, OkS_bk, OkS_ct, OkS_toS, OkS_if, Ok_bind, Ok_bindN, Ok_nx, Ok_ok, Ok_ofS, S_expr, S_asg, S_ret, S_retN, S_pass, S_brk, S_cont, S_for, S_par, par2, par3, cst_int, cst_non, cst_bl, cst_str, ofW, ofWs, E_cst, E_glo, E_var, E_mut, E_bin, E_neg, E_not, E_cmp, E_fld, E_ix, E_rev, E_slc, E_lst, E_tup, E_dic0, E_call, E_make, E_meth, E_callv, E_bc, E_bm, bmX_l, bmX_d, kindU_ref, E_isi, E_rngL, E_sset, E_comp, evEs, T_cst, T_glo, T_var, T_bin, T_neg, T_fld, T_ix, T_rev, T_slc, T_lst, T_tup, T_call, T_make, T_meth, T_callv, T_bc, T_bm, T_isi, T_comp, T_not, T_and, T_or, T_ife, T_cmp, T_cmp2, isB_bl, E_and, E_or, E_ife, E_cmp2, evO, evC, evI, evG, evGs, wipeS, permU, calN_call, calN_cs, getS_0, getS_s, newL_c, newT_c, tru_bl, tru_int, tru_non, tru_lst, tru_tup, bin_add, bin_sub, bin_mulc, bin_fdivc, bin_mod, bin_addL, cmp_lt, cmp_le, cmp_gt, cmp_ge, cmp_isN, cmp_isnN, isNon_non, isNon_int, isNon_tup, isNon_lst, isNon_ref, isNon_bl, cmp_eqI, cmp_neI, cmp_eq, cmp_ne, cmpEq_n, eqD_if, own_ref, der_ref, id_b, own_lst, own_tup, own_non, own_bl, own_int, own_str, der_lst, der_tup, der_non, der_int, der_bl, der_str, isD_int, isD_bl, isD_non, isD_bstr, isD_tup, isD_lst, eqv_int, eqv_bl, eqv_non, eqv_str, eqv_lst, eqv_tup, eqvs_nil, eqvs_nc, eqvs_cn, eqvs_cc, eqvs_n, eqv_ni, eqv_in, bc_int, bc_abs, bc_max, bc_min, bc_divmod, bc_len, bc_lenF, bc_lenT, bc_list, bc_listT, bc_tuple, rep_bl, ix_lst, ix_tup, ix_frz, at_0, at_1, at_2, at_3, at_4, slc_lst, rev_lst, fldU, setFld, methOf, putF, isiU, isOne, tyName, thaw, isFr, Mi.tgsL, List.contains_cons, List.contains_nil, List.length_cons, List.length_nil, List.length_append, List.length_map, List.set_cons_zero, List.set_cons_succ, List.lookup_cons, List.lookup_nil, Option.map_some, Bool.not_true, Bool.not_false, Nat.reduceBEq, Nat.reduceEqDiff, Nat.reduceAdd, Nat.reduceLT, Int.reduceEq, Int.reduceNe, Int.reduceLT, Int.reduceLE, if_true, if_false, reduceIte, decide_true, decide_false, decide_eq_true_eq, Bool.false_eq_true, Bool.and_true, Bool.true_and, Bool.and_false, Bool.false_and, Bool.or_true, Bool.or_false, Bool.true_or, Bool.false_or, beq_self_eq_true, Nat.zero_add, List.nil_append, List.isEmpty_nil, List.isEmpty_cons, and_self, true_and, and_true, eq_self, bt_beq, reduceCtorEq, List.set_set, List.all_nil, List.all_cons, List.all_append, set_app, get_app_eq, cut_tl, List.length_set, len_ref_a, list_ref_a, seq_ref_a, lsf_ref_a, dic_ref_a, lst_ref_a, seq_lst, seq_tup, lsf_lst, ix_ref_a, slc_ref_a, rev_ref_a, app_ref_a, appX_l, setIx_ref_a, bin_addX, addU, lstU, List.getElem?_set_ne, List.getElem?_set_self, List.getElem?_append_left, get_app_len, set_app_len, cs0, mk0]
        simp
      · simp -dsimp (maxSteps := 1000000) (disch := first | assumption | omega | (simp only [List.length_cons, List.length_nil, List.length_append, List.length_map, List.length_take, List.length_drop, List.length_set, List.length_range, List.length_reverse] <;> omega) | rfl | decide) only [OkS_cons, OkS_nil, OkS_nx, OkS_rt, OkS_bk, OkS_ct, OkS_toS, OkS_if, Ok_bind, Ok_bindN, Ok_nx, Ok_ok, Ok_ofS, S_expr, S_asg, S_ret, S_retN, S_pass, S_brk, S_cont, S_for, S_par, par2, par3, cst_int, cst_non, cst_bl, cst_str, ofW, ofWs, E_cst, E_glo, E_var, E_mut, E_bin, E_neg, E_not, E_cmp, E_fld, E_ix, E_rev, E_slc, E_lst, E_tup, E_dic0, E_call, E_make, E_meth, E_callv, E_bc, E_bm, bmX_l, bmX_d, kindU_ref, E_isi, E_rngL, E_sset, E_comp, evEs, T_cst, T_glo, T_var, T_bin, T_neg, T_fld, T_ix, T_rev, T_slc, T_lst, T_tup, T_call, T_make, T_meth, T_callv, T_bc, T_bm, T_isi, T_comp, T_not, T_and, T_or, T_ife, T_cmp, T_cmp2, isB_bl, E_and, E_or, E_ife, E_cmp2, evO, evC, evI, evG, evGs, wipeS, permU, calN_call, calN_cs, getS_0, getS_s, newL_c, newT_c, tru_bl, tru_int, tru_non, tru_lst, tru_tup, bin_add, bin_sub, bin_mulc, bin_fdivc, bin_mod, bin_addL, cmp_lt, cmp_le, cmp_gt, cmp_ge, cmp_isN, cmp_isnN, isNon_non, isNon_int, isNon_tup, isNon_lst, isNon_ref, isNon_bl, cmp_eqI, cmp_neI, cmp_eq, cmp_ne, cmpEq_n, eqD_if, own_ref, der_ref, id_b, own_lst, own_tup, own_non, own_bl, own_int, own_str, der_lst, der_tup, der_non, der_int, der_bl, der_str, isD_int, isD_bl, isD_non, isD_bstr, isD_tup, isD_lst, eqv_int, eqv_bl, eqv_non, eqv_str, eqv_lst, eqv_tup, eqvs_nil, eqvs_nc, eqvs_cn, eqvs_cc, eqvs_n, eqv_ni, eqv_in, bc_int, bc_abs, bc_max, bc_min, bc_divmod, bc_len, bc_lenF, bc_lenT, bc_list, bc_listT, bc_tuple, rep_bl, ix_lst, ix_tup, ix_frz, at_0, at_1, at_2, at_3, at_4, slc_lst, rev_lst, fldU, setFld, methOf, putF, isiU, isOne, tyName, thaw, isFr, Mi.tgsL, List.contains_cons, List.contains_nil, List.length_cons, List.length_nil, List.length_append, List.length_map, List.set_cons_zero, List.set_cons_succ, List.lookup_cons, List.lookup_nil, Option.map_some, Bool.not_true, Bool.not_false, Nat.reduceBEq, Nat.reduceEqDiff, Nat.reduceAdd, Nat.reduceLT, Int.reduceEq, Int.reduceNe, Int.reduceLT, Int.reduceLE, if_true, if_false, reduceIte, decide_true, decide_false, decide_eq_true_eq, Bool.false_eq_true, Bool.and_true, Bool.true_and, Bool.and_false, Bool.false_and, Bool.or_true, Bool.or_false, Bool.true_or, Bool.false_or, beq_self_eq_true, Nat.zero_add, List.nil_append, List.isEmpty_nil, List.isEmpty_cons, and_self, true_and, and_true, eq_self, bt_beq, reduceCtorEq, List.set_set, List.all_nil, List.all_cons, List.all_append, set_app, get_app_eq, cut_tl, List.length_set, len_ref_a, list_ref_a, seq_ref_a, lsf_ref_a, dic_ref_a, lst_ref_a, seq_lst, seq_tup, lsf_lst, ix_ref_a, slc_ref_a, rev_ref_a, app_ref_a, appX_l, setIx_ref_a, bin_addX, addU, lstU, List.getElem?_set_ne, List.getElem?_set_self, List.getElem?_append_left, get_app_len, set_app_len, cs0, mk0]
        simp
      · simp -dsimp (maxSteps := 1000000) (disch := first | assumption | omega | (simp only [List.length_cons, List.length_nil, List.length_append, List.length_map, List.length_take, List.length_drop, List.length_set, List.length_range, List.length_reverse] <;> omega) | rfl | decide) only [OkS_cons, OkS_nil, OkS_nx, OkS_rt, OkS_bk, OkS_ct, OkS_toS, OkS_if, Ok_bind, Ok_bindN, Ok_nx, Ok_ok, Ok_ofS, S_expr, S_asg, S_ret, S_retN, S_pass, S_brk, S_cont, S_for, S_par, par2, par3, cst_int, cst_non, cst_bl, cst_str, ofW, ofWs, E_cst, E_glo, E_var, E_mut, E_bin, E_neg, E_not, E_cmp, E_fld, E_ix, E_rev, E_slc, E_lst, E_tup, E_dic0, E_call, E_make, E_meth, E_callv, E_bc, E_bm, bmX_l, bmX_d, kindU_ref, E_isi, E_rngL, E_sset, E_comp, evEs, T_cst, T_glo, T_var, T_bin, T_neg, T_fld, T_ix, T_rev, T_slc, T_lst, T_tup, T_call, T_make, T_meth, T_callv, T_bc, T_bm, T_isi, T_comp, T_not, T_and, T_or, T_ife, T_cmp, T_cmp2, isB_bl, E_and, E_or, E_ife, E_cmp2, evO, evC, evI, evG, evGs, wipeS, permU, calN_call, calN_cs, getS_0, getS_s, newL_c, newT_c, tru_bl, tru_int, tru_non, tru_lst, tru_tup, bin_add, bin_sub, bin_mulc, bin_fdivc, bin_mod, bin_addL, cmp_lt, cmp_le, cmp_gt, cmp_ge, cmp_isN, cmp_isnN, isNon_non, isNon_int, isNon_tup, isNon_lst, isNon_ref, isNon_bl, cmp_eqI, cmp_neI, cmp_eq, cmp_ne, cmpEq_n, eqD_if, own_ref, der_ref, id_b, own_lst, own_tup, own_non, own_bl, own_int, own_str, der_lst, der_tup, der_non, der_int, der_bl, der_str, isD_int, isD_bl, isD_non, isD_bstr, isD_tup, isD_lst, eqv_int, eqv_bl, eqv_non, eqv_str, eqv_lst, eqv_tup, eqvs_nil, eqvs_nc, eqvs_cn, eqvs_cc, eqvs_n, eqv_ni, eqv_in, bc_int, bc_abs, bc_max, bc_min, bc_divmod, bc_len, bc_lenF, bc_lenT, bc_list, bc_listT, bc_tuple, rep_bl, ix_lst, ix_tup, ix_frz, at_0, at_1, at_2, at_3, at_4, slc_lst, rev_lst, fldU, setFld, methOf, putF, isiU, isOne, tyName, thaw, isFr, Mi.tgsL, List.contains_cons, List.contains_nil, List.length_cons, List.length_nil, List.length_append, List.length_map, List.set_cons_zero, List.set_cons_succ, List.lookup_cons, List.lookup_nil, Option.map_some, Bool.not_true, Bool.not_false, Nat.reduceBEq, Nat.reduceEqDiff, Nat.reduceAdd, Nat.reduceLT, Int.reduceEq, Int.reduceNe, Int.reduceLT, Int.reduceLE, if_true, if_false, reduceIte, decide_true, decide_false, decide_eq_true_eq, Bool.false_eq_true, Bool.and_true, Bool.true_and, Bool.and_false, Bool.false_and, Bool.or_true, Bool.or_false, Bool.true_or, Bool.false_or, beq_self_eq_true, Nat.zero_add, List.nil_append, List.isEmpty_nil, List.isEmpty_cons, and_self, true_and, and_true, eq_self, bt_beq, reduceCtorEq, List.set_set, List.all_nil, List.all_cons, List.all_append, set_app, get_app_eq, cut_tl, List.length_set, len_ref_a, list_ref_a, seq_ref_a, lsf_ref_a, dic_ref_a, lst_ref_a, seq_lst, seq_tup, lsf_lst, ix_ref_a, slc_ref_a, rev_ref_a, app_ref_a, appX_l, setIx_ref_a, bin_addX, addU, lstU, List.getElem?_set_ne, List.getElem?_set_self, List.getElem?_append_left, get_app_len, set_app_len, cs0, mk0]
        simp
      · simp -dsimp (maxSteps := 1000000) (disch := first | assumption | omega | (simp only [List.length_cons, List.length_nil, List.length_append, List.length_map, List.length_take, List.length_drop, List.length_set, List.length_range, List.length_reverse] <;> omega) | rfl | decide) only [OkS_cons, OkS_nil, OkS_nx, OkS_rt, OkS_bk, OkS_ct, OkS_toS, OkS_if, Ok_bind, Ok_bindN, Ok_nx, Ok_ok, Ok_ofS, S_expr, S_asg, S_ret, S_retN, S_pass, S_brk, S_cont, S_for, S_par, par2, par3, cst_int, cst_non, cst_bl, cst_str, ofW, ofWs, E_cst, E_glo, E_var, E_mut, E_bin, E_neg, E_not, E_cmp, E_fld, E_ix, E_rev, E_slc, E_lst, E_tup, E_dic0, E_call, E_make, E_meth, E_callv, E_bc, E_bm, bmX_l, bmX_d, kindU_ref, E_isi, E_rngL, E_sset, E_comp, evEs, T_cst, T_glo, T_var, T_bin, T_neg, T_fld, T_ix, T_rev, T_slc, T_lst, T_tup, T_call, T_make, T_meth, T_callv, T_bc, T_bm, T_isi, T_comp, T_not, T_and, T_or, T_ife, T_cmp, T_cmp2, isB_bl, E_and, E_or, E_ife, E_cmp2, evO, evC, evI, evG, evGs, wipeS, permU, calN_call, calN_cs, getS_0, getS_s, newL_c, newT_c, tru_bl, tru_int, tru_non, tru_lst, tru_tup, bin_add, bin_sub, bin_mulc, bin_fdivc, bin_mod, bin_addL, cmp_lt, cmp_le, cmp_gt, cmp_ge, cmp_isN, cmp_isnN, isNon_non, isNon_int, isNon_tup, isNon_lst, isNon_ref, isNon_bl, cmp_eqI, cmp_neI, cmp_eq, cmp_ne, cmpEq_n, eqD_if, own_ref, der_ref, id_b, own_lst, own_tup, own_non, own_bl, own_int, own_str, der_lst, der_tup, der_non, der_int, der_bl, der_str, isD_int, isD_bl, isD_non, isD_bstr, isD_tup, isD_lst, eqv_int, eqv_bl, eqv_non, eqv_str, eqv_lst, eqv_tup, eqvs_nil, eqvs_nc, eqvs_cn, eqvs_cc, eqvs_n, eqv_ni, eqv_in, bc_int, bc_abs, bc_max, bc_min, bc_divmod, bc_len, bc_lenF, bc_lenT, bc_list, bc_listT, bc_tuple, rep_bl, ix_lst, ix_tup, ix_frz, at_0, at_1, at_2, at_3, at_4, slc_lst, rev_lst, fldU, setFld, methOf, putF, isiU, isOne, tyName, thaw, isFr, Mi.tgsL, List.contains_cons, List.contains_nil, List.length_cons, List.length_nil, List.length_append, List.length_map, List.set_cons_zero, List.set_cons_succ, List.lookup_cons, List.lookup_nil, Option.map_some, Bool.not_true, Bool.not_false, Nat.reduceBEq, Nat.reduceEqDiff, Nat.reduceAdd, Nat.reduceLT, Int.reduceEq, Int.reduceNe, Int.reduceLT, Int.reduceLE, if_true, if_false, reduceIte, decide_true, decide_false, decide_eq_true_eq, Bool.false_eq_true, Bool.and_true, Bool.true_and, Bool.and_false, Bool.false_and, Bool.or_true, Bool.or_false, Bool.true_or, Bool.false_or, beq_self_eq_true, Nat.zero_add, List.nil_append, List.isEmpty_nil, List.isEmpty_cons, and_self, true_and, and_true, eq_self, bt_beq, reduceCtorEq, List.set_set, List.all_nil, List.all_cons, List.all_append, set_app, get_app_eq, cut_tl, List.length_set, len_ref_a, list_ref_a, seq_ref_a, lsf_ref_a, dic_ref_a, lst_ref_a, seq_lst, seq_tup, lsf_lst, ix_ref_a, slc_ref_a, rev_ref_a, app_ref_a, appX_l, setIx_ref_a, bin_addX, addU, lstU, List.getElem?_set_ne, List.getElem?_set_self, List.getElem?_append_left, get_app_len, set_app_len, cs0, mk0, S.lf]
      · rw [List.map_append, ← List.append_assoc]
        refine List.nodup_append.mpr ⟨S.nd, by simp, fun x hx y hy => ?_⟩
        have := S.ml x hx
        simp at hy
        omega
      · intro k hk
        rw [List.map_append, ← List.append_assoc] at hk
        rcases List.mem_append.mp hk with hk | hk
        · have := S.ml k hk; omega
        · simp at hk; omega
      · simp; omega
      · exact as_set (fun c c5 co x e => by simp -dsimp (maxSteps := 1000000) (disch := first | assumption | omega | (simp only [List.length_cons, List.length_nil, List.length_append, List.length_map, List.length_take, List.length_drop, List.length_set, List.length_range, List.length_reverse] <;> omega) | rfl | decide) only [OkS_cons, OkS_nil, OkS_nx, OkS_rt, OkS_bk, OkS_ct, OkS_toS, OkS_if, Ok_bind, Ok_bindN, Ok_nx, Ok_ok, Ok_ofS, S_expr, S_asg, S_ret, S_retN, S_pass, S_brk, S_cont, S_for, S_par, par2, par3, cst_int, cst_non, cst_bl, cst_str, ofW, ofWs, E_cst, E_glo, E_var, E_mut, E_bin, E_neg, E_not, E_cmp, E_fld, E_ix, E_rev, E_slc, E_lst, E_tup, E_dic0, E_call, E_make, E_meth, E_callv, E_bc, E_bm, bmX_l, bmX_d, kindU_ref, E_isi, E_rngL, E_sset, E_comp, evEs, T_cst, T_glo, T_var, T_bin, T_neg, T_fld, T_ix, T_rev, T_slc, T_lst, T_tup, T_call, T_make, T_meth, T_callv, T_bc, T_bm, T_isi, T_comp, T_not, T_and, T_or, T_ife, T_cmp, T_cmp2, isB_bl, E_and, E_or, E_ife, E_cmp2, evO, evC, evI, evG, evGs, wipeS, permU, calN_call, calN_cs, getS_0, getS_s, newL_c, newT_c, tru_bl, tru_int, tru_non, tru_lst, tru_tup, bin_add, bin_sub, bin_mulc, bin_fdivc, bin_mod, bin_addL, cmp_lt, cmp_le, cmp_gt, cmp_ge, cmp_isN, cmp_isnN, isNon_non, isNon_int, isNon_tup, isNon_lst, isNon_ref, isNon_bl, cmp_eqI, cmp_neI, cmp_eq, cmp_ne, cmpEq_n, eqD_if, own_ref, der_ref, id_b, own_lst, own_tup, own_non, own_bl, own_int, own_str, der_lst, der_tup, der_non, der_int, der_bl, der_str, isD_int, isD_bl, isD_non, isD_bstr, isD_tup, isD_lst, eqv_int, eqv_bl, eqv_non, eqv_str, eqv_lst, eqv_tup, eqvs_nil, eqvs_nc, eqvs_cn, eqvs_cc, eqvs_n, eqv_ni, eqv_in, bc_int, bc_abs, bc_max, bc_min, bc_divmod, bc_len, bc_lenF, bc_lenT, bc_list, bc_listT, bc_tuple, rep_bl, ix_lst, ix_tup, ix_frz, at_0, at_1, at_2, at_3, at_4, slc_lst, rev_lst, fldU, setFld, methOf, putF, isiU, isOne, tyName, thaw, isFr, Mi.tgsL, List.contains_cons, List.contains_nil, List.length_cons, List.length_nil, List.length_append, List.length_map, List.set_cons_zero, List.set_cons_succ, List.lookup_cons, List.lookup_nil, Option.map_some, Bool.not_true, Bool.not_false, Nat.reduceBEq, Nat.reduceEqDiff, Nat.reduceAdd, Nat.reduceLT, Int.reduceEq, Int.reduceNe, Int.reduceLT, Int.reduceLE, if_true, if_false, reduceIte, decide_true, decide_false, decide_eq_true_eq, Bool.false_eq_true, Bool.and_true, Bool.true_and, Bool.and_false, Bool.false_and, Bool.or_true, Bool.or_false, Bool.true_or, Bool.false_or, beq_self_eq_true, Nat.zero_add, List.nil_append, List.isEmpty_nil, List.isEmpty_cons, and_self, true_and, and_true, eq_self, bt_beq, reduceCtorEq, List.set_set, List.all_nil, List.all_cons, List.all_append, set_app, get_app_eq, cut_tl, List.length_set, len_ref_a, list_ref_a, seq_ref_a, lsf_ref_a, dic_ref_a, lst_ref_a, seq_lst, seq_tup, lsf_lst, ix_ref_a, slc_ref_a, rev_ref_a, app_ref_a, appX_l, setIx_ref_a, bin_addX, addU, lstU, List.getElem?_set_ne, List.getElem?_set_self, List.getElem?_append_left, get_app_len, set_app_len, cs0, mk0, e]) S.asd
      · simp -dsimp (maxSteps := 1000000) (disch := first | assumption | omega | (simp only [List.length_cons, List.length_nil, List.length_append, List.length_map, List.length_take, List.length_drop, List.length_set, List.length_range, List.length_reverse] <;> omega) | rfl | decide) only [OkS_cons, OkS_nil, OkS_nx, OkS_rt, OkS_bk, OkS_ct, OkS_toS, OkS_if, Ok_bind, Ok_bindN, Ok_nx, Ok_ok, Ok_ofS, S_expr, S_asg, S_ret, S_retN, S_pass, S_brk, S_cont, S_for, S_par, par2, par3, cst_int, cst_non, cst_bl, cst_str, ofW, ofWs, E_cst, E_glo, E_var, E_mut, E_bin, E_neg, E_not, E_cmp, E_fld, E_ix, E_rev, E_slc, E_lst, E_tup, E_dic0, E_call, E_make, E_meth, E_callv, E_bc, E_bm, bmX_l, bmX_d, kindU_ref, E_isi, E_rngL, E_sset, E_comp, evEs, T_cst, T_glo, T_var, T_bin, T_neg, T_fld, T_ix, T_rev, T_slc, T_lst, T_tup, T_call, T_make, T_meth, T_callv, T_bc, T_bm, T_isi, T_comp, T_not, T_and, T_or, T_ife, T_cmp, T_cmp2, isB_bl, E_and, E_or, E_ife, E_cmp2, evO, evC, evI, evG, evGs, wipeS, permU, calN_call, calN_cs, getS_0, getS_s, newL_c, newT_c, tru_bl, tru_int, tru_non, tru_lst, tru_tup, bin_add, bin_sub, bin_mulc, bin_fdivc, bin_mod, bin_addL, cmp_lt, cmp_le, cmp_gt, cmp_ge, cmp_isN, cmp_isnN, isNon_non, isNon_int, isNon_tup, isNon_lst, isNon_ref, isNon_bl, cmp_eqI, cmp_neI, cmp_eq, cmp_ne, cmpEq_n, eqD_if, own_ref, der_ref, id_b, own_lst, own_tup, own_non, own_bl, own_int, own_str, der_lst, der_tup, der_non, der_int, der_bl, der_str, isD_int, isD_bl, isD_non, isD_bstr, isD_tup, isD_lst, eqv_int, eqv_bl, eqv_non, eqv_str, eqv_lst, eqv_tup, eqvs_nil, eqvs_nc, eqvs_cn, eqvs_cc, eqvs_n, eqv_ni, eqv_in, bc_int, bc_abs, bc_max, bc_min, bc_divmod, bc_len, bc_lenF, bc_lenT, bc_list, bc_listT, bc_tuple, rep_bl, ix_lst, ix_tup, ix_frz, at_0, at_1, at_2, at_3, at_4, slc_lst, rev_lst, fldU, setFld, methOf, putF, isiU, isOne, tyName, thaw, isFr, Mi.tgsL, List.contains_cons, List.contains_nil, List.length_cons, List.length_nil, List.length_append, List.length_map, List.set_cons_zero, List.set_cons_succ, List.lookup_cons, List.lookup_nil, Option.map_some, Bool.not_true, Bool.not_false, Nat.reduceBEq, Nat.reduceEqDiff, Nat.reduceAdd, Nat.reduceLT, Int.reduceEq, Int.reduceNe, Int.reduceLT, Int.reduceLE, if_true, if_false, reduceIte, decide_true, decide_false, decide_eq_true_eq, Bool.false_eq_true, Bool.and_true, Bool.true_and, Bool.and_false, Bool.false_and, Bool.or_true, Bool.or_false, Bool.true_or, Bool.false_or, beq_self_eq_true, Nat.zero_add, List.nil_append, List.isEmpty_nil, List.isEmpty_cons, and_self, true_and, and_true, eq_self, bt_beq, reduceCtorEq, List.set_set, List.all_nil, List.all_cons, List.all_append, set_app, get_app_eq, cut_tl, List.length_set, len_ref_a, list_ref_a, seq_ref_a, lsf_ref_a, dic_ref_a, lst_ref_a, seq_lst, seq_tup, lsf_lst, ix_ref_a, slc_ref_a, rev_ref_a, app_ref_a, appX_l, setIx_ref_a, bin_addX, addU, lstU, List.getElem?_set_ne, List.getElem?_set_self, List.getElem?_append_left, get_app_len, set_app_len, cs0, mk0]
        exact q _ _ _ _ _ _ _ _ S' ⟨_, _, _, _, _, _, _, rfl⟩
    · simp -dsimp (maxSteps := 1000000) (disch := first | assumption | omega | (simp only [List.length_cons, List.length_nil, List.length_append, List.length_map, List.length_take, List.length_drop, List.length_set, List.length_range, List.length_reverse] <;> omega) | rfl | decide) only [OkS_cons, OkS_nil, OkS_nx, OkS_rt, OkS_bk, OkS_ct, OkS_toS, OkS_if, Ok_bind, Ok_bindN, Ok_nx, Ok_ok, Ok_ofS, S_expr, S_asg, S_ret, S_retN, S_pass, S_brk, S_cont, S_for, S_par, par2, par3, cst_int, cst_non, cst_bl, cst_str, ofW, ofWs, E_cst, E_glo, E_var, E_mut, E_bin, E_neg, E_not, E_cmp, E_fld, E_ix, E_rev, E_slc, E_lst, E_tup, E_dic0, E_call, E_make, E_meth, E_callv, E_bc, E_bm, bmX_l, bmX_d, kindU_ref, E_isi, E_rngL, E_sset, E_comp, evEs, T_cst, T_glo, T_var, T_bin, T_neg, T_fld, T_ix, T_rev, T_slc, T_lst, T_tup, T_call, T_make, T_meth, T_callv, T_bc, T_bm, T_isi, T_comp, T_not, T_and, T_or, T_ife, T_cmp, T_cmp2, isB_bl, E_and, E_or, E_ife, E_cmp2, evO, evC, evI, evG, evGs, wipeS, permU, calN_call, calN_cs, getS_0, getS_s, newL_c, newT_c, tru_bl, tru_int, tru_non, tru_lst, tru_tup, bin_add, bin_sub, bin_mulc, bin_fdivc, bin_mod, bin_addL, cmp_lt, cmp_le, cmp_gt, cmp_ge, cmp_isN, cmp_isnN, isNon_non, isNon_int, isNon_tup, isNon_lst, isNon_ref, isNon_bl, cmp_eqI, cmp_neI, cmp_eq, cmp_ne, cmpEq_n, eqD_if, own_ref, der_ref, id_b, own_lst, own_tup, own_non, own_bl, own_int, own_str, der_lst, der_tup, der_non, der_int, der_bl, der_str, isD_int, isD_bl, isD_non, isD_bstr, isD_tup, isD_lst, eqv_int, eqv_bl, eqv_non, eqv_str, eqv_lst, eqv_tup, eqvs_nil, eqvs_nc, eqvs_cn, eqvs_cc, eqvs_n, eqv_ni, eqv_in, bc_int, bc_abs, bc_max, bc_min, bc_divmod, bc_len, bc_lenF, bc_lenT, bc_list, bc_listT, bc_tuple, rep_bl, ix_lst, ix_tup, ix_frz, at_0, at_1, at_2, at_3, at_4, slc_lst, rev_lst, fldU, setFld, methOf, putF, isiU, isOne, tyName, thaw, isFr, Mi.tgsL, List.contains_cons, List.contains_nil, List.length_cons, List.length_nil, List.length_append, List.length_map, List.set_cons_zero, List.set_cons_succ, List.lookup_cons, List.lookup_nil, Option.map_some, Bool.not_true, Bool.not_false, Nat.reduceBEq, Nat.reduceEqDiff, Nat.reduceAdd, Nat.reduceLT, Int.reduceEq, Int.reduceNe, Int.reduceLT, Int.reduceLE, if_true, if_false, reduceIte, decide_true, decide_false, decide_eq_true_eq, Bool.false_eq_true, Bool.and_true, Bool.true_and, Bool.and_false, Bool.false_and, Bool.or_true, Bool.or_false, Bool.true_or, Bool.false_or, beq_self_eq_true, Nat.zero_add, List.nil_append, List.isEmpty_nil, List.isEmpty_cons, and_self, true_and, and_true, eq_self, bt_beq, reduceCtorEq, List.set_set, List.all_nil, List.all_cons, List.all_append, set_app, get_app_eq, cut_tl, List.length_set, len_ref_a, list_ref_a, seq_ref_a, lsf_ref_a, dic_ref_a, lst_ref_a, seq_lst, seq_tup, lsf_lst, ix_ref_a, slc_ref_a, rev_ref_a, app_ref_a, appX_l, setIx_ref_a, bin_addX, addU, lstU, List.getElem?_set_ne, List.getElem?_set_self, List.getElem?_append_left, get_app_len, set_app_len, cs0, mk0, S.ow, c]
      refine St.go (i := i + 1) many first made es lefts o as S0 (by omega) fun _ => ?_
      simp -dsimp (maxSteps := 1000000) (disch := first | assumption | omega | (simp only [List.length_cons, List.length_nil, List.length_append, List.length_map, List.length_take, List.length_drop, List.length_set, List.length_range, List.length_reverse] <;> omega) | rfl | decide) only [OkS_cons, OkS_nil, OkS_nx, OkS_rt, OkS_bk, OkS_ct, OkS_toS, OkS_if, Ok_bind, Ok_bindN, Ok_nx, Ok_ok, Ok_ofS, S_expr, S_asg, S_ret, S_retN, S_pass, S_brk, S_cont, S_for, S_par, par2, par3, cst_int, cst_non, cst_bl, cst_str, ofW, ofWs, E_cst, E_glo, E_var, E_mut, E_bin, E_neg, E_not, E_cmp, E_fld, E_ix, E_rev, E_slc, E_lst, E_tup, E_dic0, E_call, E_make, E_meth, E_callv, E_bc, E_bm, bmX_l, bmX_d, kindU_ref, E_isi, E_rngL, E_sset, E_comp, evEs, T_cst, T_glo, T_var, T_bin, T_neg, T_fld, T_ix, T_rev, T_slc, T_lst, T_tup, T_call, T_make, T_meth, T_callv, T_bc, T_bm, T_isi, T_comp, T_not, T_and, T_or, T_ife, T_cmp, T_cmp2, isB_bl, E_and, E_or, E_ife, E_cmp2, evO, evC, evI, evG, evGs, wipeS, permU, calN_call, calN_cs, getS_0, getS_s, newL_c, newT_c, tru_bl, tru_int, tru_non, tru_lst, tru_tup, bin_add, bin_sub, bin_mulc, bin_fdivc, bin_mod, bin_addL, cmp_lt, cmp_le, cmp_gt, cmp_ge, cmp_isN, cmp_isnN, isNon_non, isNon_int, isNon_tup, isNon_lst, isNon_ref, isNon_bl, cmp_eqI, cmp_neI, cmp_eq, cmp_ne, cmpEq_n, eqD_if, own_ref, der_ref, id_b, own_lst, own_tup, own_non, own_bl, own_int, own_str, der_lst, der_tup, der_non, der_int, der_bl, der_str, isD_int, isD_bl, isD_non, isD_bstr, isD_tup, isD_lst, eqv_int, eqv_bl, eqv_non, eqv_str, eqv_lst, eqv_tup, eqvs_nil, eqvs_nc, eqvs_cn, eqvs_cc, eqvs_n, eqv_ni, eqv_in, bc_int, bc_abs, bc_max, bc_min, bc_divmod, bc_len, bc_lenF, bc_lenT, bc_list, bc_listT, bc_tuple, rep_bl, ix_lst, ix_tup, ix_frz, at_0, at_1, at_2, at_3, at_4, slc_lst, rev_lst, fldU, setFld, methOf, putF, isiU, isOne, tyName, thaw, isFr, Mi.tgsL, List.contains_cons, List.contains_nil, List.length_cons, List.length_nil, List.length_append, List.length_map, List.set_cons_zero, List.set_cons_succ, List.lookup_cons, List.lookup_nil, Option.map_some, Bool.not_true, Bool.not_false, Nat.reduceBEq, Nat.reduceEqDiff, Nat.reduceAdd, Nat.reduceLT, Int.reduceEq, Int.reduceNe, Int.reduceLT, Int.reduceLE, if_true, if_false, reduceIte, decide_true, decide_false, decide_eq_true_eq, Bool.false_eq_true, Bool.and_true, Bool.true_and, Bool.and_false, Bool.false_and, Bool.or_true, Bool.or_false, Bool.true_or, Bool.false_or, beq_self_eq_true, Nat.zero_add, List.nil_append, List.isEmpty_nil, List.isEmpty_cons, and_self, true_and, and_true, eq_self, bt_beq, reduceCtorEq, List.set_set, List.all_nil, List.all_cons, List.all_append, set_app, get_app_eq, cut_tl, List.length_set, len_ref_a, list_ref_a, seq_ref_a, lsf_ref_a, dic_ref_a, lst_ref_a, seq_lst, seq_tup, lsf_lst, ix_ref_a, slc_ref_a, rev_ref_a, app_ref_a, appX_l, setIx_ref_a, bin_addX, addU, lstU, List.getElem?_set_ne, List.getElem?_set_self, List.getElem?_append_left, get_app_len, set_app_len, cs0, mk0]
      exact stay
  · cases z : es.isEmpty with
    | true =>
      have z1 : (owL es).isEmpty = true := by rw [← z]; cases es <;> rfl
      simp -dsimp (maxSteps := 1000000) (disch := first | assumption | omega | (simp only [List.length_cons, List.length_nil, List.length_append, List.length_map, List.length_take, List.length_drop, List.length_set, List.length_range, List.length_reverse] <;> omega) | rfl | decide) only [OkS_cons, OkS_nil, OkS_nx, OkS_rt, OkS_bk, OkS_ct, OkS_toS, OkS_if, Ok_bind, Ok_bindN, Ok_nx, Ok_ok, Ok_ofS, S_expr, S_asg, S_ret, S_retN, S_pass, S_brk, S_cont, S_for, S_par, par2, par3, cst_int, cst_non, cst_bl, cst_str, ofW, ofWs, E_cst, E_glo, E_var, E_mut, E_bin, E_neg, E_not, E_cmp, E_fld, E_ix, E_rev, E_slc, E_lst, E_tup, E_dic0, E_call, E_make, E_meth, E_callv, E_bc, E_bm, bmX_l, bmX_d, kindU_ref, E_isi, E_rngL, E_sset, E_comp, evEs, T_cst, T_glo, T_var, T_bin, T_neg, T_fld, T_ix, T_rev, T_slc, T_lst, T_tup, T_call, T_make, T_meth, T_callv, T_bc, T_bm, T_isi, T_comp, T_not, T_and, T_or, T_ife, T_cmp, T_cmp2, isB_bl, E_and, E_or, E_ife, E_cmp2, evO, evC, evI, evG, evGs, wipeS, permU, calN_call, calN_cs, getS_0, getS_s, newL_c, newT_c, tru_bl, tru_int, tru_non, tru_lst, tru_tup, bin_add, bin_sub, bin_mulc, bin_fdivc, bin_mod, bin_addL, cmp_lt, cmp_le, cmp_gt, cmp_ge, cmp_isN, cmp_isnN, isNon_non, isNon_int, isNon_tup, isNon_lst, isNon_ref, isNon_bl, cmp_eqI, cmp_neI, cmp_eq, cmp_ne, cmpEq_n, eqD_if, own_ref, der_ref, id_b, own_lst, own_tup, own_non, own_bl, own_int, own_str, der_lst, der_tup, der_non, der_int, der_bl, der_str, isD_int, isD_bl, isD_non, isD_bstr, isD_tup, isD_lst, eqv_int, eqv_bl, eqv_non, eqv_str, eqv_lst, eqv_tup, eqvs_nil, eqvs_nc, eqvs_cn, eqvs_cc, eqvs_n, eqv_ni, eqv_in, bc_int, bc_abs, bc_max, bc_min, bc_divmod, bc_len, bc_lenF, bc_lenT, bc_list, bc_listT, bc_tuple, rep_bl, ix_lst, ix_tup, ix_frz, at_0, at_1, at_2, at_3, at_4, slc_lst, rev_lst, fldU, setFld, methOf, putF, isiU, isOne, tyName, thaw, isFr, Mi.tgsL, List.contains_cons, List.contains_nil, List.length_cons, List.length_nil, List.length_append, List.length_map, List.set_cons_zero, List.set_cons_succ, List.lookup_cons, List.lookup_nil, Option.map_some, Bool.not_true, Bool.not_false, Nat.reduceBEq, Nat.reduceEqDiff, Nat.reduceAdd, Nat.reduceLT, Int.reduceEq, Int.reduceNe, Int.reduceLT, Int.reduceLE, if_true, if_false, reduceIte, decide_true, decide_false, decide_eq_true_eq, Bool.false_eq_true, Bool.and_true, Bool.true_and, Bool.and_false, Bool.false_and, Bool.or_true, Bool.or_false, Bool.true_or, Bool.false_or, beq_self_eq_true, Nat.zero_add, List.nil_append, List.isEmpty_nil, List.isEmpty_cons, and_self, true_and, and_true, eq_self, bt_beq, reduceCtorEq, List.set_set, List.all_nil, List.all_cons, List.all_append, set_app, get_app_eq, cut_tl, List.length_set, len_ref_a, list_ref_a, seq_ref_a, lsf_ref_a, dic_ref_a, lst_ref_a, seq_lst, seq_tup, lsf_lst, ix_ref_a, slc_ref_a, rev_ref_a, app_ref_a, appX_l, setIx_ref_a, bin_addX, addU, lstU, List.getElem?_set_ne, List.getElem?_set_self, List.getElem?_append_left, get_app_len, set_app_len, cs0, mk0, S.ow, owD, z1]
      refine St.go (i := i + 1) many first made es lefts o as S0 (by omega) fun _ => ?_
      simp -dsimp (maxSteps := 1000000) (disch := first | assumption | omega | (simp only [List.length_cons, List.length_nil, List.length_append, List.length_map, List.length_take, List.length_drop, List.length_set, List.length_range, List.length_reverse] <;> omega) | rfl | decide) only [OkS_cons, OkS_nil, OkS_nx, OkS_rt, OkS_bk, OkS_ct, OkS_toS, OkS_if, Ok_bind, Ok_bindN, Ok_nx, Ok_ok, Ok_ofS, S_expr, S_asg, S_ret, S_retN, S_pass, S_brk, S_cont, S_for, S_par, par2, par3, cst_int, cst_non, cst_bl, cst_str, ofW, ofWs, E_cst, E_glo, E_var, E_mut, E_bin, E_neg, E_not, E_cmp, E_fld, E_ix, E_rev, E_slc, E_lst, E_tup, E_dic0, E_call, E_make, E_meth, E_callv, E_bc, E_bm, bmX_l, bmX_d, kindU_ref, E_isi, E_rngL, E_sset, E_comp, evEs, T_cst, T_glo, T_var, T_bin, T_neg, T_fld, T_ix, T_rev, T_slc, T_lst, T_tup, T_call, T_make, T_meth, T_callv, T_bc, T_bm, T_isi, T_comp, T_not, T_and, T_or, T_ife, T_cmp, T_cmp2, isB_bl, E_and, E_or, E_ife, E_cmp2, evO, evC, evI, evG, evGs, wipeS, permU, calN_call, calN_cs, getS_0, getS_s, newL_c, newT_c, tru_bl, tru_int, tru_non, tru_lst, tru_tup, bin_add, bin_sub, bin_mulc, bin_fdivc, bin_mod, bin_addL, cmp_lt, cmp_le, cmp_gt, cmp_ge, cmp_isN, cmp_isnN, isNon_non, isNon_int, isNon_tup, isNon_lst, isNon_ref, isNon_bl, cmp_eqI, cmp_neI, cmp_eq, cmp_ne, cmpEq_n, eqD_if, own_ref, der_ref, id_b, own_lst, own_tup, own_non, own_bl, own_int, own_str, der_lst, der_tup, der_non, der_int, der_bl, der_str, isD_int, isD_bl, isD_non, isD_bstr, isD_tup, isD_lst, eqv_int, eqv_bl, eqv_non, eqv_str, eqv_lst, eqv_tup, eqvs_nil, eqvs_nc, eqvs_cn, eqvs_cc, eqvs_n, eqv_ni, eqv_in, bc_int, bc_abs, bc_max, bc_min, bc_divmod, bc_len, bc_lenF, bc_lenT, bc_list, bc_listT, bc_tuple, rep_bl, ix_lst, ix_tup, ix_frz, at_0, at_1, at_2, at_3, at_4, slc_lst, rev_lst, fldU, setFld, methOf, putF, isiU, isOne, tyName, thaw, isFr, Mi.tgsL, List.contains_cons, List.contains_nil, List.length_cons, List.length_nil, List.length_append, List.length_map, List.set_cons_zero, List.set_cons_succ, List.lookup_cons, List.lookup_nil, Option.map_some, Bool.not_true, Bool.not_false, Nat.reduceBEq, Nat.reduceEqDiff, Nat.reduceAdd, Nat.reduceLT, Int.reduceEq, Int.reduceNe, Int.reduceLT, Int.reduceLE, if_true, if_false, reduceIte, decide_true, decide_false, decide_eq_true_eq, Bool.false_eq_true, Bool.and_true, Bool.true_and, Bool.and_false, Bool.false_and, Bool.or_true, Bool.or_false, Bool.true_or, Bool.false_or, beq_self_eq_true, Nat.zero_add, List.nil_append, List.isEmpty_nil, List.isEmpty_cons, and_self, true_and, and_true, eq_self, bt_beq, reduceCtorEq, List.set_set, List.all_nil, List.all_cons, List.all_append, set_app, get_app_eq, cut_tl, List.length_set, len_ref_a, list_ref_a, seq_ref_a, lsf_ref_a, dic_ref_a, lst_ref_a, seq_lst, seq_tup, lsf_lst, ix_ref_a, slc_ref_a, rev_ref_a, app_ref_a, appX_l, setIx_ref_a, bin_addX, addU, lstU, List.getElem?_set_ne, List.getElem?_set_self, List.getElem?_append_left, get_app_len, set_app_len, cs0, mk0]
      exact stay
    | false =>
      have z1 : (owL es).isEmpty = false := by rw [← z]; cases es <;> rfl
      have lz : 0 < es.length := by cases es; cases z; simp
      simp -dsimp (maxSteps := 1000000) (disch := first | assumption | omega | (simp only [List.length_cons, List.length_nil, List.length_append, List.length_map, List.length_take, List.length_drop, List.length_set, List.length_range, List.length_reverse] <;> omega) | rfl | decide) only [OkS_cons, OkS_nil, OkS_nx, OkS_rt, OkS_bk, OkS_ct, OkS_toS, OkS_if, Ok_bind, Ok_bindN, Ok_nx, Ok_ok, Ok_ofS, S_expr, S_asg, S_ret, S_retN, S_pass, S_brk, S_cont, S_for, S_par, par2, par3, cst_int, cst_non, cst_bl, cst_str, ofW, ofWs, E_cst, E_glo, E_var, E_mut, E_bin, E_neg, E_not, E_cmp, E_fld, E_ix, E_rev, E_slc, E_lst, E_tup, E_dic0, E_call, E_make, E_meth, E_callv, E_bc, E_bm, bmX_l, bmX_d, kindU_ref, E_isi, E_rngL, E_sset, E_comp, evEs, T_cst, T_glo, T_var, T_bin, T_neg, T_fld, T_ix, T_rev, T_slc, T_lst, T_tup, T_call, T_make, T_meth, T_callv, T_bc, T_bm, T_isi, T_comp, T_not, T_and, T_or, T_ife, T_cmp, T_cmp2, isB_bl, E_and, E_or, E_ife, E_cmp2, evO, evC, evI, evG, evGs, wipeS, permU, calN_call, calN_cs, getS_0, getS_s, newL_c, newT_c, tru_bl, tru_int, tru_non, tru_lst, tru_tup, bin_add, bin_sub, bin_mulc, bin_fdivc, bin_mod, bin_addL, cmp_lt, cmp_le, cmp_gt, cmp_ge, cmp_isN, cmp_isnN, isNon_non, isNon_int, isNon_tup, isNon_lst, isNon_ref, isNon_bl, cmp_eqI, cmp_neI, cmp_eq, cmp_ne, cmpEq_n, eqD_if, own_ref, der_ref, id_b, own_lst, own_tup, own_non, own_bl, own_int, own_str, der_lst, der_tup, der_non, der_int, der_bl, der_str, isD_int, isD_bl, isD_non, isD_bstr, isD_tup, isD_lst, eqv_int, eqv_bl, eqv_non, eqv_str, eqv_lst, eqv_tup, eqvs_nil, eqvs_nc, eqvs_cn, eqvs_cc, eqvs_n, eqv_ni, eqv_in, bc_int, bc_abs, bc_max, bc_min, bc_divmod, bc_len, bc_lenF, bc_lenT, bc_list, bc_listT, bc_tuple, rep_bl, ix_lst, ix_tup, ix_frz, at_0, at_1, at_2, at_3, at_4, slc_lst, rev_lst, fldU, setFld, methOf, putF, isiU, isOne, tyName, thaw, isFr, Mi.tgsL, List.contains_cons, List.contains_nil, List.length_cons, List.length_nil, List.length_append, List.length_map, List.set_cons_zero, List.set_cons_succ, List.lookup_cons, List.lookup_nil, Option.map_some, Bool.not_true, Bool.not_false, Nat.reduceBEq, Nat.reduceEqDiff, Nat.reduceAdd, Nat.reduceLT, Int.reduceEq, Int.reduceNe, Int.reduceLT, Int.reduceLE, if_true, if_false, reduceIte, decide_true, decide_false, decide_eq_true_eq, Bool.false_eq_true, Bool.and_true, Bool.true_and, Bool.and_false, Bool.false_and, Bool.or_true, Bool.or_false, Bool.true_or, Bool.false_or, beq_self_eq_true, Nat.zero_add, List.nil_append, List.isEmpty_nil, List.isEmpty_cons, and_self, true_and, and_true, eq_self, bt_beq, reduceCtorEq, List.set_set, List.all_nil, List.all_cons, List.all_append, set_app, get_app_eq, cut_tl, List.length_set, len_ref_a, list_ref_a, seq_ref_a, lsf_ref_a, dic_ref_a, lst_ref_a, seq_lst, seq_tup, lsf_lst, ix_ref_a, slc_ref_a, rev_ref_a, app_ref_a, appX_l, setIx_ref_a, bin_addX, addU, lstU, List.getElem?_set_ne, List.getElem?_set_self, List.getElem?_append_left, get_app_len, set_app_len, cs0, mk0, S.ow, owD, z1]
      refine draw hp hb (by omega) (by omega) fun r a' b' r0 r1 hb' => ?_
      have S1 : St (i + 1) many first made es lefts o as (g.set 0 (.lst [.int a', .int b'])) := by
        refine ⟨⟨a', b', by simp -dsimp (maxSteps := 1000000) (disch := first | assumption | omega | (simp only [List.length_cons, List.length_nil, List.length_append, List.length_map, List.length_take, List.length_drop, List.length_set, List.length_range, List.length_reverse] <;> omega) | rfl | decide) only [OkS_cons, OkS_nil, OkS_nx, OkS_rt, OkS_bk, OkS_ct, OkS_toS, OkS_if, Ok_bind, Ok_bindN, Ok_nx, Ok_ok, Ok_ofS, S_expr, S_asg, S_ret, S_retN, S_pass, S_brk, S_cont, S_for, S_par, par2, par3, cst_int, cst_non, cst_bl, cst_str, ofW, ofWs, E_cst, E_glo, E_var, E_mut, E_bin, E_neg, E_not, E_cmp, E_fld, E_ix, E_rev, E_slc, E_lst, E_tup, E_dic0, E_call, E_make, E_meth, E_callv, E_bc, E_bm, bmX_l, bmX_d, kindU_ref, E_isi, E_rngL, E_sset, E_comp, evEs, T_cst, T_glo, T_var, T_bin, T_neg, T_fld, T_ix, T_rev, T_slc, T_lst, T_tup, T_call, T_make, T_meth, T_callv, T_bc, T_bm, T_isi, T_comp, T_not, T_and, T_or, T_ife, T_cmp, T_cmp2, isB_bl, E_and, E_or, E_ife, E_cmp2, evO, evC, evI, evG, evGs, wipeS, permU, calN_call, calN_cs, getS_0, getS_s, newL_c, newT_c, tru_bl, tru_int, tru_non, tru_lst, tru_tup, bin_add, bin_sub, bin_mulc, bin_fdivc, bin_mod, bin_addL, cmp_lt, cmp_le, cmp_gt, cmp_ge, cmp_isN, cmp_isnN, isNon_non, isNon_int, isNon_tup, isNon_lst, isNon_ref, isNon_bl, cmp_eqI, cmp_neI, cmp_eq, cmp_ne, cmpEq_n, eqD_if, own_ref, der_ref, id_b, own_lst, own_tup, own_non, own_bl, own_int, own_str, der_lst, der_tup, der_non, der_int, der_bl, der_str, isD_int, isD_bl, isD_non, isD_bstr, isD_tup, isD_lst, eqv_int, eqv_bl, eqv_non, eqv_str, eqv_lst, eqv_tup, eqvs_nil, eqvs_nc, eqvs_cn, eqvs_cc, eqvs_n, eqv_ni, eqv_in, bc_int, bc_abs, bc_max, bc_min, bc_divmod, bc_len, bc_lenF, bc_lenT, bc_list, bc_listT, bc_tuple, rep_bl, ix_lst, ix_tup, ix_frz, at_0, at_1, at_2, at_3, at_4, slc_lst, rev_lst, fldU, setFld, methOf, putF, isiU, isOne, tyName, thaw, isFr, Mi.tgsL, List.contains_cons, List.contains_nil, List.length_cons, List.length_nil, List.length_append, List.length_map, List.set_cons_zero, List.set_cons_succ, List.lookup_cons, List.lookup_nil, Option.map_some, Bool.not_true, Bool.not_false, Nat.reduceBEq, Nat.reduceEqDiff, Nat.reduceAdd, Nat.reduceLT, Int.reduceEq, Int.reduceNe, Int.reduceLT, Int.reduceLE, if_true, if_false, reduceIte, decide_true, decide_false, decide_eq_true_eq, Bool.false_eq_true, Bool.and_true, Bool.true_and, Bool.and_false, Bool.false_and, Bool.or_true, Bool.or_false, Bool.true_or, Bool.false_or, beq_self_eq_true, Nat.zero_add, List.nil_append, List.isEmpty_nil, List.isEmpty_cons, and_self, true_and, and_true, eq_self, bt_beq, reduceCtorEq, List.set_set, List.all_nil, List.all_cons, List.all_append, set_app, get_app_eq, cut_tl, List.length_set, len_ref_a, list_ref_a, seq_ref_a, lsf_ref_a, dic_ref_a, lst_ref_a, seq_lst, seq_tup, lsf_lst, ix_ref_a, slc_ref_a, rev_ref_a, app_ref_a, appX_l, setIx_ref_a, bin_addX, addU, lstU, List.getElem?_set_ne, List.getElem?_set_self, List.getElem?_append_left, get_app_len, set_app_len, cs0, mk0], hb'⟩, by simp -dsimp (maxSteps := 1000000) (disch := first | assumption | omega | (simp only [List.length_cons, List.length_nil, List.length_append, List.length_map, List.length_take, List.length_drop, List.length_set, List.length_range, List.length_reverse] <;> omega) | rfl | decide) only [OkS_cons, OkS_nil, OkS_nx, OkS_rt, OkS_bk, OkS_ct, OkS_toS, OkS_if, Ok_bind, Ok_bindN, Ok_nx, Ok_ok, Ok_ofS, S_expr, S_asg, S_ret, S_retN, S_pass, S_brk, S_cont, S_for, S_par, par2, par3, cst_int, cst_non, cst_bl, cst_str, ofW, ofWs, E_cst, E_glo, E_var, E_mut, E_bin, E_neg, E_not, E_cmp, E_fld, E_ix, E_rev, E_slc, E_lst, E_tup, E_dic0, E_call, E_make, E_meth, E_callv, E_bc, E_bm, bmX_l, bmX_d, kindU_ref, E_isi, E_rngL, E_sset, E_comp, evEs, T_cst, T_glo, T_var, T_bin, T_neg, T_fld, T_ix, T_rev, T_slc, T_lst, T_tup, T_call, T_make, T_meth, T_callv, T_bc, T_bm, T_isi, T_comp, T_not, T_and, T_or, T_ife, T_cmp, T_cmp2, isB_bl, E_and, E_or, E_ife, E_cmp2, evO, evC, evI, evG, evGs, wipeS, permU, calN_call, calN_cs, getS_0, getS_s, newL_c, newT_c, tru_bl, tru_int, tru_non, tru_lst, tru_tup, bin_add, bin_sub, bin_mulc, bin_fdivc, bin_mod, bin_addL, cmp_lt, cmp_le, cmp_gt, cmp_ge, cmp_isN, cmp_isnN, isNon_non, isNon_int, isNon_tup, isNon_lst, isNon_ref, isNon_bl, cmp_eqI, cmp_neI, cmp_eq, cmp_ne, cmpEq_n, eqD_if, own_ref, der_ref, id_b, own_lst, own_tup, own_non, own_bl, own_int, own_str, der_lst, der_tup, der_non, der_int, der_bl, der_str, isD_int, isD_bl, isD_non, isD_bstr, isD_tup, isD_lst, eqv_int, eqv_bl, eqv_non, eqv_str, eqv_lst, eqv_tup, eqvs_nil, eqvs_nc, eqvs_cn, eqvs_cc, eqvs_n, eqv_ni, eqv_in, bc_int, bc_abs, bc_max, bc_min, bc_divmod, bc_len, bc_lenF, bc_lenT, bc_list, bc_listT, bc_tuple, rep_bl, ix_lst, ix_tup, ix_frz, at_0, at_1, at_2, at_3, at_4, slc_lst, rev_lst, fldU, setFld, methOf, putF, isiU, isOne, tyName, thaw, isFr, Mi.tgsL, List.contains_cons, List.contains_nil, List.length_cons, List.length_nil, List.length_append, List.length_map, List.set_cons_zero, List.set_cons_succ, List.lookup_cons, List.lookup_nil, Option.map_some, Bool.not_true, Bool.not_false, Nat.reduceBEq, Nat.reduceEqDiff, Nat.reduceAdd, Nat.reduceLT, Int.reduceEq, Int.reduceNe, Int.reduceLT, Int.reduceLE, if_true, if_false, reduceIte, decide_true, decide_false, decide_eq_true_eq, Bool.false_eq_true, Bool.and_true, Bool.true_and, Bool.and_false, Bool.false_and, Bool.or_true, Bool.or_false, Bool.true_or, Bool.false_or, beq_self_eq_true, Nat.zero_add, List.nil_append, List.isEmpty_nil, List.isEmpty_cons, and_self, true_and, and_true, eq_self, bt_beq, reduceCtorEq, List.set_set, List.all_nil, List.all_cons, List.all_append, set_app, get_app_eq, cut_tl, List.length_set, len_ref_a, list_ref_a, seq_ref_a, lsf_ref_a, dic_ref_a, lst_ref_a, seq_lst, seq_tup, lsf_lst, ix_ref_a, slc_ref_a, rev_ref_a, app_ref_a, appX_l, setIx_ref_a, bin_addX, addU, lstU, List.getElem?_set_ne, List.getElem?_set_self, List.getElem?_append_left, get_app_len, set_app_len, cs0, mk0, S.ob], by simp -dsimp (maxSteps := 1000000) (disch := first | assumption | omega | (simp only [List.length_cons, List.length_nil, List.length_append, List.length_map, List.length_take, List.length_drop, List.length_set, List.length_range, List.length_reverse] <;> omega) | rfl | decide) only [OkS_cons, OkS_nil, OkS_nx, OkS_rt, OkS_bk, OkS_ct, OkS_toS, OkS_if, Ok_bind, Ok_bindN, Ok_nx, Ok_ok, Ok_ofS, S_expr, S_asg, S_ret, S_retN, S_pass, S_brk, S_cont, S_for, S_par, par2, par3, cst_int, cst_non, cst_bl, cst_str, ofW, ofWs, E_cst, E_glo, E_var, E_mut, E_bin, E_neg, E_not, E_cmp, E_fld, E_ix, E_rev, E_slc, E_lst, E_tup, E_dic0, E_call, E_make, E_meth, E_callv, E_bc, E_bm, bmX_l, bmX_d, kindU_ref, E_isi, E_rngL, E_sset, E_comp, evEs, T_cst, T_glo, T_var, T_bin, T_neg, T_fld, T_ix, T_rev, T_slc, T_lst, T_tup, T_call, T_make, T_meth, T_callv, T_bc, T_bm, T_isi, T_comp, T_not, T_and, T_or, T_ife, T_cmp, T_cmp2, isB_bl, E_and, E_or, E_ife, E_cmp2, evO, evC, evI, evG, evGs, wipeS, permU, calN_call, calN_cs, getS_0, getS_s, newL_c, newT_c, tru_bl, tru_int, tru_non, tru_lst, tru_tup, bin_add, bin_sub, bin_mulc, bin_fdivc, bin_mod, bin_addL, cmp_lt, cmp_le, cmp_gt, cmp_ge, cmp_isN, cmp_isnN, isNon_non, isNon_int, isNon_tup, isNon_lst, isNon_ref, isNon_bl, cmp_eqI, cmp_neI, cmp_eq, cmp_ne, cmpEq_n, eqD_if, own_ref, der_ref, id_b, own_lst, own_tup, own_non, own_bl, own_int, own_str, der_lst, der_tup, der_non, der_int, der_bl, der_str, isD_int, isD_bl, isD_non, isD_bstr, isD_tup, isD_lst, eqv_int, eqv_bl, eqv_non, eqv_str, eqv_lst, eqv_tup, eqvs_nil, eqvs_nc, eqvs_cn, eqvs_cc, eqvs_n, eqv_ni, eqv_in, bc_int, bc_abs, bc_max, bc_min, bc_divmod, bc_len, bc_lenF, bc_lenT, bc_list, bc_listT, bc_tuple, rep_bl, ix_lst, ix_tup, ix_frz, at_0, at_1, at_2, at_3, at_4, slc_lst, rev_lst, fldU, setFld, methOf, putF, isiU, isOne, tyName, thaw, isFr, Mi.tgsL, List.contains_cons, List.contains_nil, List.length_cons, List.length_nil, List.length_append, List.length_map, List.set_cons_zero, List.set_cons_succ, List.lookup_cons, List.lookup_nil, Option.map_some, Bool.not_true, Bool.not_false, Nat.reduceBEq, Nat.reduceEqDiff, Nat.reduceAdd, Nat.reduceLT, Int.reduceEq, Int.reduceNe, Int.reduceLT, Int.reduceLE, if_true, if_false, reduceIte, decide_true, decide_false, decide_eq_true_eq, Bool.false_eq_true, Bool.and_true, Bool.true_and, Bool.and_false, Bool.false_and, Bool.or_true, Bool.or_false, Bool.true_or, Bool.false_or, beq_self_eq_true, Nat.zero_add, List.nil_append, List.isEmpty_nil, List.isEmpty_cons, and_self, true_and, and_true, eq_self, bt_beq, reduceCtorEq, List.set_set, List.all_nil, List.all_cons, List.all_append, set_app, get_app_eq, cut_tl, List.length_set, len_ref_a, list_ref_a, seq_ref_a, lsf_ref_a, dic_ref_a, lst_ref_a, seq_lst, seq_tup, lsf_lst, ix_ref_a, slc_ref_a, rev_ref_a, app_ref_a, appX_l, setIx_ref_a, bin_addX, addU, lstU, List.getElem?_set_ne, List.getElem?_set_self, List.getElem?_append_left, get_app_len, set_app_len, cs0, mk0, S.ow], S.oo, by simp -dsimp (maxSteps := 1000000) (disch := first | assumption | omega | (simp only [List.length_cons, List.length_nil, List.length_append, List.length_map, List.length_take, List.length_drop, List.length_set, List.length_range, List.length_reverse] <;> omega) | rfl | decide) only [OkS_cons, OkS_nil, OkS_nx, OkS_rt, OkS_bk, OkS_ct, OkS_toS, OkS_if, Ok_bind, Ok_bindN, Ok_nx, Ok_ok, Ok_ofS, S_expr, S_asg, S_ret, S_retN, S_pass, S_brk, S_cont, S_for, S_par, par2, par3, cst_int, cst_non, cst_bl, cst_str, ofW, ofWs, E_cst, E_glo, E_var, E_mut, E_bin, E_neg, E_not, E_cmp, E_fld, E_ix, E_rev, E_slc, E_lst, E_tup, E_dic0, E_call, E_make, E_meth, E_callv, E_bc, E_bm, bmX_l, bmX_d, kindU_ref, E_isi, E_rngL, E_sset, E_comp, evEs, T_cst, T_glo, T_var, T_bin, T_neg, T_fld, T_ix, T_rev, T_slc, T_lst, T_tup, T_call, T_make, T_meth, T_callv, T_bc, T_bm, T_isi, T_comp, T_not, T_and, T_or, T_ife, T_cmp, T_cmp2, isB_bl, E_and, E_or, E_ife, E_cmp2, evO, evC, evI, evG, evGs, wipeS, permU, calN_call, calN_cs, getS_0, getS_s, newL_c, newT_c, tru_bl, tru_int, tru_non, tru_lst, tru_tup, bin_add, bin_sub, bin_mulc, bin_fdivc, bin_mod, bin_addL, cmp_lt, cmp_le, cmp_gt, cmp_ge, cmp_isN, cmp_isnN, isNon_non, isNon_int, isNon_tup, isNon_lst, isNon_ref, isNon_bl, cmp_eqI, cmp_neI, cmp_eq, cmp_ne, cmpEq_n, eqD_if, own_ref, der_ref, id_b, own_lst, own_tup, own_non, own_bl, own_int, own_str, der_lst, der_tup, der_non, der_int, der_bl, der_str, isD_int, isD_bl, isD_non, isD_bstr, isD_tup, isD_lst, eqv_int, eqv_bl, eqv_non, eqv_str, eqv_lst, eqv_tup, eqvs_nil, eqvs_nc, eqvs_cn, eqvs_cc, eqvs_n, eqv_ni, eqv_in, bc_int, bc_abs, bc_max, bc_min, bc_divmod, bc_len, bc_lenF, bc_lenT, bc_list, bc_listT, bc_tuple, rep_bl, ix_lst, ix_tup, ix_frz, at_0, at_1, at_2, at_3, at_4, slc_lst, rev_lst, fldU, setFld, methOf, putF, isiU, isOne, tyName, thaw, isFr, Mi.tgsL, List.contains_cons, List.contains_nil, List.length_cons, List.length_nil, List.length_append, List.length_map, List.set_cons_zero, List.set_cons_succ, List.lookup_cons, List.lookup_nil, Option.map_some, Bool.not_true, Bool.not_false, Nat.reduceBEq, Nat.reduceEqDiff, Nat.reduceAdd, Nat.reduceLT, Int.reduceEq, Int.reduceNe, Int.reduceLT, Int.reduceLE, if_true, if_false, reduceIte, decide_true, decide_false, decide_eq_true_eq, Bool.false_eq_true, Bool.and_true, Bool.true_and, Bool.and_false, Bool.false_and, Bool.or_true, Bool.or_false, Bool.true_or, Bool.false_or, beq_self_eq_true, Nat.zero_add, List.nil_append, List.isEmpty_nil, List.isEmpty_cons, and_self, true_and, and_true, eq_self, bt_beq, reduceCtorEq, List.set_set, List.all_nil, List.all_cons, List.all_append, set_app, get_app_eq, cut_tl, List.length_set, len_ref_a, list_ref_a, seq_ref_a, lsf_ref_a, dic_ref_a, lst_ref_a, seq_lst, seq_tup, lsf_lst, ix_ref_a, slc_ref_a, rev_ref_a, app_ref_a, appX_l, setIx_ref_a, bin_addX, addU, lstU, List.getElem?_set_ne, List.getElem?_set_self, List.getElem?_append_left, get_app_len, set_app_len, cs0, mk0, S.en], by simp -dsimp (maxSteps := 1000000) (disch := first | assumption | omega | (simp only [List.length_cons, List.length_nil, List.length_append, List.length_map, List.length_take, List.length_drop, List.length_set, List.length_range, List.length_reverse] <;> omega) | rfl | decide) only [OkS_cons, OkS_nil, OkS_nx, OkS_rt, OkS_bk, OkS_ct, OkS_toS, OkS_if, Ok_bind, Ok_bindN, Ok_nx, Ok_ok, Ok_ofS, S_expr, S_asg, S_ret, S_retN, S_pass, S_brk, S_cont, S_for, S_par, par2, par3, cst_int, cst_non, cst_bl, cst_str, ofW, ofWs, E_cst, E_glo, E_var, E_mut, E_bin, E_neg, E_not, E_cmp, E_fld, E_ix, E_rev, E_slc, E_lst, E_tup, E_dic0, E_call, E_make, E_meth, E_callv, E_bc, E_bm, bmX_l, bmX_d, kindU_ref, E_isi, E_rngL, E_sset, E_comp, evEs, T_cst, T_glo, T_var, T_bin, T_neg, T_fld, T_ix, T_rev, T_slc, T_lst, T_tup, T_call, T_make, T_meth, T_callv, T_bc, T_bm, T_isi, T_comp, T_not, T_and, T_or, T_ife, T_cmp, T_cmp2, isB_bl, E_and, E_or, E_ife, E_cmp2, evO, evC, evI, evG, evGs, wipeS, permU, calN_call, calN_cs, getS_0, getS_s, newL_c, newT_c, tru_bl, tru_int, tru_non, tru_lst, tru_tup, bin_add, bin_sub, bin_mulc, bin_fdivc, bin_mod, bin_addL, cmp_lt, cmp_le, cmp_gt, cmp_ge, cmp_isN, cmp_isnN, isNon_non, isNon_int, isNon_tup, isNon_lst, isNon_ref, isNon_bl, cmp_eqI, cmp_neI, cmp_eq, cmp_ne, cmpEq_n, eqD_if, own_ref, der_ref, id_b, own_lst, own_tup, own_non, own_bl, own_int, own_str, der_lst, der_tup, der_non, der_int, der_bl, der_str, isD_int, isD_bl, isD_non, isD_bstr, isD_tup, isD_lst, eqv_int, eqv_bl, eqv_non, eqv_str, eqv_lst, eqv_tup, eqvs_nil, eqvs_nc, eqvs_cn, eqvs_cc, eqvs_n, eqv_ni, eqv_in, bc_int, bc_abs, bc_max, bc_min, bc_divmod, bc_len, bc_lenF, bc_lenT, bc_list, bc_listT, bc_tuple, rep_bl, ix_lst, ix_tup, ix_frz, at_0, at_1, at_2, at_3, at_4, slc_lst, rev_lst, fldU, setFld, methOf, putF, isiU, isOne, tyName, thaw, isFr, Mi.tgsL, List.contains_cons, List.contains_nil, List.length_cons, List.length_nil, List.length_append, List.length_map, List.set_cons_zero, List.set_cons_succ, List.lookup_cons, List.lookup_nil, Option.map_some, Bool.not_true, Bool.not_false, Nat.reduceBEq, Nat.reduceEqDiff, Nat.reduceAdd, Nat.reduceLT, Int.reduceEq, Int.reduceNe, Int.reduceLT, Int.reduceLE, if_true, if_false, reduceIte, decide_true, decide_false, decide_eq_true_eq, Bool.false_eq_true, Bool.and_true, Bool.true_and, Bool.and_false, Bool.false_and, Bool.or_true, Bool.or_false, Bool.true_or, Bool.false_or, beq_self_eq_true, Nat.zero_add, List.nil_append, List.isEmpty_nil, List.isEmpty_cons, and_self, true_and, and_true, eq_self, bt_beq, reduceCtorEq, List.set_set, List.all_nil, List.all_cons, List.all_append, set_app, get_app_eq, cut_tl, List.length_set, len_ref_a, list_ref_a, seq_ref_a, lsf_ref_a, dic_ref_a, lst_ref_a, seq_lst, seq_tup, lsf_lst, ix_ref_a, slc_ref_a, rev_ref_a, app_ref_a, appX_l, setIx_ref_a, bin_addX, addU, lstU, List.getElem?_set_ne, List.getElem?_set_self, List.getElem?_append_left, get_app_len, set_app_len, cs0, mk0, S.lf], S.nd, S.ml, S.f0, by omega, by omega, S.sz, S.m0, as_set (fun c c5 co x e => by simp -dsimp (maxSteps := 1000000) (disch := first | assumption | omega | (simp only [List.length_cons, List.length_nil, List.length_append, List.length_map, List.length_take, List.length_drop, List.length_set, List.length_range, List.length_reverse] <;> omega) | rfl | decide) only [OkS_cons, OkS_nil, OkS_nx, OkS_rt, OkS_bk, OkS_ct, OkS_toS, OkS_if, Ok_bind, Ok_bindN, Ok_nx, Ok_ok, Ok_ofS, S_expr, S_asg, S_ret, S_retN, S_pass, S_brk, S_cont, S_for, S_par, par2, par3, cst_int, cst_non, cst_bl, cst_str, ofW, ofWs, E_cst, E_glo, E_var, E_mut, E_bin, E_neg, E_not, E_cmp, E_fld, E_ix, E_rev, E_slc, E_lst, E_tup, E_dic0, E_call, E_make, E_meth, E_callv, E_bc, E_bm, bmX_l, bmX_d, kindU_ref, E_isi, E_rngL, E_sset, E_comp, evEs, T_cst, T_glo, T_var, T_bin, T_neg, T_fld, T_ix, T_rev, T_slc, T_lst, T_tup, T_call, T_make, T_meth, T_callv, T_bc, T_bm, T_isi, T_comp, T_not, T_and, T_or, T_ife, T_cmp, T_cmp2, isB_bl, E_and, E_or, E_ife, E_cmp2, evO, evC, evI, evG, evGs, wipeS, permU, calN_call, calN_cs, getS_0, getS_s, newL_c, newT_c, tru_bl, tru_int, tru_non, tru_lst, tru_tup, bin_add, bin_sub, bin_mulc, bin_fdivc, bin_mod, bin_addL, cmp_lt, cmp_le, cmp_gt, cmp_ge, cmp_isN, cmp_isnN, isNon_non, isNon_int, isNon_tup, isNon_lst, isNon_ref, isNon_bl, cmp_eqI, cmp_neI, cmp_eq, cmp_ne, cmpEq_n, eqD_if, own_ref, der_ref, id_b, own_lst, own_tup, own_non, own_bl, own_int, own_str, der_lst, der_tup, der_non, der_int, der_bl, der_str, isD_int, isD_bl, isD_non, isD_bstr, isD_tup, isD_lst, eqv_int, eqv_bl, eqv_non, eqv_str, eqv_lst, eqv_tup, eqvs_nil, eqvs_nc, eqvs_cn, eqvs_cc, eqvs_n, eqv_ni, eqv_in, bc_int, bc_abs, bc_max, bc_min, bc_divmod, bc_len, bc_lenF, bc_lenT, bc_list, bc_listT, bc_tuple, rep_bl, ix_lst, ix_tup, ix_frz, at_0, at_1, at_2, at_3, at_4, slc_lst, rev_lst, fldU, setFld, methOf, putF, isiU, isOne, tyName, thaw, isFr, Mi.tgsL, List.contains_cons, List.contains_nil, List.length_cons, List.length_nil, List.length_append, List.length_map, List.set_cons_zero, List.set_cons_succ, List.lookup_cons, List.lookup_nil, Option.map_some, Bool.not_true, Bool.not_false, Nat.reduceBEq, Nat.reduceEqDiff, Nat.reduceAdd, Nat.reduceLT, Int.reduceEq, Int.reduceNe, Int.reduceLT, Int.reduceLE, if_true, if_false, reduceIte, decide_true, decide_false, decide_eq_true_eq, Bool.false_eq_true, Bool.and_true, Bool.true_and, Bool.and_false, Bool.false_and, Bool.or_true, Bool.or_false, Bool.true_or, Bool.false_or, beq_self_eq_true, Nat.zero_add, List.nil_append, List.isEmpty_nil, List.isEmpty_cons, and_self, true_and, and_true, eq_self, bt_beq, reduceCtorEq, List.set_set, List.all_nil, List.all_cons, List.all_append, set_app, get_app_eq, cut_tl, List.length_set, len_ref_a, list_ref_a, seq_ref_a, lsf_ref_a, dic_ref_a, lst_ref_a, seq_lst, seq_tup, lsf_lst, ix_ref_a, slc_ref_a, rev_ref_a, app_ref_a, appX_l, setIx_ref_a, bin_addX, addU, lstU, List.getElem?_set_ne, List.getElem?_set_self, List.getElem?_append_left, get_app_len, set_app_len, cs0, mk0, e]) S.asd⟩
      clear stay S0
      generalize g.set 0 (.lst [.int a', .int b']) = g' at S1
      have lt : r.toNat < es.length := by omega
      obtain ⟨k, bb⟩ : ∃ kb, es[r.toNat]? = some kb := ⟨_, List.getElem?_eq_getElem lt⟩
      obtain ⟨k, b1⟩ := k
      have e1 : (owL es)[r.toNat]? = some (.tup [.lst [.int k], .bl b1]) := by rw [List.getElem?_map, bb]; rfl
      have l5 := S1.len.1
      have lo := S1.len.2
      cases b1 with
      | true =>
        simp -dsimp (maxSteps := 1000000) (disch := first | assumption | omega | (simp only [List.length_cons, List.length_nil, List.length_append, List.length_map, List.length_take, List.length_drop, List.length_set, List.length_range, List.length_reverse] <;> omega) | rfl | decide) only [OkS_cons, OkS_nil, OkS_nx, OkS_rt, OkS_bk, OkS_ct, OkS_toS, OkS_if, Ok_bind, Ok_bindN, Ok_nx, Ok_ok, Ok_ofS, S_expr, S_asg, S_ret, S_retN, S_pass, S_brk, S_cont, S_for, S_par, par2, par3, cst_int, cst_non, cst_bl, cst_str, ofW, ofWs, E_cst, E_glo, E_var, E_mut, E_bin, E_neg, E_not, E_cmp, E_fld, E_ix, E_rev, E_slc, E_lst, E_tup, E_dic0, E_call, E_make, E_meth, E_callv, E_bc, E_bm, bmX_l, bmX_d, kindU_ref, E_isi, E_rngL, E_sset, E_comp, evEs, T_cst, T_glo, T_var, T_bin, T_neg, T_fld, T_ix, T_rev, T_slc, T_lst, T_tup, T_call, T_make, T_meth, T_callv, T_bc, T_bm, T_isi, T_comp, T_not, T_and, T_or, T_ife, T_cmp, T_cmp2, isB_bl, E_and, E_or, E_ife, E_cmp2, evO, evC, evI, evG, evGs, wipeS, permU, calN_call, calN_cs, getS_0, getS_s, newL_c, newT_c, tru_bl, tru_int, tru_non, tru_lst, tru_tup, bin_add, bin_sub, bin_mulc, bin_fdivc, bin_mod, bin_addL, cmp_lt, cmp_le, cmp_gt, cmp_ge, cmp_isN, cmp_isnN, isNon_non, isNon_int, isNon_tup, isNon_lst, isNon_ref, isNon_bl, cmp_eqI, cmp_neI, cmp_eq, cmp_ne, cmpEq_n, eqD_if, own_ref, der_ref, id_b, own_lst, own_tup, own_non, own_bl, own_int, own_str, der_lst, der_tup, der_non, der_int, der_bl, der_str, isD_int, isD_bl, isD_non, isD_bstr, isD_tup, isD_lst, eqv_int, eqv_bl, eqv_non, eqv_str, eqv_lst, eqv_tup, eqvs_nil, eqvs_nc, eqvs_cn, eqvs_cc, eqvs_n, eqv_ni, eqv_in, bc_int, bc_abs, bc_max, bc_min, bc_divmod, bc_len, bc_lenF, bc_lenT, bc_list, bc_listT, bc_tuple, rep_bl, ix_lst, ix_tup, ix_frz, at_0, at_1, at_2, at_3, at_4, slc_lst, rev_lst, fldU, setFld, methOf, putF, isiU, isOne, tyName, thaw, isFr, Mi.tgsL, List.contains_cons, List.contains_nil, List.length_cons, List.length_nil, List.length_append, List.length_map, List.set_cons_zero, List.set_cons_succ, List.lookup_cons, List.lookup_nil, Option.map_some, Bool.not_true, Bool.not_false, Nat.reduceBEq, Nat.reduceEqDiff, Nat.reduceAdd, Nat.reduceLT, Int.reduceEq, Int.reduceNe, Int.reduceLT, Int.reduceLE, if_true, if_false, reduceIte, decide_true, decide_false, decide_eq_true_eq, Bool.false_eq_true, Bool.and_true, Bool.true_and, Bool.and_false, Bool.false_and, Bool.or_true, Bool.or_false, Bool.true_or, Bool.false_or, beq_self_eq_true, Nat.zero_add, List.nil_append, List.isEmpty_nil, List.isEmpty_cons, and_self, true_and, and_true, eq_self, bt_beq, reduceCtorEq, List.set_set, List.all_nil, List.all_cons, List.all_append, set_app, get_app_eq, cut_tl, List.length_set, len_ref_a, list_ref_a, seq_ref_a, lsf_ref_a, dic_ref_a, lst_ref_a, seq_lst, seq_tup, lsf_lst, ix_ref_a, slc_ref_a, rev_ref_a, app_ref_a, appX_l, setIx_ref_a, bin_addX, addU, lstU, List.getElem?_set_ne, List.getElem?_set_self, List.getElem?_append_left, get_app_len, set_app_len, cs0, mk0, S1.ow, atI_of r0 e1]
        refine St.go (i := i + 1) many first made es lefts o as S1 (by omega) fun _ => ?_
        simp -dsimp (maxSteps := 1000000) (disch := first | assumption | omega | (simp only [List.length_cons, List.length_nil, List.length_append, List.length_map, List.length_take, List.length_drop, List.length_set, List.length_range, List.length_reverse] <;> omega) | rfl | decide) only [OkS_cons, OkS_nil, OkS_nx, OkS_rt, OkS_bk, OkS_ct, OkS_toS, OkS_if, Ok_bind, Ok_bindN, Ok_nx, Ok_ok, Ok_ofS, S_expr, S_asg, S_ret, S_retN, S_pass, S_brk, S_cont, S_for, S_par, par2, par3, cst_int, cst_non, cst_bl, cst_str, ofW, ofWs, E_cst, E_glo, E_var, E_mut, E_bin, E_neg, E_not, E_cmp, E_fld, E_ix, E_rev, E_slc, E_lst, E_tup, E_dic0, E_call, E_make, E_meth, E_callv, E_bc, E_bm, bmX_l, bmX_d, kindU_ref, E_isi, E_rngL, E_sset, E_comp, evEs, T_cst, T_glo, T_var, T_bin, T_neg, T_fld, T_ix, T_rev, T_slc, T_lst, T_tup, T_call, T_make, T_meth, T_callv, T_bc, T_bm, T_isi, T_comp, T_not, T_and, T_or, T_ife, T_cmp, T_cmp2, isB_bl, E_and, E_or, E_ife, E_cmp2, evO, evC, evI, evG, evGs, wipeS, permU, calN_call, calN_cs, getS_0, getS_s, newL_c, newT_c, tru_bl, tru_int, tru_non, tru_lst, tru_tup, bin_add, bin_sub, bin_mulc, bin_fdivc, bin_mod, bin_addL, cmp_lt, cmp_le, cmp_gt, cmp_ge, cmp_isN, cmp_isnN, isNon_non, isNon_int, isNon_tup, isNon_lst, isNon_ref, isNon_bl, cmp_eqI, cmp_neI, cmp_eq, cmp_ne, cmpEq_n, eqD_if, own_ref, der_ref, id_b, own_lst, own_tup, own_non, own_bl, own_int, own_str, der_lst, der_tup, der_non, der_int, der_bl, der_str, isD_int, isD_bl, isD_non, isD_bstr, isD_tup, isD_lst, eqv_int, eqv_bl, eqv_non, eqv_str, eqv_lst, eqv_tup, eqvs_nil, eqvs_nc, eqvs_cn, eqvs_cc, eqvs_n, eqv_ni, eqv_in, bc_int, bc_abs, bc_max, bc_min, bc_divmod, bc_len, bc_lenF, bc_lenT, bc_list, bc_listT, bc_tuple, rep_bl, ix_lst, ix_tup, ix_frz, at_0, at_1, at_2, at_3, at_4, slc_lst, rev_lst, fldU, setFld, methOf, putF, isiU, isOne, tyName, thaw, isFr, Mi.tgsL, List.contains_cons, List.contains_nil, List.length_cons, List.length_nil, List.length_append, List.length_map, List.set_cons_zero, List.set_cons_succ, List.lookup_cons, List.lookup_nil, Option.map_some, Bool.not_true, Bool.not_false, Nat.reduceBEq, Nat.reduceEqDiff, Nat.reduceAdd, Nat.reduceLT, Int.reduceEq, Int.reduceNe, Int.reduceLT, Int.reduceLE, if_true, if_false, reduceIte, decide_true, decide_false, decide_eq_true_eq, Bool.false_eq_true, Bool.and_true, Bool.true_and, Bool.and_false, Bool.false_and, Bool.or_true, Bool.or_false, Bool.true_or, Bool.false_or, beq_self_eq_true, Nat.zero_add, List.nil_append, List.isEmpty_nil, List.isEmpty_cons, and_self, true_and, and_true, eq_self, bt_beq, reduceCtorEq, List.set_set, List.all_nil, List.all_cons, List.all_append, set_app, get_app_eq, cut_tl, List.length_set, len_ref_a, list_ref_a, seq_ref_a, lsf_ref_a, dic_ref_a, lst_ref_a, seq_lst, seq_tup, lsf_lst, ix_ref_a, slc_ref_a, rev_ref_a, app_ref_a, appX_l, setIx_ref_a, bin_addX, addU, lstU, List.getElem?_set_ne, List.getElem?_set_self, List.getElem?_append_left, get_app_len, set_app_len, cs0, mk0]
        exact q _ _ _ _ _ _ _ _ S1 ⟨_, _, _, _, _, _, _, rfl⟩
      | false =>
        have e2 : (dnL es)[(first + r - first).toNat]? = some (.bl false) := by
          rw [show (first + r - first).toNat = r.toNat by omega, List.getElem?_map, bb]; rfl
        have e3 : L2.ixN (owL es).length r = some r.toNat := ixN_of r0 (by simp; omega)
        simp -dsimp (maxSteps := 1000000) (disch := first | assumption | omega | (simp only [List.length_cons, List.length_nil, List.length_append, List.length_map, List.length_take, List.length_drop, List.length_set, List.length_range, List.length_reverse] <;> omega) | rfl | decide) only [OkS_cons, OkS_nil, OkS_nx, OkS_rt, OkS_bk, OkS_ct, OkS_toS, OkS_if, Ok_bind, Ok_bindN, Ok_nx, Ok_ok, Ok_ofS, S_expr, S_asg, S_ret, S_retN, S_pass, S_brk, S_cont, S_for, S_par, par2, par3, cst_int, cst_non, cst_bl, cst_str, ofW, ofWs, E_cst, E_glo, E_var, E_mut, E_bin, E_neg, E_not, E_cmp, E_fld, E_ix, E_rev, E_slc, E_lst, E_tup, E_dic0, E_call, E_make, E_meth, E_callv, E_bc, E_bm, bmX_l, bmX_d, kindU_ref, E_isi, E_rngL, E_sset, E_comp, evEs, T_cst, T_glo, T_var, T_bin, T_neg, T_fld, T_ix, T_rev, T_slc, T_lst, T_tup, T_call, T_make, T_meth, T_callv, T_bc, T_bm, T_isi, T_comp, T_not, T_and, T_or, T_ife, T_cmp, T_cmp2, isB_bl, E_and, E_or, E_ife, E_cmp2, evO, evC, evI, evG, evGs, wipeS, permU, calN_call, calN_cs, getS_0, getS_s, newL_c, newT_c, tru_bl, tru_int, tru_non, tru_lst, tru_tup, bin_add, bin_sub, bin_mulc, bin_fdivc, bin_mod, bin_addL, cmp_lt, cmp_le, cmp_gt, cmp_ge, cmp_isN, cmp_isnN, isNon_non, isNon_int, isNon_tup, isNon_lst, isNon_ref, isNon_bl, cmp_eqI, cmp_neI, cmp_eq, cmp_ne, cmpEq_n, eqD_if, own_ref, der_ref, id_b, own_lst, own_tup, own_non, own_bl, own_int, own_str, der_lst, der_tup, der_non, der_int, der_bl, der_str, isD_int, isD_bl, isD_non, isD_bstr, isD_tup, isD_lst, eqv_int, eqv_bl, eqv_non, eqv_str, eqv_lst, eqv_tup, eqvs_nil, eqvs_nc, eqvs_cn, eqvs_cc, eqvs_n, eqv_ni, eqv_in, bc_int, bc_abs, bc_max, bc_min, bc_divmod, bc_len, bc_lenF, bc_lenT, bc_list, bc_listT, bc_tuple, rep_bl, ix_lst, ix_tup, ix_frz, at_0, at_1, at_2, at_3, at_4, slc_lst, rev_lst, fldU, setFld, methOf, putF, isiU, isOne, tyName, thaw, isFr, Mi.tgsL, List.contains_cons, List.contains_nil, List.length_cons, List.length_nil, List.length_append, List.length_map, List.set_cons_zero, List.set_cons_succ, List.lookup_cons, List.lookup_nil, Option.map_some, Bool.not_true, Bool.not_false, Nat.reduceBEq, Nat.reduceEqDiff, Nat.reduceAdd, Nat.reduceLT, Int.reduceEq, Int.reduceNe, Int.reduceLT, Int.reduceLE, if_true, if_false, reduceIte, decide_true, decide_false, decide_eq_true_eq, Bool.false_eq_true, Bool.and_true, Bool.true_and, Bool.and_false, Bool.false_and, Bool.or_true, Bool.or_false, Bool.true_or, Bool.false_or, beq_self_eq_true, Nat.zero_add, List.nil_append, List.isEmpty_nil, List.isEmpty_cons, and_self, true_and, and_true, eq_self, bt_beq, reduceCtorEq, List.set_set, List.all_nil, List.all_cons, List.all_append, set_app, get_app_eq, cut_tl, List.length_set, len_ref_a, list_ref_a, seq_ref_a, lsf_ref_a, dic_ref_a, lst_ref_a, seq_lst, seq_tup, lsf_lst, ix_ref_a, slc_ref_a, rev_ref_a, app_ref_a, appX_l, setIx_ref_a, bin_addX, addU, lstU, List.getElem?_set_ne, List.getElem?_set_self, List.getElem?_append_left, get_app_len, set_app_len, cs0, mk0, S1.ow, atI_of r0 e1, S1.ob, done S1.ob f0 (by simp) (show first ≤ first + r by omega) e2 (by simp; omega), ixN_of r0 r1]
        obtain ⟨a, b, hp, hb⟩ := S1.po
        refine St.go (i := i + 1) many first made (es.set r.toNat (k, true)) lefts o as ⟨⟨a, b, by simp -dsimp (maxSteps := 1000000) (disch := first | assumption | omega | (simp only [List.length_cons, List.length_nil, List.length_append, List.length_map, List.length_take, List.length_drop, List.length_set, List.length_range, List.length_reverse] <;> omega) | rfl | decide) only [OkS_cons, OkS_nil, OkS_nx, OkS_rt, OkS_bk, OkS_ct, OkS_toS, OkS_if, Ok_bind, Ok_bindN, Ok_nx, Ok_ok, Ok_ofS, S_expr, S_asg, S_ret, S_retN, S_pass, S_brk, S_cont, S_for, S_par, par2, par3, cst_int, cst_non, cst_bl, cst_str, ofW, ofWs, E_cst, E_glo, E_var, E_mut, E_bin, E_neg, E_not, E_cmp, E_fld, E_ix, E_rev, E_slc, E_lst, E_tup, E_dic0, E_call, E_make, E_meth, E_callv, E_bc, E_bm, bmX_l, bmX_d, kindU_ref, E_isi, E_rngL, E_sset, E_comp, evEs, T_cst, T_glo, T_var, T_bin, T_neg, T_fld, T_ix, T_rev, T_slc, T_lst, T_tup, T_call, T_make, T_meth, T_callv, T_bc, T_bm, T_isi, T_comp, T_not, T_and, T_or, T_ife, T_cmp, T_cmp2, isB_bl, E_and, E_or, E_ife, E_cmp2, evO, evC, evI, evG, evGs, wipeS, permU, calN_call, calN_cs, getS_0, getS_s, newL_c, newT_c, tru_bl, tru_int, tru_non, tru_lst, tru_tup, bin_add, bin_sub, bin_mulc, bin_fdivc, bin_mod, bin_addL, cmp_lt, cmp_le, cmp_gt, cmp_ge, cmp_isN, cmp_isnN, isNon_non, isNon_int, isNon_tup, isNon_lst, isNon_ref, isNon_bl, cmp_eqI, cmp_neI, cmp_eq, cmp_ne, cmpEq_n, eqD_if, own_ref, der_ref, id_b, own_lst, own_tup, own_non, own_bl, own_int, own_str, der_lst, der_tup, der_non, der_int, der_bl, der_str, isD_int, isD_bl, isD_non, isD_bstr, isD_tup, isD_lst, eqv_int, eqv_bl, eqv_non, eqv_str, eqv_lst, eqv_tup, eqvs_nil, eqvs_nc, eqvs_cn, eqvs_cc, eqvs_n, eqv_ni, eqv_in, bc_int, bc_abs, bc_max, bc_min, bc_divmod, bc_len, bc_lenF, bc_lenT, bc_list, bc_listT, bc_tuple, rep_bl, ix_lst, ix_tup, ix_frz, at_0, at_1, at_2, at_3, at_4, slc_lst, rev_lst, fldU, setFld, methOf, putF, isiU, isOne, tyName, thaw, isFr, Mi.tgsL, List.contains_cons, List.contains_nil, List.length_cons, List.length_nil, List.length_append, List.length_map, List.set_cons_zero, List.set_cons_succ, List.lookup_cons, List.lookup_nil, Option.map_some, Bool.not_true, Bool.not_false, Nat.reduceBEq, Nat.reduceEqDiff, Nat.reduceAdd, Nat.reduceLT, Int.reduceEq, Int.reduceNe, Int.reduceLT, Int.reduceLE, if_true, if_false, reduceIte, decide_true, decide_false, decide_eq_true_eq, Bool.false_eq_true, Bool.and_true, Bool.true_and, Bool.and_false, Bool.false_and, Bool.or_true, Bool.or_false, Bool.true_or, Bool.false_or, beq_self_eq_true, Nat.zero_add, List.nil_append, List.isEmpty_nil, List.isEmpty_cons, and_self, true_and, and_true, eq_self, bt_beq, reduceCtorEq, List.set_set, List.all_nil, List.all_cons, List.all_append, set_app, get_app_eq, cut_tl, List.length_set, len_ref_a, list_ref_a, seq_ref_a, lsf_ref_a, dic_ref_a, lst_ref_a, seq_lst, seq_tup, lsf_lst, ix_ref_a, slc_ref_a, rev_ref_a, app_ref_a, appX_l, setIx_ref_a, bin_addX, addU, lstU, List.getElem?_set_ne, List.getElem?_set_self, List.getElem?_append_left, get_app_len, set_app_len, cs0, mk0, hp], hb⟩, ?_, ?_, oo, ?_, by simp -dsimp (maxSteps := 1000000) (disch := first | assumption | omega | (simp only [List.length_cons, List.length_nil, List.length_append, List.length_map, List.length_take, List.length_drop, List.length_set, List.length_range, List.length_reverse] <;> omega) | rfl | decide) only [OkS_cons, OkS_nil, OkS_nx, OkS_rt, OkS_bk, OkS_ct, OkS_toS, OkS_if, Ok_bind, Ok_bindN, Ok_nx, Ok_ok, Ok_ofS, S_expr, S_asg, S_ret, S_retN, S_pass, S_brk, S_cont, S_for, S_par, par2, par3, cst_int, cst_non, cst_bl, cst_str, ofW, ofWs, E_cst, E_glo, E_var, E_mut, E_bin, E_neg, E_not, E_cmp, E_fld, E_ix, E_rev, E_slc, E_lst, E_tup, E_dic0, E_call, E_make, E_meth, E_callv, E_bc, E_bm, bmX_l, bmX_d, kindU_ref, E_isi, E_rngL, E_sset, E_comp, evEs, T_cst, T_glo, T_var, T_bin, T_neg, T_fld, T_ix, T_rev, T_slc, T_lst, T_tup, T_call, T_make, T_meth, T_callv, T_bc, T_bm, T_isi, T_comp, T_not, T_and, T_or, T_ife, T_cmp, T_cmp2, isB_bl, E_and, E_or, E_ife, E_cmp2, evO, evC, evI, evG, evGs, wipeS, permU, calN_call, calN_cs, getS_0, getS_s, newL_c, newT_c, tru_bl, tru_int, tru_non, tru_lst, tru_tup, bin_add, bin_sub, bin_mulc, bin_fdivc, bin_mod, bin_addL, cmp_lt, cmp_le, cmp_gt, cmp_ge, cmp_isN, cmp_isnN, isNon_non, isNon_int, isNon_tup, isNon_lst, isNon_ref, isNon_bl, cmp_eqI, cmp_neI, cmp_eq, cmp_ne, cmpEq_n, eqD_if, own_ref, der_ref, id_b, own_lst, own_tup, own_non, own_bl, own_int, own_str, der_lst, der_tup, der_non, der_int, der_bl, der_str, isD_int, isD_bl, isD_non, isD_bstr, isD_tup, isD_lst, eqv_int, eqv_bl, eqv_non, eqv_str, eqv_lst, eqv_tup, eqvs_nil, eqvs_nc, eqvs_cn, eqvs_cc, eqvs_n, eqv_ni, eqv_in, bc_int, bc_abs, bc_max, bc_min, bc_divmod, bc_len, bc_lenF, bc_lenT, bc_list, bc_listT, bc_tuple, rep_bl, ix_lst, ix_tup, ix_frz, at_0, at_1, at_2, at_3, at_4, slc_lst, rev_lst, fldU, setFld, methOf, putF, isiU, isOne, tyName, thaw, isFr, Mi.tgsL, List.contains_cons, List.contains_nil, List.length_cons, List.length_nil, List.length_append, List.length_map, List.set_cons_zero, List.set_cons_succ, List.lookup_cons, List.lookup_nil, Option.map_some, Bool.not_true, Bool.not_false, Nat.reduceBEq, Nat.reduceEqDiff, Nat.reduceAdd, Nat.reduceLT, Int.reduceEq, Int.reduceNe, Int.reduceLT, Int.reduceLE, if_true, if_false, reduceIte, decide_true, decide_false, decide_eq_true_eq, Bool.false_eq_true, Bool.and_true, Bool.true_and, Bool.and_false, Bool.false_and, Bool.or_true, Bool.or_false, Bool.true_or, Bool.false_or, beq_self_eq_true, Nat.zero_add, List.nil_append, List.isEmpty_nil, List.isEmpty_cons, and_self, true_and, and_true, eq_self, bt_beq, reduceCtorEq, List.set_set, List.all_nil, List.all_cons, List.all_append, set_app, get_app_eq, cut_tl, List.length_set, len_ref_a, list_ref_a, seq_ref_a, lsf_ref_a, dic_ref_a, lst_ref_a, seq_lst, seq_tup, lsf_lst, ix_ref_a, slc_ref_a, rev_ref_a, app_ref_a, appX_l, setIx_ref_a, bin_addX, addU, lstU, List.getElem?_set_ne, List.getElem?_set_self, List.getElem?_append_left, get_app_len, set_app_len, cs0, mk0, S1.lf], ?_, ?_, f0, by omega, by omega, by simpa using sz, m0, as_set (fun c c5 co x e => by simp -dsimp (maxSteps := 1000000) (disch := first | assumption | omega | (simp only [List.length_cons, List.length_nil, List.length_append, List.length_map, List.length_take, List.length_drop, List.length_set, List.length_range, List.length_reverse] <;> omega) | rfl | decide) only [OkS_cons, OkS_nil, OkS_nx, OkS_rt, OkS_bk, OkS_ct, OkS_toS, OkS_if, Ok_bind, Ok_bindN, Ok_nx, Ok_ok, Ok_ofS, S_expr, S_asg, S_ret, S_retN, S_pass, S_brk, S_cont, S_for, S_par, par2, par3, cst_int, cst_non, cst_bl, cst_str, ofW, ofWs, E_cst, E_glo, E_var, E_mut, E_bin, E_neg, E_not, E_cmp, E_fld, E_ix, E_rev, E_slc, E_lst, E_tup, E_dic0, E_call, E_make, E_meth, E_callv, E_bc, E_bm, bmX_l, bmX_d, kindU_ref, E_isi, E_rngL, E_sset, E_comp, evEs, T_cst, T_glo, T_var, T_bin, T_neg, T_fld, T_ix, T_rev, T_slc, T_lst, T_tup, T_call, T_make, T_meth, T_callv, T_bc, T_bm, T_isi, T_comp, T_not, T_and, T_or, T_ife, T_cmp, T_cmp2, isB_bl, E_and, E_or, E_ife, E_cmp2, evO, evC, evI, evG, evGs, wipeS, permU, calN_call, calN_cs, getS_0, getS_s, newL_c, newT_c, tru_bl, tru_int, tru_non, tru_lst, tru_tup, bin_add, bin_sub, bin_mulc, bin_fdivc, bin_mod, bin_addL, cmp_lt, cmp_le, cmp_gt, cmp_ge, cmp_isN, cmp_isnN, isNon_non, isNon_int, isNon_tup, isNon_lst, isNon_ref, isNon_bl, cmp_eqI, cmp_neI, cmp_eq, cmp_ne, cmpEq_n, eqD_if, own_ref, der_ref, id_b, own_lst, own_tup, own_non, own_bl, own_int, own_str, der_lst, der_tup, der_non, der_int, der_bl, der_str, isD_int, isD_bl, isD_non, isD_bstr, isD_tup, isD_lst, eqv_int, eqv_bl, eqv_non, eqv_str, eqv_lst, eqv_tup, eqvs_nil, eqvs_nc, eqvs_cn, eqvs_cc, eqvs_n, eqv_ni, eqv_in, bc_int, bc_abs, bc_max, bc_min, bc_divmod, bc_len, bc_lenF, bc_lenT, bc_list, bc_listT, bc_tuple, rep_bl, ix_lst, ix_tup, ix_frz, at_0, at_1, at_2, at_3, at_4, slc_lst, rev_lst, fldU, setFld, methOf, putF, isiU, isOne, tyName, thaw, isFr, Mi.tgsL, List.contains_cons, List.contains_nil, List.length_cons, List.length_nil, List.length_append, List.length_map, List.set_cons_zero, List.set_cons_succ, List.lookup_cons, List.lookup_nil, Option.map_some, Bool.not_true, Bool.not_false, Nat.reduceBEq, Nat.reduceEqDiff, Nat.reduceAdd, Nat.reduceLT, Int.reduceEq, Int.reduceNe, Int.reduceLT, Int.reduceLE, if_true, if_false, reduceIte, decide_true, decide_false, decide_eq_true_eq, Bool.false_eq_true, Bool.and_true, Bool.true_and, Bool.and_false, Bool.false_and, Bool.or_true, Bool.or_false, Bool.true_or, Bool.false_or, beq_self_eq_true, Nat.zero_add, List.nil_append, List.isEmpty_nil, List.isEmpty_cons, and_self, true_and, and_true, eq_self, bt_beq, reduceCtorEq, List.set_set, List.all_nil, List.all_cons, List.all_append, set_app, get_app_eq, cut_tl, List.length_set, len_ref_a, list_ref_a, seq_ref_a, lsf_ref_a, dic_ref_a, lst_ref_a, seq_lst, seq_tup, lsf_lst, ix_ref_a, slc_ref_a, rev_ref_a, app_ref_a, appX_l, setIx_ref_a, bin_addX, addU, lstU, List.getElem?_set_ne, List.getElem?_set_self, List.getElem?_append_left, get_app_len, set_app_len, cs0, mk0, e]) S1.asd⟩ (by omega) fun S' => ?_
        · have e5 : (es.set r.toNat (k, true)).map Prod.fst = es.map Prod.fst := map_set_same bb rfl
          simp -dsimp (maxSteps := 1000000) (disch := first | assumption | omega | (simp only [List.length_cons, List.length_nil, List.length_append, List.length_map, List.length_take, List.length_drop, List.length_set, List.length_range, List.length_reverse] <;> omega) | rfl | decide) only [OkS_cons, OkS_nil, OkS_nx, OkS_rt, OkS_bk, OkS_ct, OkS_toS, OkS_if, Ok_bind, Ok_bindN, Ok_nx, Ok_ok, Ok_ofS, S_expr, S_asg, S_ret, S_retN, S_pass, S_brk, S_cont, S_for, S_par, par2, par3, cst_int, cst_non, cst_bl, cst_str, ofW, ofWs, E_cst, E_glo, E_var, E_mut, E_bin, E_neg, E_not, E_cmp, E_fld, E_ix, E_rev, E_slc, E_lst, E_tup, E_dic0, E_call, E_make, E_meth, E_callv, E_bc, E_bm, bmX_l, bmX_d, kindU_ref, E_isi, E_rngL, E_sset, E_comp, evEs, T_cst, T_glo, T_var, T_bin, T_neg, T_fld, T_ix, T_rev, T_slc, T_lst, T_tup, T_call, T_make, T_meth, T_callv, T_bc, T_bm, T_isi, T_comp, T_not, T_and, T_or, T_ife, T_cmp, T_cmp2, isB_bl, E_and, E_or, E_ife, E_cmp2, evO, evC, evI, evG, evGs, wipeS, permU, calN_call, calN_cs, getS_0, getS_s, newL_c, newT_c, tru_bl, tru_int, tru_non, tru_lst, tru_tup, bin_add, bin_sub, bin_mulc, bin_fdivc, bin_mod, bin_addL, cmp_lt, cmp_le, cmp_gt, cmp_ge, cmp_isN, cmp_isnN, isNon_non, isNon_int, isNon_tup, isNon_lst, isNon_ref, isNon_bl, cmp_eqI, cmp_neI, cmp_eq, cmp_ne, cmpEq_n, eqD_if, own_ref, der_ref, id_b, own_lst, own_tup, own_non, own_bl, own_int, own_str, der_lst, der_tup, der_non, der_int, der_bl, der_str, isD_int, isD_bl, isD_non, isD_bstr, isD_tup, isD_lst, eqv_int, eqv_bl, eqv_non, eqv_str, eqv_lst, eqv_tup, eqvs_nil, eqvs_nc, eqvs_cn, eqvs_cc, eqvs_n, eqv_ni, eqv_in, bc_int, bc_abs, bc_max, bc_min, bc_divmod, bc_len, bc_lenF, bc_lenT, bc_list, bc_listT, bc_tuple, rep_bl, ix_lst, ix_tup, ix_frz, at_0, at_1, at_2, at_3, at_4, slc_lst, rev_lst, fldU, setFld, methOf, putF, isiU, isOne, tyName, thaw, isFr, Mi.tgsL, List.contains_cons, List.contains_nil, List.length_cons, List.length_nil, List.length_append, List.length_map, List.set_cons_zero, List.set_cons_succ, List.lookup_cons, List.lookup_nil, Option.map_some, Bool.not_true, Bool.not_false, Nat.reduceBEq, Nat.reduceEqDiff, Nat.reduceAdd, Nat.reduceLT, Int.reduceEq, Int.reduceNe, Int.reduceLT, Int.reduceLE, if_true, if_false, reduceIte, decide_true, decide_false, decide_eq_true_eq, Bool.false_eq_true, Bool.and_true, Bool.true_and, Bool.and_false, Bool.false_and, Bool.or_true, Bool.or_false, Bool.true_or, Bool.false_or, beq_self_eq_true, Nat.zero_add, List.nil_append, List.isEmpty_nil, List.isEmpty_cons, and_self, true_and, and_true, eq_self, bt_beq, reduceCtorEq, List.set_set, List.all_nil, List.all_cons, List.all_append, set_app, get_app_eq, cut_tl, List.length_set, len_ref_a, list_ref_a, seq_ref_a, lsf_ref_a, dic_ref_a, lst_ref_a, seq_lst, seq_tup, lsf_lst, ix_ref_a, slc_ref_a, rev_ref_a, app_ref_a, appX_l, setIx_ref_a, bin_addX, addU, lstU, List.getElem?_set_ne, List.getElem?_set_self, List.getElem?_append_left, get_app_len, set_app_len, cs0, mk0]
          have e4 : thL (es.set r.toNat (k, true)) = thL es := map_set_same bb rfl
          rw [e4, show (first + r - first).toNat = r.toNat by omega]
          simp [List.map_set]
        · simp -dsimp (maxSteps := 1000000) (disch := first | assumption | omega | (simp only [List.length_cons, List.length_nil, List.length_append, List.length_map, List.length_take, List.length_drop, List.length_set, List.length_range, List.length_reverse] <;> omega) | rfl | decide) only [OkS_cons, OkS_nil, OkS_nx, OkS_rt, OkS_bk, OkS_ct, OkS_toS, OkS_if, Ok_bind, Ok_bindN, Ok_nx, Ok_ok, Ok_ofS, S_expr, S_asg, S_ret, S_retN, S_pass, S_brk, S_cont, S_for, S_par, par2, par3, cst_int, cst_non, cst_bl, cst_str, ofW, ofWs, E_cst, E_glo, E_var, E_mut, E_bin, E_neg, E_not, E_cmp, E_fld, E_ix, E_rev, E_slc, E_lst, E_tup, E_dic0, E_call, E_make, E_meth, E_callv, E_bc, E_bm, bmX_l, bmX_d, kindU_ref, E_isi, E_rngL, E_sset, E_comp, evEs, T_cst, T_glo, T_var, T_bin, T_neg, T_fld, T_ix, T_rev, T_slc, T_lst, T_tup, T_call, T_make, T_meth, T_callv, T_bc, T_bm, T_isi, T_comp, T_not, T_and, T_or, T_ife, T_cmp, T_cmp2, isB_bl, E_and, E_or, E_ife, E_cmp2, evO, evC, evI, evG, evGs, wipeS, permU, calN_call, calN_cs, getS_0, getS_s, newL_c, newT_c, tru_bl, tru_int, tru_non, tru_lst, tru_tup, bin_add, bin_sub, bin_mulc, bin_fdivc, bin_mod, bin_addL, cmp_lt, cmp_le, cmp_gt, cmp_ge, cmp_isN, cmp_isnN, isNon_non, isNon_int, isNon_tup, isNon_lst, isNon_ref, isNon_bl, cmp_eqI, cmp_neI, cmp_eq, cmp_ne, cmpEq_n, eqD_if, own_ref, der_ref, id_b, own_lst, own_tup, own_non, own_bl, own_int, own_str, der_lst, der_tup, der_non, der_int, der_bl, der_str, isD_int, isD_bl, isD_non, isD_bstr, isD_tup, isD_lst, eqv_int, eqv_bl, eqv_non, eqv_str, eqv_lst, eqv_tup, eqvs_nil, eqvs_nc, eqvs_cn, eqvs_cc, eqvs_n, eqv_ni, eqv_in, bc_int, bc_abs, bc_max, bc_min, bc_divmod, bc_len, bc_lenF, bc_lenT, bc_list, bc_listT, bc_tuple, rep_bl, ix_lst, ix_tup, ix_frz, at_0, at_1, at_2, at_3, at_4, slc_lst, rev_lst, fldU, setFld, methOf, putF, isiU, isOne, tyName, thaw, isFr, Mi.tgsL, List.contains_cons, List.contains_nil, List.length_cons, List.length_nil, List.length_append, List.length_map, List.set_cons_zero, List.set_cons_succ, List.lookup_cons, List.lookup_nil, Option.map_some, Bool.not_true, Bool.not_false, Nat.reduceBEq, Nat.reduceEqDiff, Nat.reduceAdd, Nat.reduceLT, Int.reduceEq, Int.reduceNe, Int.reduceLT, Int.reduceLE, if_true, if_false, reduceIte, decide_true, decide_false, decide_eq_true_eq, Bool.false_eq_true, Bool.and_true, Bool.true_and, Bool.and_false, Bool.false_and, Bool.or_true, Bool.or_false, Bool.true_or, Bool.false_or, beq_self_eq_true, Nat.zero_add, List.nil_append, List.isEmpty_nil, List.isEmpty_cons, and_self, true_and, and_true, eq_self, bt_beq, reduceCtorEq, List.set_set, List.all_nil, List.all_cons, List.all_append, set_app, get_app_eq, cut_tl, List.length_set, len_ref_a, list_ref_a, seq_ref_a, lsf_ref_a, dic_ref_a, lst_ref_a, seq_lst, seq_tup, lsf_lst, ix_ref_a, slc_ref_a, rev_ref_a, app_ref_a, appX_l, setIx_ref_a, bin_addX, addU, lstU, List.getElem?_set_ne, List.getElem?_set_self, List.getElem?_append_left, get_app_len, set_app_len, cs0, mk0]
          simp [List.map_set]
        · have e5 : (es.set r.toNat (k, true)).map Prod.fst = es.map Prod.fst := map_set_same bb rfl
          simp -dsimp (maxSteps := 1000000) (disch := first | assumption | omega | (simp only [List.length_cons, List.length_nil, List.length_append, List.length_map, List.length_take, List.length_drop, List.length_set, List.length_range, List.length_reverse] <;> omega) | rfl | decide) only [OkS_cons, OkS_nil, OkS_nx, OkS_rt, OkS_bk, OkS_ct, OkS_toS, OkS_if, Ok_bind, Ok_bindN, Ok_nx, Ok_ok, Ok_ofS, S_expr, S_asg, S_ret, S_retN, S_pass, S_brk, S_cont, S_for, S_par, par2, par3, cst_int, cst_non, cst_bl, cst_str, ofW, ofWs, E_cst, E_glo, E_var, E_mut, E_bin, E_neg, E_not, E_cmp, E_fld, E_ix, E_rev, E_slc, E_lst, E_tup, E_dic0, E_call, E_make, E_meth, E_callv, E_bc, E_bm, bmX_l, bmX_d, kindU_ref, E_isi, E_rngL, E_sset, E_comp, evEs, T_cst, T_glo, T_var, T_bin, T_neg, T_fld, T_ix, T_rev, T_slc, T_lst, T_tup, T_call, T_make, T_meth, T_callv, T_bc, T_bm, T_isi, T_comp, T_not, T_and, T_or, T_ife, T_cmp, T_cmp2, isB_bl, E_and, E_or, E_ife, E_cmp2, evO, evC, evI, evG, evGs, wipeS, permU, calN_call, calN_cs, getS_0, getS_s, newL_c, newT_c, tru_bl, tru_int, tru_non, tru_lst, tru_tup, bin_add, bin_sub, bin_mulc, bin_fdivc, bin_mod, bin_addL, cmp_lt, cmp_le, cmp_gt, cmp_ge, cmp_isN, cmp_isnN, isNon_non, isNon_int, isNon_tup, isNon_lst, isNon_ref, isNon_bl, cmp_eqI, cmp_neI, cmp_eq, cmp_ne, cmpEq_n, eqD_if, own_ref, der_ref, id_b, own_lst, own_tup, own_non, own_bl, own_int, own_str, der_lst, der_tup, der_non, der_int, der_bl, der_str, isD_int, isD_bl, isD_non, isD_bstr, isD_tup, isD_lst, eqv_int, eqv_bl, eqv_non, eqv_str, eqv_lst, eqv_tup, eqvs_nil, eqvs_nc, eqvs_cn, eqvs_cc, eqvs_n, eqv_ni, eqv_in, bc_int, bc_abs, bc_max, bc_min, bc_divmod, bc_len, bc_lenF, bc_lenT, bc_list, bc_listT, bc_tuple, rep_bl, ix_lst, ix_tup, ix_frz, at_0, at_1, at_2, at_3, at_4, slc_lst, rev_lst, fldU, setFld, methOf, putF, isiU, isOne, tyName, thaw, isFr, Mi.tgsL, List.contains_cons, List.contains_nil, List.length_cons, List.length_nil, List.length_append, List.length_map, List.set_cons_zero, List.set_cons_succ, List.lookup_cons, List.lookup_nil, Option.map_some, Bool.not_true, Bool.not_false, Nat.reduceBEq, Nat.reduceEqDiff, Nat.reduceAdd, Nat.reduceLT, Int.reduceEq, Int.reduceNe, Int.reduceLT, Int.reduceLE, if_true, if_false, reduceIte, decide_true, decide_false, decide_eq_true_eq, Bool.false_eq_true, Bool.and_true, Bool.true_and, Bool.and_false, Bool.false_and, Bool.or_true, Bool.or_false, Bool.true_or, Bool.false_or, beq_self_eq_true, Nat.zero_add, List.nil_append, List.isEmpty_nil, List.isEmpty_cons, and_self, true_and, and_true, eq_self, bt_beq, reduceCtorEq, List.set_set, List.all_nil, List.all_cons, List.all_append, set_app, get_app_eq, cut_tl, List.length_set, len_ref_a, list_ref_a, seq_ref_a, lsf_ref_a, dic_ref_a, lst_ref_a, seq_lst, seq_tup, lsf_lst, ix_ref_a, slc_ref_a, rev_ref_a, app_ref_a, appX_l, setIx_ref_a, bin_addX, addU, lstU, List.getElem?_set_ne, List.getElem?_set_self, List.getElem?_append_left, get_app_len, set_app_len, cs0, mk0, S1.en]
          rw [e5]
        · have e5 : (es.set r.toNat (k, true)).map Prod.fst = es.map Prod.fst := map_set_same bb rfl
          rw [e5]; exact S1.nd
        · have e5 : (es.set r.toNat (k, true)).map Prod.fst = es.map Prod.fst := map_set_same bb rfl
          rw [e5]; exact S1.ml
        · simp -dsimp (maxSteps := 1000000) (disch := first | assumption | omega | (simp only [List.length_cons, List.length_nil, List.length_append, List.length_map, List.length_take, List.length_drop, List.length_set, List.length_range, List.length_reverse] <;> omega) | rfl | decide) only [OkS_cons, OkS_nil, OkS_nx, OkS_rt, OkS_bk, OkS_ct, OkS_toS, OkS_if, Ok_bind, Ok_bindN, Ok_nx, Ok_ok, Ok_ofS, S_expr, S_asg, S_ret, S_retN, S_pass, S_brk, S_cont, S_for, S_par, par2, par3, cst_int, cst_non, cst_bl, cst_str, ofW, ofWs, E_cst, E_glo, E_var, E_mut, E_bin, E_neg, E_not, E_cmp, E_fld, E_ix, E_rev, E_slc, E_lst, E_tup, E_dic0, E_call, E_make, E_meth, E_callv, E_bc, E_bm, bmX_l, bmX_d, kindU_ref, E_isi, E_rngL, E_sset, E_comp, evEs, T_cst, T_glo, T_var, T_bin, T_neg, T_fld, T_ix, T_rev, T_slc, T_lst, T_tup, T_call, T_make, T_meth, T_callv, T_bc, T_bm, T_isi, T_comp, T_not, T_and, T_or, T_ife, T_cmp, T_cmp2, isB_bl, E_and, E_or, E_ife, E_cmp2, evO, evC, evI, evG, evGs, wipeS, permU, calN_call, calN_cs, getS_0, getS_s, newL_c, newT_c, tru_bl, tru_int, tru_non, tru_lst, tru_tup, bin_add, bin_sub, bin_mulc, bin_fdivc, bin_mod, bin_addL, cmp_lt, cmp_le, cmp_gt, cmp_ge, cmp_isN, cmp_isnN, isNon_non, isNon_int, isNon_tup, isNon_lst, isNon_ref, isNon_bl, cmp_eqI, cmp_neI, cmp_eq, cmp_ne, cmpEq_n, eqD_if, own_ref, der_ref, id_b, own_lst, own_tup, own_non, own_bl, own_int, own_str, der_lst, der_tup, der_non, der_int, der_bl, der_str, isD_int, isD_bl, isD_non, isD_bstr, isD_tup, isD_lst, eqv_int, eqv_bl, eqv_non, eqv_str, eqv_lst, eqv_tup, eqvs_nil, eqvs_nc, eqvs_cn, eqvs_cc, eqvs_n, eqv_ni, eqv_in, bc_int, bc_abs, bc_max, bc_min, bc_divmod, bc_len, bc_lenF, bc_lenT, bc_list, bc_listT, bc_tuple, rep_bl, ix_lst, ix_tup, ix_frz, at_0, at_1, at_2, at_3, at_4, slc_lst, rev_lst, fldU, setFld, methOf, putF, isiU, isOne, tyName, thaw, isFr, Mi.tgsL, List.contains_cons, List.contains_nil, List.length_cons, List.length_nil, List.length_append, List.length_map, List.set_cons_zero, List.set_cons_succ, List.lookup_cons, List.lookup_nil, Option.map_some, Bool.not_true, Bool.not_false, Nat.reduceBEq, Nat.reduceEqDiff, Nat.reduceAdd, Nat.reduceLT, Int.reduceEq, Int.reduceNe, Int.reduceLT, Int.reduceLE, if_true, if_false, reduceIte, decide_true, decide_false, decide_eq_true_eq, Bool.false_eq_true, Bool.and_true, Bool.true_and, Bool.and_false, Bool.false_and, Bool.or_true, Bool.or_false, Bool.true_or, Bool.false_or, beq_self_eq_true, Nat.zero_add, List.nil_append, List.isEmpty_nil, List.isEmpty_cons, and_self, true_and, and_true, eq_self, bt_beq, reduceCtorEq, List.set_set, List.all_nil, List.all_cons, List.all_append, set_app, get_app_eq, cut_tl, List.length_set, len_ref_a, list_ref_a, seq_ref_a, lsf_ref_a, dic_ref_a, lst_ref_a, seq_lst, seq_tup, lsf_lst, ix_ref_a, slc_ref_a, rev_ref_a, app_ref_a, appX_l, setIx_ref_a, bin_addX, addU, lstU, List.getElem?_set_ne, List.getElem?_set_self, List.getElem?_append_left, get_app_len, set_app_len, cs0, mk0]
          exact q _ _ _ _ _ _ _ _ S' ⟨_, _, _, _, _, _, _, rfl⟩
  · rcases es with _ | ⟨⟨k, b1⟩, es⟩
    · simp -dsimp (maxSteps := 1000000) (disch := first | assumption | omega | (simp only [List.length_cons, List.length_nil, List.length_append, List.length_map, List.length_take, List.length_drop, List.length_set, List.length_range, List.length_reverse] <;> omega) | rfl | decide) only [OkS_cons, OkS_nil, OkS_nx, OkS_rt, OkS_bk, OkS_ct, OkS_toS, OkS_if, Ok_bind, Ok_bindN, Ok_nx, Ok_ok, Ok_ofS, S_expr, S_asg, S_ret, S_retN, S_pass, S_brk, S_cont, S_for, S_par, par2, par3, cst_int, cst_non, cst_bl, cst_str, ofW, ofWs, E_cst, E_glo, E_var, E_mut, E_bin, E_neg, E_not, E_cmp, E_fld, E_ix, E_rev, E_slc, E_lst, E_tup, E_dic0, E_call, E_make, E_meth, E_callv, E_bc, E_bm, bmX_l, bmX_d, kindU_ref, E_isi, E_rngL, E_sset, E_comp, evEs, T_cst, T_glo, T_var, T_bin, T_neg, T_fld, T_ix, T_rev, T_slc, T_lst, T_tup, T_call, T_make, T_meth, T_callv, T_bc, T_bm, T_isi, T_comp, T_not, T_and, T_or, T_ife, T_cmp, T_cmp2, isB_bl, E_and, E_or, E_ife, E_cmp2, evO, evC, evI, evG, evGs, wipeS, permU, calN_call, calN_cs, getS_0, getS_s, newL_c, newT_c, tru_bl, tru_int, tru_non, tru_lst, tru_tup, bin_add, bin_sub, bin_mulc, bin_fdivc, bin_mod, bin_addL, cmp_lt, cmp_le, cmp_gt, cmp_ge, cmp_isN, cmp_isnN, isNon_non, isNon_int, isNon_tup, isNon_lst, isNon_ref, isNon_bl, cmp_eqI, cmp_neI, cmp_eq, cmp_ne, cmpEq_n, eqD_if, own_ref, der_ref, id_b, own_lst, own_tup, own_non, own_bl, own_int, own_str, der_lst, der_tup, der_non, der_int, der_bl, der_str, isD_int, isD_bl, isD_non, isD_bstr, isD_tup, isD_lst, eqv_int, eqv_bl, eqv_non, eqv_str, eqv_lst, eqv_tup, eqvs_nil, eqvs_nc, eqvs_cn, eqvs_cc, eqvs_n, eqv_ni, eqv_in, bc_int, bc_abs, bc_max, bc_min, bc_divmod, bc_len, bc_lenF, bc_lenT, bc_list, bc_listT, bc_tuple, rep_bl, ix_lst, ix_tup, ix_frz, at_0, at_1, at_2, at_3, at_4, slc_lst, rev_lst, fldU, setFld, methOf, putF, isiU, isOne, tyName, thaw, isFr, Mi.tgsL, List.contains_cons, List.contains_nil, List.length_cons, List.length_nil, List.length_append, List.length_map, List.set_cons_zero, List.set_cons_succ, List.lookup_cons, List.lookup_nil, Option.map_some, Bool.not_true, Bool.not_false, Nat.reduceBEq, Nat.reduceEqDiff, Nat.reduceAdd, Nat.reduceLT, Int.reduceEq, Int.reduceNe, Int.reduceLT, Int.reduceLE, if_true, if_false, reduceIte, decide_true, decide_false, decide_eq_true_eq, Bool.false_eq_true, Bool.and_true, Bool.true_and, Bool.and_false, Bool.false_and, Bool.or_true, Bool.or_false, Bool.true_or, Bool.false_or, beq_self_eq_true, Nat.zero_add, List.nil_append, List.isEmpty_nil, List.isEmpty_cons, and_self, true_and, and_true, eq_self, bt_beq, reduceCtorEq, List.set_set, List.all_nil, List.all_cons, List.all_append, set_app, get_app_eq, cut_tl, List.length_set, len_ref_a, list_ref_a, seq_ref_a, lsf_ref_a, dic_ref_a, lst_ref_a, seq_lst, seq_tup, lsf_lst, ix_ref_a, slc_ref_a, rev_ref_a, app_ref_a, appX_l, setIx_ref_a, bin_addX, addU, lstU, List.getElem?_set_ne, List.getElem?_set_self, List.getElem?_append_left, get_app_len, set_app_len, cs0, mk0, S.ow, List.map_nil]
      refine St.go (i := i + 1) many first made [] lefts o as S0 (by omega) fun _ => ?_
      simp -dsimp (maxSteps := 1000000) (disch := first | assumption | omega | (simp only [List.length_cons, List.length_nil, List.length_append, List.length_map, List.length_take, List.length_drop, List.length_set, List.length_range, List.length_reverse] <;> omega) | rfl | decide) only [OkS_cons, OkS_nil, OkS_nx, OkS_rt, OkS_bk, OkS_ct, OkS_toS, OkS_if, Ok_bind, Ok_bindN, Ok_nx, Ok_ok, Ok_ofS, S_expr, S_asg, S_ret, S_retN, S_pass, S_brk, S_cont, S_for, S_par, par2, par3, cst_int, cst_non, cst_bl, cst_str, ofW, ofWs, E_cst, E_glo, E_var, E_mut, E_bin, E_neg, E_not, E_cmp, E_fld, E_ix, E_rev, E_slc, E_lst, E_tup, E_dic0, E_call, E_make, E_meth, E_callv, E_bc, E_bm, bmX_l, bmX_d, kindU_ref, E_isi, E_rngL, E_sset, E_comp, evEs, T_cst, T_glo, T_var, T_bin, T_neg, T_fld, T_ix, T_rev, T_slc, T_lst, T_tup, T_call, T_make, T_meth, T_callv, T_bc, T_bm, T_isi, T_comp, T_not, T_and, T_or, T_ife, T_cmp, T_cmp2, isB_bl, E_and, E_or, E_ife, E_cmp2, evO, evC, evI, evG, evGs, wipeS, permU, calN_call, calN_cs, getS_0, getS_s, newL_c, newT_c, tru_bl, tru_int, tru_non, tru_lst, tru_tup, bin_add, bin_sub, bin_mulc, bin_fdivc, bin_mod, bin_addL, cmp_lt, cmp_le, cmp_gt, cmp_ge, cmp_isN, cmp_isnN, isNon_non, isNon_int, isNon_tup, isNon_lst, isNon_ref, isNon_bl, cmp_eqI, cmp_neI, cmp_eq, cmp_ne, cmpEq_n, eqD_if, own_ref, der_ref, id_b, own_lst, own_tup, own_non, own_bl, own_int, own_str, der_lst, der_tup, der_non, der_int, der_bl, der_str, isD_int, isD_bl, isD_non, isD_bstr, isD_tup, isD_lst, eqv_int, eqv_bl, eqv_non, eqv_str, eqv_lst, eqv_tup, eqvs_nil, eqvs_nc, eqvs_cn, eqvs_cc, eqvs_n, eqv_ni, eqv_in, bc_int, bc_abs, bc_max, bc_min, bc_divmod, bc_len, bc_lenF, bc_lenT, bc_list, bc_listT, bc_tuple, rep_bl, ix_lst, ix_tup, ix_frz, at_0, at_1, at_2, at_3, at_4, slc_lst, rev_lst, fldU, setFld, methOf, putF, isiU, isOne, tyName, thaw, isFr, Mi.tgsL, List.contains_cons, List.contains_nil, List.length_cons, List.length_nil, List.length_append, List.length_map, List.set_cons_zero, List.set_cons_succ, List.lookup_cons, List.lookup_nil, Option.map_some, Bool.not_true, Bool.not_false, Nat.reduceBEq, Nat.reduceEqDiff, Nat.reduceAdd, Nat.reduceLT, Int.reduceEq, Int.reduceNe, Int.reduceLT, Int.reduceLE, if_true, if_false, reduceIte, decide_true, decide_false, decide_eq_true_eq, Bool.false_eq_true, Bool.and_true, Bool.true_and, Bool.and_false, Bool.false_and, Bool.or_true, Bool.or_false, Bool.true_or, Bool.false_or, beq_self_eq_true, Nat.zero_add, List.nil_append, List.isEmpty_nil, List.isEmpty_cons, and_self, true_and, and_true, eq_self, bt_beq, reduceCtorEq, List.set_set, List.all_nil, List.all_cons, List.all_append, set_app, get_app_eq, cut_tl, List.length_set, len_ref_a, list_ref_a, seq_ref_a, lsf_ref_a, dic_ref_a, lst_ref_a, seq_lst, seq_tup, lsf_lst, ix_ref_a, slc_ref_a, rev_ref_a, app_ref_a, appX_l, setIx_ref_a, bin_addX, addU, lstU, List.getElem?_set_ne, List.getElem?_set_self, List.getElem?_append_left, get_app_len, set_app_len, cs0, mk0]
      exact stay
    · have ol : (owL es).all (isD 11) = true := owD 8
      cases b1 with
      | false =>
        simp -dsimp (maxSteps := 1000000) (disch := first | assumption | omega | (simp only [List.length_cons, List.length_nil, List.length_append, List.length_map, List.length_take, List.length_drop, List.length_set, List.length_range, List.length_reverse] <;> omega) | rfl | decide) only [OkS_cons, OkS_nil, OkS_nx, OkS_rt, OkS_bk, OkS_ct, OkS_toS, OkS_if, Ok_bind, Ok_bindN, Ok_nx, Ok_ok, Ok_ofS, S_expr, S_asg, S_ret, S_retN, S_pass, S_brk, S_cont, S_for, S_par, par2, par3, cst_int, cst_non, cst_bl, cst_str, ofW, ofWs, E_cst, E_glo, E_var, E_mut, E_bin, E_neg, E_not, E_cmp, E_fld, E_ix, E_rev, E_slc, E_lst, E_tup, E_dic0, E_call, E_make, E_meth, E_callv, E_bc, E_bm, bmX_l, bmX_d, kindU_ref, E_isi, E_rngL, E_sset, E_comp, evEs, T_cst, T_glo, T_var, T_bin, T_neg, T_fld, T_ix, T_rev, T_slc, T_lst, T_tup, T_call, T_make, T_meth, T_callv, T_bc, T_bm, T_isi, T_comp, T_not, T_and, T_or, T_ife, T_cmp, T_cmp2, isB_bl, E_and, E_or, E_ife, E_cmp2, evO, evC, evI, evG, evGs, wipeS, permU, calN_call, calN_cs, getS_0, getS_s, newL_c, newT_c, tru_bl, tru_int, tru_non, tru_lst, tru_tup, bin_add, bin_sub, bin_mulc, bin_fdivc, bin_mod, bin_addL, cmp_lt, cmp_le, cmp_gt, cmp_ge, cmp_isN, cmp_isnN, isNon_non, isNon_int, isNon_tup, isNon_lst, isNon_ref, isNon_bl, cmp_eqI, cmp_neI, cmp_eq, cmp_ne, cmpEq_n, eqD_if, own_ref, der_ref, id_b, own_lst, own_tup, own_non, own_bl, own_int, own_str, der_lst, der_tup, der_non, der_int, der_bl, der_str, isD_int, isD_bl, isD_non, isD_bstr, isD_tup, isD_lst, eqv_int, eqv_bl, eqv_non, eqv_str, eqv_lst, eqv_tup, eqvs_nil, eqvs_nc, eqvs_cn, eqvs_cc, eqvs_n, eqv_ni, eqv_in, bc_int, bc_abs, bc_max, bc_min, bc_divmod, bc_len, bc_lenF, bc_lenT, bc_list, bc_listT, bc_tuple, rep_bl, ix_lst, ix_tup, ix_frz, at_0, at_1, at_2, at_3, at_4, slc_lst, rev_lst, fldU, setFld, methOf, putF, isiU, isOne, tyName, thaw, isFr, Mi.tgsL, List.contains_cons, List.contains_nil, List.length_cons, List.length_nil, List.length_append, List.length_map, List.set_cons_zero, List.set_cons_succ, List.lookup_cons, List.lookup_nil, Option.map_some, Bool.not_true, Bool.not_false, Nat.reduceBEq, Nat.reduceEqDiff, Nat.reduceAdd, Nat.reduceLT, Int.reduceEq, Int.reduceNe, Int.reduceLT, Int.reduceLE, if_true, if_false, reduceIte, decide_true, decide_false, decide_eq_true_eq, Bool.false_eq_true, Bool.and_true, Bool.true_and, Bool.and_false, Bool.false_and, Bool.or_true, Bool.or_false, Bool.true_or, Bool.false_or, beq_self_eq_true, Nat.zero_add, List.nil_append, List.isEmpty_nil, List.isEmpty_cons, and_self, true_and, and_true, eq_self, bt_beq, reduceCtorEq, List.set_set, List.all_nil, List.all_cons, List.all_append, set_app, get_app_eq, cut_tl, List.length_set, len_ref_a, list_ref_a, seq_ref_a, lsf_ref_a, dic_ref_a, lst_ref_a, seq_lst, seq_tup, lsf_lst, ix_ref_a, slc_ref_a, rev_ref_a, app_ref_a, appX_l, setIx_ref_a, bin_addX, addU, lstU, List.getElem?_set_ne, List.getElem?_set_self, List.getElem?_append_left, get_app_len, set_app_len, cs0, mk0, S.ow, List.map_cons, ol]
        refine St.go (i := i + 1) many first made _ lefts o as S0 (by omega) fun _ => ?_
        simp -dsimp (maxSteps := 1000000) (disch := first | assumption | omega | (simp only [List.length_cons, List.length_nil, List.length_append, List.length_map, List.length_take, List.length_drop, List.length_set, List.length_range, List.length_reverse] <;> omega) | rfl | decide) only [OkS_cons, OkS_nil, OkS_nx, OkS_rt, OkS_bk, OkS_ct, OkS_toS, OkS_if, Ok_bind, Ok_bindN, Ok_nx, Ok_ok, Ok_ofS, S_expr, S_asg, S_ret, S_retN, S_pass, S_brk, S_cont, S_for, S_par, par2, par3, cst_int, cst_non, cst_bl, cst_str, ofW, ofWs, E_cst, E_glo, E_var, E_mut, E_bin, E_neg, E_not, E_cmp, E_fld, E_ix, E_rev, E_slc, E_lst, E_tup, E_dic0, E_call, E_make, E_meth, E_callv, E_bc, E_bm, bmX_l, bmX_d, kindU_ref, E_isi, E_rngL, E_sset, E_comp, evEs, T_cst, T_glo, T_var, T_bin, T_neg, T_fld, T_ix, T_rev, T_slc, T_lst, T_tup, T_call, T_make, T_meth, T_callv, T_bc, T_bm, T_isi, T_comp, T_not, T_and, T_or, T_ife, T_cmp, T_cmp2, isB_bl, E_and, E_or, E_ife, E_cmp2, evO, evC, evI, evG, evGs, wipeS, permU, calN_call, calN_cs, getS_0, getS_s, newL_c, newT_c, tru_bl, tru_int, tru_non, tru_lst, tru_tup, bin_add, bin_sub, bin_mulc, bin_fdivc, bin_mod, bin_addL, cmp_lt, cmp_le, cmp_gt, cmp_ge, cmp_isN, cmp_isnN, isNon_non, isNon_int, isNon_tup, isNon_lst, isNon_ref, isNon_bl, cmp_eqI, cmp_neI, cmp_eq, cmp_ne, cmpEq_n, eqD_if, own_ref, der_ref, id_b, own_lst, own_tup, own_non, own_bl, own_int, own_str, der_lst, der_tup, der_non, der_int, der_bl, der_str, isD_int, isD_bl, isD_non, isD_bstr, isD_tup, isD_lst, eqv_int, eqv_bl, eqv_non, eqv_str, eqv_lst, eqv_tup, eqvs_nil, eqvs_nc, eqvs_cn, eqvs_cc, eqvs_n, eqv_ni, eqv_in, bc_int, bc_abs, bc_max, bc_min, bc_divmod, bc_len, bc_lenF, bc_lenT, bc_list, bc_listT, bc_tuple, rep_bl, ix_lst, ix_tup, ix_frz, at_0, at_1, at_2, at_3, at_4, slc_lst, rev_lst, fldU, setFld, methOf, putF, isiU, isOne, tyName, thaw, isFr, Mi.tgsL, List.contains_cons, List.contains_nil, List.length_cons, List.length_nil, List.length_append, List.length_map, List.set_cons_zero, List.set_cons_succ, List.lookup_cons, List.lookup_nil, Option.map_some, Bool.not_true, Bool.not_false, Nat.reduceBEq, Nat.reduceEqDiff, Nat.reduceAdd, Nat.reduceLT, Int.reduceEq, Int.reduceNe, Int.reduceLT, Int.reduceLE, if_true, if_false, reduceIte, decide_true, decide_false, decide_eq_true_eq, Bool.false_eq_true, Bool.and_true, Bool.true_and, Bool.and_false, Bool.false_and, Bool.or_true, Bool.or_false, Bool.true_or, Bool.false_or, beq_self_eq_true, Nat.zero_add, List.nil_append, List.isEmpty_nil, List.isEmpty_cons, and_self, true_and, and_true, eq_self, bt_beq, reduceCtorEq, List.set_set, List.all_nil, List.all_cons, List.all_append, set_app, get_app_eq, cut_tl, List.length_set, len_ref_a, list_ref_a, seq_ref_a, lsf_ref_a, dic_ref_a, lst_ref_a, seq_lst, seq_tup, lsf_lst, ix_ref_a, slc_ref_a, rev_ref_a, app_ref_a, appX_l, setIx_ref_a, bin_addX, addU, lstU, List.getElem?_set_ne, List.getElem?_set_self, List.getElem?_append_left, get_app_len, set_app_len, cs0, mk0]
        exact stay
      | true =>
        have ob : g[1]? = some (.ins 0 [(0, .int many), (1, .int first), (2, .lst (.lst [.int k] :: thL es)), (3, .lst (.bl true :: dnL es))]) := S.ob
        simp -dsimp (maxSteps := 1000000) (disch := first | assumption | omega | (simp only [List.length_cons, List.length_nil, List.length_append, List.length_map, List.length_take, List.length_drop, List.length_set, List.length_range, List.length_reverse] <;> omega) | rfl | decide) only [OkS_cons, OkS_nil, OkS_nx, OkS_rt, OkS_bk, OkS_ct, OkS_toS, OkS_if, Ok_bind, Ok_bindN, Ok_nx, Ok_ok, Ok_ofS, S_expr, S_asg, S_ret, S_retN, S_pass, S_brk, S_cont, S_for, S_par, par2, par3, cst_int, cst_non, cst_bl, cst_str, ofW, ofWs, E_cst, E_glo, E_var, E_mut, E_bin, E_neg, E_not, E_cmp, E_fld, E_ix, E_rev, E_slc, E_lst, E_tup, E_dic0, E_call, E_make, E_meth, E_callv, E_bc, E_bm, bmX_l, bmX_d, kindU_ref, E_isi, E_rngL, E_sset, E_comp, evEs, T_cst, T_glo, T_var, T_bin, T_neg, T_fld, T_ix, T_rev, T_slc, T_lst, T_tup, T_call, T_make, T_meth, T_callv, T_bc, T_bm, T_isi, T_comp, T_not, T_and, T_or, T_ife, T_cmp, T_cmp2, isB_bl, E_and, E_or, E_ife, E_cmp2, evO, evC, evI, evG, evGs, wipeS, permU, calN_call, calN_cs, getS_0, getS_s, newL_c, newT_c, tru_bl, tru_int, tru_non, tru_lst, tru_tup, bin_add, bin_sub, bin_mulc, bin_fdivc, bin_mod, bin_addL, cmp_lt, cmp_le, cmp_gt, cmp_ge, cmp_isN, cmp_isnN, isNon_non, isNon_int, isNon_tup, isNon_lst, isNon_ref, isNon_bl, cmp_eqI, cmp_neI, cmp_eq, cmp_ne, cmpEq_n, eqD_if, own_ref, der_ref, id_b, own_lst, own_tup, own_non, own_bl, own_int, own_str, der_lst, der_tup, der_non, der_int, der_bl, der_str, isD_int, isD_bl, isD_non, isD_bstr, isD_tup, isD_lst, eqv_int, eqv_bl, eqv_non, eqv_str, eqv_lst, eqv_tup, eqvs_nil, eqvs_nc, eqvs_cn, eqvs_cc, eqvs_n, eqv_ni, eqv_in, bc_int, bc_abs, bc_max, bc_min, bc_divmod, bc_len, bc_lenF, bc_lenT, bc_list, bc_listT, bc_tuple, rep_bl, ix_lst, ix_tup, ix_frz, at_0, at_1, at_2, at_3, at_4, slc_lst, rev_lst, fldU, setFld, methOf, putF, isiU, isOne, tyName, thaw, isFr, Mi.tgsL, List.contains_cons, List.contains_nil, List.length_cons, List.length_nil, List.length_append, List.length_map, List.set_cons_zero, List.set_cons_succ, List.lookup_cons, List.lookup_nil, Option.map_some, Bool.not_true, Bool.not_false, Nat.reduceBEq, Nat.reduceEqDiff, Nat.reduceAdd, Nat.reduceLT, Int.reduceEq, Int.reduceNe, Int.reduceLT, Int.reduceLE, if_true, if_false, reduceIte, decide_true, decide_false, decide_eq_true_eq, Bool.false_eq_true, Bool.and_true, Bool.true_and, Bool.and_false, Bool.false_and, Bool.or_true, Bool.or_false, Bool.true_or, Bool.false_or, beq_self_eq_true, Nat.zero_add, List.nil_append, List.isEmpty_nil, List.isEmpty_cons, and_self, true_and, and_true, eq_self, bt_beq, reduceCtorEq, List.set_set, List.all_nil, List.all_cons, List.all_append, set_app, get_app_eq, cut_tl, List.length_set, len_ref_a, list_ref_a, seq_ref_a, lsf_ref_a, dic_ref_a, lst_ref_a, seq_lst, seq_tup, lsf_lst, ix_ref_a, slc_ref_a, rev_ref_a, app_ref_a, appX_l, setIx_ref_a, bin_addX, addU, lstU, List.getElem?_set_ne, List.getElem?_set_self, List.getElem?_append_left, get_app_len, set_app_len, cs0, mk0, S.ow, List.map_cons, ol, ob, left ob rfl rfl, S.lf]
        refine St.go (i := i + 1) many (first + 1) made es (lefts ++ [k]) _ as ⟨⟨a, b, by simp -dsimp (maxSteps := 1000000) (disch := first | assumption | omega | (simp only [List.length_cons, List.length_nil, List.length_append, List.length_map, List.length_take, List.length_drop, List.length_set, List.length_range, List.length_reverse] <;> omega) | rfl | decide) only [OkS_cons, OkS_nil, OkS_nx, OkS_rt, OkS_bk, OkS_ct, OkS_toS, OkS_if, Ok_bind, Ok_bindN, Ok_nx, Ok_ok, Ok_ofS, S_expr, S_asg, S_ret, S_retN, S_pass, S_brk, S_cont, S_for, S_par, par2, par3, cst_int, cst_non, cst_bl, cst_str, ofW, ofWs, E_cst, E_glo, E_var, E_mut, E_bin, E_neg, E_not, E_cmp, E_fld, E_ix, E_rev, E_slc, E_lst, E_tup, E_dic0, E_call, E_make, E_meth, E_callv, E_bc, E_bm, bmX_l, bmX_d, kindU_ref, E_isi, E_rngL, E_sset, E_comp, evEs, T_cst, T_glo, T_var, T_bin, T_neg, T_fld, T_ix, T_rev, T_slc, T_lst, T_tup, T_call, T_make, T_meth, T_callv, T_bc, T_bm, T_isi, T_comp, T_not, T_and, T_or, T_ife, T_cmp, T_cmp2, isB_bl, E_and, E_or, E_ife, E_cmp2, evO, evC, evI, evG, evGs, wipeS, permU, calN_call, calN_cs, getS_0, getS_s, newL_c, newT_c, tru_bl, tru_int, tru_non, tru_lst, tru_tup, bin_add, bin_sub, bin_mulc, bin_fdivc, bin_mod, bin_addL, cmp_lt, cmp_le, cmp_gt, cmp_ge, cmp_isN, cmp_isnN, isNon_non, isNon_int, isNon_tup, isNon_lst, isNon_ref, isNon_bl, cmp_eqI, cmp_neI, cmp_eq, cmp_ne, cmpEq_n, eqD_if, own_ref, der_ref, id_b, own_lst, own_tup, own_non, own_bl, own_int, own_str, der_lst, der_tup, der_non, der_int, der_bl, der_str, isD_int, isD_bl, isD_non, isD_bstr, isD_tup, isD_lst, eqv_int, eqv_bl, eqv_non, eqv_str, eqv_lst, eqv_tup, eqvs_nil, eqvs_nc, eqvs_cn, eqvs_cc, eqvs_n, eqv_ni, eqv_in, bc_int, bc_abs, bc_max, bc_min, bc_divmod, bc_len, bc_lenF, bc_lenT, bc_list, bc_listT, bc_tuple, rep_bl, ix_lst, ix_tup, ix_frz, at_0, at_1, at_2, at_3, at_4, slc_lst, rev_lst, fldU, setFld, methOf, putF, isiU, isOne, tyName, thaw, isFr, Mi.tgsL, List.contains_cons, List.contains_nil, List.length_cons, List.length_nil, List.length_append, List.length_map, List.set_cons_zero, List.set_cons_succ, List.lookup_cons, List.lookup_nil, Option.map_some, Bool.not_true, Bool.not_false, Nat.reduceBEq, Nat.reduceEqDiff, Nat.reduceAdd, Nat.reduceLT, Int.reduceEq, Int.reduceNe, Int.reduceLT, Int.reduceLE, if_true, if_false, reduceIte, decide_true, decide_false, decide_eq_true_eq, Bool.false_eq_true, Bool.and_true, Bool.true_and, Bool.and_false, Bool.false_and, Bool.or_true, Bool.or_false, Bool.true_or, Bool.false_or, beq_self_eq_true, Nat.zero_add, List.nil_append, List.isEmpty_nil, List.isEmpty_cons, and_self, true_and, and_true, eq_self, bt_beq, reduceCtorEq, List.set_set, List.all_nil, List.all_cons, List.all_append, set_app, get_app_eq, cut_tl, List.length_set, len_ref_a, list_ref_a, seq_ref_a, lsf_ref_a, dic_ref_a, lst_ref_a, seq_lst, seq_tup, lsf_lst, ix_ref_a, slc_ref_a, rev_ref_a, app_ref_a, appX_l, setIx_ref_a, bin_addX, addU, lstU, List.getElem?_set_ne, List.getElem?_set_self, List.getElem?_append_left, get_app_len, set_app_len, cs0, mk0, hp], hb⟩, ?_, ?_, by omega, ?_, ?_, ?_, ?_, by omega, by omega, by simp; omega, by simp at sz; omega, m0, ?_⟩ (by omega) fun S' => ?_
        · simp -dsimp (maxSteps := 1000000) (disch := first | assumption | omega | (simp only [List.length_cons, List.length_nil, List.length_append, List.length_map, List.length_take, List.length_drop, List.length_set, List.length_range, List.length_reverse] <;> omega) | rfl | decide) only [OkS_cons, OkS_nil, OkS_nx, OkS_rt, OkS_bk, OkS_ct, OkS_toS, OkS_if, Ok_bind, Ok_bindN, Ok_nx, Ok_ok, Ok_ofS, S_expr, S_asg, S_ret, S_retN, S_pass, S_brk, S_cont, S_for, S_par, par2, par3, cst_int, cst_non, cst_bl, cst_str, ofW, ofWs, E_cst, E_glo, E_var, E_mut, E_bin, E_neg, E_not, E_cmp, E_fld, E_ix, E_rev, E_slc, E_lst, E_tup, E_dic0, E_call, E_make, E_meth, E_callv, E_bc, E_bm, bmX_l, bmX_d, kindU_ref, E_isi, E_rngL, E_sset, E_comp, evEs, T_cst, T_glo, T_var, T_bin, T_neg, T_fld, T_ix, T_rev, T_slc, T_lst, T_tup, T_call, T_make, T_meth, T_callv, T_bc, T_bm, T_isi, T_comp, T_not, T_and, T_or, T_ife, T_cmp, T_cmp2, isB_bl, E_and, E_or, E_ife, E_cmp2, evO, evC, evI, evG, evGs, wipeS, permU, calN_call, calN_cs, getS_0, getS_s, newL_c, newT_c, tru_bl, tru_int, tru_non, tru_lst, tru_tup, bin_add, bin_sub, bin_mulc, bin_fdivc, bin_mod, bin_addL, cmp_lt, cmp_le, cmp_gt, cmp_ge, cmp_isN, cmp_isnN, isNon_non, isNon_int, isNon_tup, isNon_lst, isNon_ref, isNon_bl, cmp_eqI, cmp_neI, cmp_eq, cmp_ne, cmpEq_n, eqD_if, own_ref, der_ref, id_b, own_lst, own_tup, own_non, own_bl, own_int, own_str, der_lst, der_tup, der_non, der_int, der_bl, der_str, isD_int, isD_bl, isD_non, isD_bstr, isD_tup, isD_lst, eqv_int, eqv_bl, eqv_non, eqv_str, eqv_lst, eqv_tup, eqvs_nil, eqvs_nc, eqvs_cn, eqvs_cc, eqvs_n, eqv_ni, eqv_in, bc_int, bc_abs, bc_max, bc_min, bc_divmod, bc_len, bc_lenF, bc_lenT, bc_list, bc_listT, bc_tuple, rep_bl, ix_lst, ix_tup, ix_frz, at_0, at_1, at_2, at_3, at_4, slc_lst, rev_lst, fldU, setFld, methOf, putF, isiU, isOne, tyName, thaw, isFr, Mi.tgsL, List.contains_cons, List.contains_nil, List.length_cons, List.length_nil, List.length_append, List.length_map, List.set_cons_zero, List.set_cons_succ, List.lookup_cons, List.lookup_nil, Option.map_some, Bool.not_true, Bool.not_false, Nat.reduceBEq, Nat.reduceEqDiff, Nat.reduceAdd, Nat.reduceLT, Int.reduceEq, Int.reduceNe, Int.reduceLT, Int.reduceLE, if_true, if_false, reduceIte, decide_true, decide_false, decide_eq_true_eq, Bool.false_eq_true, Bool.and_true, Bool.true_and, Bool.and_false, Bool.false_and, Bool.or_true, Bool.or_false, Bool.true_or, Bool.false_or, beq_self_eq_true, Nat.zero_add, List.nil_append, List.isEmpty_nil, List.isEmpty_cons, and_self, true_and, and_true, eq_self, bt_beq, reduceCtorEq, List.set_set, List.all_nil, List.all_cons, List.all_append, set_app, get_app_eq, cut_tl, List.length_set, len_ref_a, list_ref_a, seq_ref_a, lsf_ref_a, dic_ref_a, lst_ref_a, seq_lst, seq_tup, lsf_lst, ix_ref_a, slc_ref_a, rev_ref_a, app_ref_a, appX_l, setIx_ref_a, bin_addX, addU, lstU, List.getElem?_set_ne, List.getElem?_set_self, List.getElem?_append_left, get_app_len, set_app_len, cs0, mk0]
        · simp -dsimp (maxSteps := 1000000) (disch := first | assumption | omega | (simp only [List.length_cons, List.length_nil, List.length_append, List.length_map, List.length_take, List.length_drop, List.length_set, List.length_range, List.length_reverse] <;> omega) | rfl | decide) only [OkS_cons, OkS_nil, OkS_nx, OkS_rt, OkS_bk, OkS_ct, OkS_toS, OkS_if, Ok_bind, Ok_bindN, Ok_nx, Ok_ok, Ok_ofS, S_expr, S_asg, S_ret, S_retN, S_pass, S_brk, S_cont, S_for, S_par, par2, par3, cst_int, cst_non, cst_bl, cst_str, ofW, ofWs, E_cst, E_glo, E_var, E_mut, E_bin, E_neg, E_not, E_cmp, E_fld, E_ix, E_rev, E_slc, E_lst, E_tup, E_dic0, E_call, E_make, E_meth, E_callv, E_bc, E_bm, bmX_l, bmX_d, kindU_ref, E_isi, E_rngL, E_sset, E_comp, evEs, T_cst, T_glo, T_var, T_bin, T_neg, T_fld, T_ix, T_rev, T_slc, T_lst, T_tup, T_call, T_make, T_meth, T_callv, T_bc, T_bm, T_isi, T_comp, T_not, T_and, T_or, T_ife, T_cmp, T_cmp2, isB_bl, E_and, E_or, E_ife, E_cmp2, evO, evC, evI, evG, evGs, wipeS, permU, calN_call, calN_cs, getS_0, getS_s, newL_c, newT_c, tru_bl, tru_int, tru_non, tru_lst, tru_tup, bin_add, bin_sub, bin_mulc, bin_fdivc, bin_mod, bin_addL, cmp_lt, cmp_le, cmp_gt, cmp_ge, cmp_isN, cmp_isnN, isNon_non, isNon_int, isNon_tup, isNon_lst, isNon_ref, isNon_bl, cmp_eqI, cmp_neI, cmp_eq, cmp_ne, cmpEq_n, eqD_if, own_ref, der_ref, id_b, own_lst, own_tup, own_non, own_bl, own_int, own_str, der_lst, der_tup, der_non, der_int, der_bl, der_str, isD_int, isD_bl, isD_non, isD_bstr, isD_tup, isD_lst, eqv_int, eqv_bl, eqv_non, eqv_str, eqv_lst, eqv_tup, eqvs_nil, eqvs_nc, eqvs_cn, eqvs_cc, eqvs_n, eqv_ni, eqv_in, bc_int, bc_abs, bc_max, bc_min, bc_divmod, bc_len, bc_lenF, bc_lenT, bc_list, bc_listT, bc_tuple, rep_bl, ix_lst, ix_tup, ix_frz, at_0, at_1, at_2, at_3, at_4, slc_lst, rev_lst, fldU, setFld, methOf, putF, isiU, isOne, tyName, thaw, isFr, Mi.tgsL, List.contains_cons, List.contains_nil, List.length_cons, List.length_nil, List.length_append, List.length_map, List.set_cons_zero, List.set_cons_succ, List.lookup_cons, List.lookup_nil, Option.map_some, Bool.not_true, Bool.not_false, Nat.reduceBEq, Nat.reduceEqDiff, Nat.reduceAdd, Nat.reduceLT, Int.reduceEq, Int.reduceNe, Int.reduceLT, Int.reduceLE, if_true, if_false, reduceIte, decide_true, decide_false, decide_eq_true_eq, Bool.false_eq_true, Bool.and_true, Bool.true_and, Bool.and_false, Bool.false_and, Bool.or_true, Bool.or_false, Bool.true_or, Bool.false_or, beq_self_eq_true, Nat.zero_add, List.nil_append, List.isEmpty_nil, List.isEmpty_cons, and_self, true_and, and_true, eq_self, bt_beq, reduceCtorEq, List.set_set, List.all_nil, List.all_cons, List.all_append, set_app, get_app_eq, cut_tl, List.length_set, len_ref_a, list_ref_a, seq_ref_a, lsf_ref_a, dic_ref_a, lst_ref_a, seq_lst, seq_tup, lsf_lst, ix_ref_a, slc_ref_a, rev_ref_a, app_ref_a, appX_l, setIx_ref_a, bin_addX, addU, lstU, List.getElem?_set_ne, List.getElem?_set_self, List.getElem?_append_left, get_app_len, set_app_len, cs0, mk0]
        · simp -dsimp (maxSteps := 1000000) (disch := first | assumption | omega | (simp only [List.length_cons, List.length_nil, List.length_append, List.length_map, List.length_take, List.length_drop, List.length_set, List.length_range, List.length_reverse] <;> omega) | rfl | decide) only [OkS_cons, OkS_nil, OkS_nx, OkS_rt, OkS_bk, OkS_ct, OkS_toS, OkS_if, Ok_bind, Ok_bindN, Ok_nx, Ok_ok, Ok_ofS, S_expr, S_asg, S_ret, S_retN, S_pass, S_brk, S_cont, S_for, S_par, par2, par3, cst_int, cst_non, cst_bl, cst_str, ofW, ofWs, E_cst, E_glo, E_var, E_mut, E_bin, E_neg, E_not, E_cmp, E_fld, E_ix, E_rev, E_slc, E_lst, E_tup, E_dic0, E_call, E_make, E_meth, E_callv, E_bc, E_bm, bmX_l, bmX_d, kindU_ref, E_isi, E_rngL, E_sset, E_comp, evEs, T_cst, T_glo, T_var, T_bin, T_neg, T_fld, T_ix, T_rev, T_slc, T_lst, T_tup, T_call, T_make, T_meth, T_callv, T_bc, T_bm, T_isi, T_comp, T_not, T_and, T_or, T_ife, T_cmp, T_cmp2, isB_bl, E_and, E_or, E_ife, E_cmp2, evO, evC, evI, evG, evGs, wipeS, permU, calN_call, calN_cs, getS_0, getS_s, newL_c, newT_c, tru_bl, tru_int, tru_non, tru_lst, tru_tup, bin_add, bin_sub, bin_mulc, bin_fdivc, bin_mod, bin_addL, cmp_lt, cmp_le, cmp_gt, cmp_ge, cmp_isN, cmp_isnN, isNon_non, isNon_int, isNon_tup, isNon_lst, isNon_ref, isNon_bl, cmp_eqI, cmp_neI, cmp_eq, cmp_ne, cmpEq_n, eqD_if, own_ref, der_ref, id_b, own_lst, own_tup, own_non, own_bl, own_int, own_str, der_lst, der_tup, der_non, der_int, der_bl, der_str, isD_int, isD_bl, isD_non, isD_bstr, isD_tup, isD_lst, eqv_int, eqv_bl, eqv_non, eqv_str, eqv_lst, eqv_tup, eqvs_nil, eqvs_nc, eqvs_cn, eqvs_cc, eqvs_n, eqv_ni, eqv_in, bc_int, bc_abs, bc_max, bc_min, bc_divmod, bc_len, bc_lenF, bc_lenT, bc_list, bc_listT, bc_tuple, rep_bl, ix_lst, ix_tup, ix_frz, at_0, at_1, at_2, at_3, at_4, slc_lst, rev_lst, fldU, setFld, methOf, putF, isiU, isOne, tyName, thaw, isFr, Mi.tgsL, List.contains_cons, List.contains_nil, List.length_cons, List.length_nil, List.length_append, List.length_map, List.set_cons_zero, List.set_cons_succ, List.lookup_cons, List.lookup_nil, Option.map_some, Bool.not_true, Bool.not_false, Nat.reduceBEq, Nat.reduceEqDiff, Nat.reduceAdd, Nat.reduceLT, Int.reduceEq, Int.reduceNe, Int.reduceLT, Int.reduceLE, if_true, if_false, reduceIte, decide_true, decide_false, decide_eq_true_eq, Bool.false_eq_true, Bool.and_true, Bool.true_and, Bool.and_false, Bool.false_and, Bool.or_true, Bool.or_false, Bool.true_or, Bool.false_or, beq_self_eq_true, Nat.zero_add, List.nil_append, List.isEmpty_nil, List.isEmpty_cons, and_self, true_and, and_true, eq_self, bt_beq, reduceCtorEq, List.set_set, List.all_nil, List.all_cons, List.all_append, set_app, get_app_eq, cut_tl, List.length_set, len_ref_a, list_ref_a, seq_ref_a, lsf_ref_a, dic_ref_a, lst_ref_a, seq_lst, seq_tup, lsf_lst, ix_ref_a, slc_ref_a, rev_ref_a, app_ref_a, appX_l, setIx_ref_a, bin_addX, addU, lstU, List.getElem?_set_ne, List.getElem?_set_self, List.getElem?_append_left, get_app_len, set_app_len, cs0, mk0, S.en]
          try simp
        · simp -dsimp (maxSteps := 1000000) (disch := first | assumption | omega | (simp only [List.length_cons, List.length_nil, List.length_append, List.length_map, List.length_take, List.length_drop, List.length_set, List.length_range, List.length_reverse] <;> omega) | rfl | decide) only [OkS_cons, OkS_nil, OkS_nx, OkS_rt, OkS_bk, OkS_ct, OkS_toS, OkS_if, Ok_bind, Ok_bindN, Ok_nx, Ok_ok, Ok_ofS, S_expr, S_asg, S_ret, S_retN, S_pass, S_brk, S_cont, S_for, S_par, par2, par3, cst_int, cst_non, cst_bl, cst_str, ofW, ofWs, E_cst, E_glo, E_var, E_mut, E_bin, E_neg, E_not, E_cmp, E_fld, E_ix, E_rev, E_slc, E_lst, E_tup, E_dic0, E_call, E_make, E_meth, E_callv, E_bc, E_bm, bmX_l, bmX_d, kindU_ref, E_isi, E_rngL, E_sset, E_comp, evEs, T_cst, T_glo, T_var, T_bin, T_neg, T_fld, T_ix, T_rev, T_slc, T_lst, T_tup, T_call, T_make, T_meth, T_callv, T_bc, T_bm, T_isi, T_comp, T_not, T_and, T_or, T_ife, T_cmp, T_cmp2, isB_bl, E_and, E_or, E_ife, E_cmp2, evO, evC, evI, evG, evGs, wipeS, permU, calN_call, calN_cs, getS_0, getS_s, newL_c, newT_c, tru_bl, tru_int, tru_non, tru_lst, tru_tup, bin_add, bin_sub, bin_mulc, bin_fdivc, bin_mod, bin_addL, cmp_lt, cmp_le, cmp_gt, cmp_ge, cmp_isN, cmp_isnN, isNon_non, isNon_int, isNon_tup, isNon_lst, isNon_ref, isNon_bl, cmp_eqI, cmp_neI, cmp_eq, cmp_ne, cmpEq_n, eqD_if, own_ref, der_ref, id_b, own_lst, own_tup, own_non, own_bl, own_int, own_str, der_lst, der_tup, der_non, der_int, der_bl, der_str, isD_int, isD_bl, isD_non, isD_bstr, isD_tup, isD_lst, eqv_int, eqv_bl, eqv_non, eqv_str, eqv_lst, eqv_tup, eqvs_nil, eqvs_nc, eqvs_cn, eqvs_cc, eqvs_n, eqv_ni, eqv_in, bc_int, bc_abs, bc_max, bc_min, bc_divmod, bc_len, bc_lenF, bc_lenT, bc_list, bc_listT, bc_tuple, rep_bl, ix_lst, ix_tup, ix_frz, at_0, at_1, at_2, at_3, at_4, slc_lst, rev_lst, fldU, setFld, methOf, putF, isiU, isOne, tyName, thaw, isFr, Mi.tgsL, List.contains_cons, List.contains_nil, List.length_cons, List.length_nil, List.length_append, List.length_map, List.set_cons_zero, List.set_cons_succ, List.lookup_cons, List.lookup_nil, Option.map_some, Bool.not_true, Bool.not_false, Nat.reduceBEq, Nat.reduceEqDiff, Nat.reduceAdd, Nat.reduceLT, Int.reduceEq, Int.reduceNe, Int.reduceLT, Int.reduceLE, if_true, if_false, reduceIte, decide_true, decide_false, decide_eq_true_eq, Bool.false_eq_true, Bool.and_true, Bool.true_and, Bool.and_false, Bool.false_and, Bool.or_true, Bool.or_false, Bool.true_or, Bool.false_or, beq_self_eq_true, Nat.zero_add, List.nil_append, List.isEmpty_nil, List.isEmpty_cons, and_self, true_and, and_true, eq_self, bt_beq, reduceCtorEq, List.set_set, List.all_nil, List.all_cons, List.all_append, set_app, get_app_eq, cut_tl, List.length_set, len_ref_a, list_ref_a, seq_ref_a, lsf_ref_a, dic_ref_a, lst_ref_a, seq_lst, seq_tup, lsf_lst, ix_ref_a, slc_ref_a, rev_ref_a, app_ref_a, appX_l, setIx_ref_a, bin_addX, addU, lstU, List.getElem?_set_ne, List.getElem?_set_self, List.getElem?_append_left, get_app_len, set_app_len, cs0, mk0]
          try simp
        · have := S.nd
          simpa using this
        · have := S.ml
          simpa using this
        · rcases S.asd with q | ⟨c, es', f', e1, e2, e3, e4, e5⟩
          · exact .inl q
          · have := (List.getElem?_eq_some_iff.mp e4).1
            exact .inr ⟨c, es', f', e1, e2, by omega, by simp -dsimp (maxSteps := 1000000) (disch := first | assumption | omega | (simp only [List.length_cons, List.length_nil, List.length_append, List.length_map, List.length_take, List.length_drop, List.length_set, List.length_range, List.length_reverse] <;> omega) | rfl | decide) only [OkS_cons, OkS_nil, OkS_nx, OkS_rt, OkS_bk, OkS_ct, OkS_toS, OkS_if, Ok_bind, Ok_bindN, Ok_nx, Ok_ok, Ok_ofS, S_expr, S_asg, S_ret, S_retN, S_pass, S_brk, S_cont, S_for, S_par, par2, par3, cst_int, cst_non, cst_bl, cst_str, ofW, ofWs, E_cst, E_glo, E_var, E_mut, E_bin, E_neg, E_not, E_cmp, E_fld, E_ix, E_rev, E_slc, E_lst, E_tup, E_dic0, E_call, E_make, E_meth, E_callv, E_bc, E_bm, bmX_l, bmX_d, kindU_ref, E_isi, E_rngL, E_sset, E_comp, evEs, T_cst, T_glo, T_var, T_bin, T_neg, T_fld, T_ix, T_rev, T_slc, T_lst, T_tup, T_call, T_make, T_meth, T_callv, T_bc, T_bm, T_isi, T_comp, T_not, T_and, T_or, T_ife, T_cmp, T_cmp2, isB_bl, E_and, E_or, E_ife, E_cmp2, evO, evC, evI, evG, evGs, wipeS, permU, calN_call, calN_cs, getS_0, getS_s, newL_c, newT_c, tru_bl, tru_int, tru_non, tru_lst, tru_tup, bin_add, bin_sub, bin_mulc, bin_fdivc, bin_mod, bin_addL, cmp_lt, cmp_le, cmp_gt, cmp_ge, cmp_isN, cmp_isnN, isNon_non, isNon_int, isNon_tup, isNon_lst, isNon_ref, isNon_bl, cmp_eqI, cmp_neI, cmp_eq, cmp_ne, cmpEq_n, eqD_if, own_ref, der_ref, id_b, own_lst, own_tup, own_non, own_bl, own_int, own_str, der_lst, der_tup, der_non, der_int, der_bl, der_str, isD_int, isD_bl, isD_non, isD_bstr, isD_tup, isD_lst, eqv_int, eqv_bl, eqv_non, eqv_str, eqv_lst, eqv_tup, eqvs_nil, eqvs_nc, eqvs_cn, eqvs_cc, eqvs_n, eqv_ni, eqv_in, bc_int, bc_abs, bc_max, bc_min, bc_divmod, bc_len, bc_lenF, bc_lenT, bc_list, bc_listT, bc_tuple, rep_bl, ix_lst, ix_tup, ix_frz, at_0, at_1, at_2, at_3, at_4, slc_lst, rev_lst, fldU, setFld, methOf, putF, isiU, isOne, tyName, thaw, isFr, Mi.tgsL, List.contains_cons, List.contains_nil, List.length_cons, List.length_nil, List.length_append, List.length_map, List.set_cons_zero, List.set_cons_succ, List.lookup_cons, List.lookup_nil, Option.map_some, Bool.not_true, Bool.not_false, Nat.reduceBEq, Nat.reduceEqDiff, Nat.reduceAdd, Nat.reduceLT, Int.reduceEq, Int.reduceNe, Int.reduceLT, Int.reduceLE, if_true, if_false, reduceIte, decide_true, decide_false, decide_eq_true_eq, Bool.false_eq_true, Bool.and_true, Bool.true_and, Bool.and_false, Bool.false_and, Bool.or_true, Bool.or_false, Bool.true_or, Bool.false_or, beq_self_eq_true, Nat.zero_add, List.nil_append, List.isEmpty_nil, List.isEmpty_cons, and_self, true_and, and_true, eq_self, bt_beq, reduceCtorEq, List.set_set, List.all_nil, List.all_cons, List.all_append, set_app, get_app_eq, cut_tl, List.length_set, len_ref_a, list_ref_a, seq_ref_a, lsf_ref_a, dic_ref_a, lst_ref_a, seq_lst, seq_tup, lsf_lst, ix_ref_a, slc_ref_a, rev_ref_a, app_ref_a, appX_l, setIx_ref_a, bin_addX, addU, lstU, List.getElem?_set_ne, List.getElem?_set_self, List.getElem?_append_left, get_app_len, set_app_len, cs0, mk0, e4], e5⟩
        · simp -dsimp (maxSteps := 1000000) (disch := first | assumption | omega | (simp only [List.length_cons, List.length_nil, List.length_append, List.length_map, List.length_take, List.length_drop, List.length_set, List.length_range, List.length_reverse] <;> omega) | rfl | decide) only [OkS_cons, OkS_nil, OkS_nx, OkS_rt, OkS_bk, OkS_ct, OkS_toS, OkS_if, Ok_bind, Ok_bindN, Ok_nx, Ok_ok, Ok_ofS, S_expr, S_asg, S_ret, S_retN, S_pass, S_brk, S_cont, S_for, S_par, par2, par3, cst_int, cst_non, cst_bl, cst_str, ofW, ofWs, E_cst, E_glo, E_var, E_mut, E_bin, E_neg, E_not, E_cmp, E_fld, E_ix, E_rev, E_slc, E_lst, E_tup, E_dic0, E_call, E_make, E_meth, E_callv, E_bc, E_bm, bmX_l, bmX_d, kindU_ref, E_isi, E_rngL, E_sset, E_comp, evEs, T_cst, T_glo, T_var, T_bin, T_neg, T_fld, T_ix, T_rev, T_slc, T_lst, T_tup, T_call, T_make, T_meth, T_callv, T_bc, T_bm, T_isi, T_comp, T_not, T_and, T_or, T_ife, T_cmp, T_cmp2, isB_bl, E_and, E_or, E_ife, E_cmp2, evO, evC, evI, evG, evGs, wipeS, permU, calN_call, calN_cs, getS_0, getS_s, newL_c, newT_c, tru_bl, tru_int, tru_non, tru_lst, tru_tup, bin_add, bin_sub, bin_mulc, bin_fdivc, bin_mod, bin_addL, cmp_lt, cmp_le, cmp_gt, cmp_ge, cmp_isN, cmp_isnN, isNon_non, isNon_int, isNon_tup, isNon_lst, isNon_ref, isNon_bl, cmp_eqI, cmp_neI, cmp_eq, cmp_ne, cmpEq_n, eqD_if, own_ref, der_ref, id_b, own_lst, own_tup, own_non, own_bl, own_int, own_str, der_lst, der_tup, der_non, der_int, der_bl, der_str, isD_int, isD_bl, isD_non, isD_bstr, isD_tup, isD_lst, eqv_int, eqv_bl, eqv_non, eqv_str, eqv_lst, eqv_tup, eqvs_nil, eqvs_nc, eqvs_cn, eqvs_cc, eqvs_n, eqv_ni, eqv_in, bc_int, bc_abs, bc_max, bc_min, bc_divmod, bc_len, bc_lenF, bc_lenT, bc_list, bc_listT, bc_tuple, rep_bl, ix_lst, ix_tup, ix_frz, at_0, at_1, at_2, at_3, at_4, slc_lst, rev_lst, fldU, setFld, methOf, putF, isiU, isOne, tyName, thaw, isFr, Mi.tgsL, List.contains_cons, List.contains_nil, List.length_cons, List.length_nil, List.length_append, List.length_map, List.set_cons_zero, List.set_cons_succ, List.lookup_cons, List.lookup_nil, Option.map_some, Bool.not_true, Bool.not_false, Nat.reduceBEq, Nat.reduceEqDiff, Nat.reduceAdd, Nat.reduceLT, Int.reduceEq, Int.reduceNe, Int.reduceLT, Int.reduceLE, if_true, if_false, reduceIte, decide_true, decide_false, decide_eq_true_eq, Bool.false_eq_true, Bool.and_true, Bool.true_and, Bool.and_false, Bool.false_and, Bool.or_true, Bool.or_false, Bool.true_or, Bool.false_or, beq_self_eq_true, Nat.zero_add, List.nil_append, List.isEmpty_nil, List.isEmpty_cons, and_self, true_and, and_true, eq_self, bt_beq, reduceCtorEq, List.set_set, List.all_nil, List.all_cons, List.all_append, set_app, get_app_eq, cut_tl, List.length_set, len_ref_a, list_ref_a, seq_ref_a, lsf_ref_a, dic_ref_a, lst_ref_a, seq_lst, seq_tup, lsf_lst, ix_ref_a, slc_ref_a, rev_ref_a, app_ref_a, appX_l, setIx_ref_a, bin_addX, addU, lstU, List.getElem?_set_ne, List.getElem?_set_self, List.getElem?_append_left, get_app_len, set_app_len, cs0, mk0]
          exact q _ _ _ _ _ _ _ _ S' ⟨_, _, _, _, _, _, _, rfl⟩
  · simp -dsimp (maxSteps := 1000000) (disch := first | assumption | omega | (simp only [List.length_cons, List.length_nil, List.length_append, List.length_map, List.length_take, List.length_drop, List.length_set, List.length_range, List.length_reverse] <;> omega) | rfl | decide) only [OkS_cons, OkS_nil, OkS_nx, OkS_rt, OkS_bk, OkS_ct, OkS_toS, OkS_if, Ok_bind, Ok_bindN, Ok_nx, Ok_ok, Ok_ofS, S_expr, S_asg, S_ret, S_retN, S_pass, S_brk, S_cont, S_for, S_par, par2, par3, cst_int, cst_non, cst_bl, cst_str, ofW, ofWs, E_cst, E_glo, E_var, E_mut, E_bin, E_neg, E_not, E_cmp, E_fld, E_ix, E_rev, E_slc, E_lst, E_tup, E_dic0, E_call, E_make, E_meth, E_callv, E_bc, E_bm, bmX_l, bmX_d, kindU_ref, E_isi, E_rngL, E_sset, E_comp, evEs, T_cst, T_glo, T_var, T_bin, T_neg, T_fld, T_ix, T_rev, T_slc, T_lst, T_tup, T_call, T_make, T_meth, T_callv, T_bc, T_bm, T_isi, T_comp, T_not, T_and, T_or, T_ife, T_cmp, T_cmp2, isB_bl, E_and, E_or, E_ife, E_cmp2, evO, evC, evI, evG, evGs, wipeS, permU, calN_call, calN_cs, getS_0, getS_s, newL_c, newT_c, tru_bl, tru_int, tru_non, tru_lst, tru_tup, bin_add, bin_sub, bin_mulc, bin_fdivc, bin_mod, bin_addL, cmp_lt, cmp_le, cmp_gt, cmp_ge, cmp_isN, cmp_isnN, isNon_non, isNon_int, isNon_tup, isNon_lst, isNon_ref, isNon_bl, cmp_eqI, cmp_neI, cmp_eq, cmp_ne, cmpEq_n, eqD_if, own_ref, der_ref, id_b, own_lst, own_tup, own_non, own_bl, own_int, own_str, der_lst, der_tup, der_non, der_int, der_bl, der_str, isD_int, isD_bl, isD_non, isD_bstr, isD_tup, isD_lst, eqv_int, eqv_bl, eqv_non, eqv_str, eqv_lst, eqv_tup, eqvs_nil, eqvs_nc, eqvs_cn, eqvs_cc, eqvs_n, eqv_ni, eqv_in, bc_int, bc_abs, bc_max, bc_min, bc_divmod, bc_len, bc_lenF, bc_lenT, bc_list, bc_listT, bc_tuple, rep_bl, ix_lst, ix_tup, ix_frz, at_0, at_1, at_2, at_3, at_4, slc_lst, rev_lst, fldU, setFld, methOf, putF, isiU, isOne, tyName, thaw, isFr, Mi.tgsL, List.contains_cons, List.contains_nil, List.length_cons, List.length_nil, List.length_append, List.length_map, List.set_cons_zero, List.set_cons_succ, List.lookup_cons, List.lookup_nil, Option.map_some, Bool.not_true, Bool.not_false, Nat.reduceBEq, Nat.reduceEqDiff, Nat.reduceAdd, Nat.reduceLT, Int.reduceEq, Int.reduceNe, Int.reduceLT, Int.reduceLE, if_true, if_false, reduceIte, decide_true, decide_false, decide_eq_true_eq, Bool.false_eq_true, Bool.and_true, Bool.true_and, Bool.and_false, Bool.false_and, Bool.or_true, Bool.or_false, Bool.true_or, Bool.false_or, beq_self_eq_true, Nat.zero_add, List.nil_append, List.isEmpty_nil, List.isEmpty_cons, and_self, true_and, and_true, eq_self, bt_beq, reduceCtorEq, List.set_set, List.all_nil, List.all_cons, List.all_append, set_app, get_app_eq, cut_tl, List.length_set, len_ref_a, list_ref_a, seq_ref_a, lsf_ref_a, dic_ref_a, lst_ref_a, seq_lst, seq_tup, lsf_lst, ix_ref_a, slc_ref_a, rev_ref_a, app_ref_a, appX_l, setIx_ref_a, bin_addX, addU, lstU, List.getElem?_set_ne, List.getElem?_set_self, List.getElem?_append_left, get_app_len, set_app_len, cs0, mk0]
    refine draw hp hb (by omega) (by omega) fun r a' b' r0 r1 hb' => ?_
    have S1 : St (i + 1) many first made es lefts o as (g.set 0 (.lst [.int a', .int b'])) := by
      refine ⟨⟨a', b', by simp -dsimp (maxSteps := 1000000) (disch := first | assumption | omega | (simp only [List.length_cons, List.length_nil, List.length_append, List.length_map, List.length_take, List.length_drop, List.length_set, List.length_range, List.length_reverse] <;> omega) | rfl | decide) only [OkS_cons, OkS_nil, OkS_nx, OkS_rt, OkS_bk, OkS_ct, OkS_toS, OkS_if, Ok_bind, Ok_bindN, Ok_nx, Ok_ok, Ok_ofS, S_expr, S_asg, S_ret, S_retN, S_pass, S_brk, S_cont, S_for, S_par, par2, par3, cst_int, cst_non, cst_bl, cst_str, ofW, ofWs, E_cst, E_glo, E_var, E_mut, E_bin, E_neg, E_not, E_cmp, E_fld, E_ix, E_rev, E_slc, E_lst, E_tup, E_dic0, E_call, E_make, E_meth, E_callv, E_bc, E_bm, bmX_l, bmX_d, kindU_ref, E_isi, E_rngL, E_sset, E_comp, evEs, T_cst, T_glo, T_var, T_bin, T_neg, T_fld, T_ix, T_rev, T_slc, T_lst, T_tup, T_call, T_make, T_meth, T_callv, T_bc, T_bm, T_isi, T_comp, T_not, T_and, T_or, T_ife, T_cmp, T_cmp2, isB_bl, E_and, E_or, E_ife, E_cmp2, evO, evC, evI, evG, evGs, wipeS, permU, calN_call, calN_cs, getS_0, getS_s, newL_c, newT_c, tru_bl, tru_int, tru_non, tru_lst, tru_tup, bin_add, bin_sub, bin_mulc, bin_fdivc, bin_mod, bin_addL, cmp_lt, cmp_le, cmp_gt, cmp_ge, cmp_isN, cmp_isnN, isNon_non, isNon_int, isNon_tup, isNon_lst, isNon_ref, isNon_bl, cmp_eqI, cmp_neI, cmp_eq, cmp_ne, cmpEq_n, eqD_if, own_ref, der_ref, id_b, own_lst, own_tup, own_non, own_bl, own_int, own_str, der_lst, der_tup, der_non, der_int, der_bl, der_str, isD_int, isD_bl, isD_non, isD_bstr, isD_tup, isD_lst, eqv_int, eqv_bl, eqv_non, eqv_str, eqv_lst, eqv_tup, eqvs_nil, eqvs_nc, eqvs_cn, eqvs_cc, eqvs_n, eqv_ni, eqv_in, bc_int, bc_abs, bc_max, bc_min, bc_divmod, bc_len, bc_lenF, bc_lenT, bc_list, bc_listT, bc_tuple, rep_bl, ix_lst, ix_tup, ix_frz, at_0, at_1, at_2, at_3, at_4, slc_lst, rev_lst, fldU, setFld, methOf, putF, isiU, isOne, tyName, thaw, isFr, Mi.tgsL, List.contains_cons, List.contains_nil, List.length_cons, List.length_nil, List.length_append, List.length_map, List.set_cons_zero, List.set_cons_succ, List.lookup_cons, List.lookup_nil, Option.map_some, Bool.not_true, Bool.not_false, Nat.reduceBEq, Nat.reduceEqDiff, Nat.reduceAdd, Nat.reduceLT, Int.reduceEq, Int.reduceNe, Int.reduceLT, Int.reduceLE, if_true, if_false, reduceIte, decide_true, decide_false, decide_eq_true_eq, Bool.false_eq_true, Bool.and_true, Bool.true_and, Bool.and_false, Bool.false_and, Bool.or_true, Bool.or_false, Bool.true_or, Bool.false_or, beq_self_eq_true, Nat.zero_add, List.nil_append, List.isEmpty_nil, List.isEmpty_cons, and_self, true_and, and_true, eq_self, bt_beq, reduceCtorEq, List.set_set, List.all_nil, List.all_cons, List.all_append, set_app, get_app_eq, cut_tl, List.length_set, len_ref_a, list_ref_a, seq_ref_a, lsf_ref_a, dic_ref_a, lst_ref_a, seq_lst, seq_tup, lsf_lst, ix_ref_a, slc_ref_a, rev_ref_a, app_ref_a, appX_l, setIx_ref_a, bin_addX, addU, lstU, List.getElem?_set_ne, List.getElem?_set_self, List.getElem?_append_left, get_app_len, set_app_len, cs0, mk0], hb'⟩, by simp -dsimp (maxSteps := 1000000) (disch := first | assumption | omega | (simp only [List.length_cons, List.length_nil, List.length_append, List.length_map, List.length_take, List.length_drop, List.length_set, List.length_range, List.length_reverse] <;> omega) | rfl | decide) only [OkS_cons, OkS_nil, OkS_nx, OkS_rt, OkS_bk, OkS_ct, OkS_toS, OkS_if, Ok_bind, Ok_bindN, Ok_nx, Ok_ok, Ok_ofS, S_expr, S_asg, S_ret, S_retN, S_pass, S_brk, S_cont, S_for, S_par, par2, par3, cst_int, cst_non, cst_bl, cst_str, ofW, ofWs, E_cst, E_glo, E_var, E_mut, E_bin, E_neg, E_not, E_cmp, E_fld, E_ix, E_rev, E_slc, E_lst, E_tup, E_dic0, E_call, E_make, E_meth, E_callv, E_bc, E_bm, bmX_l, bmX_d, kindU_ref, E_isi, E_rngL, E_sset, E_comp, evEs, T_cst, T_glo, T_var, T_bin, T_neg, T_fld, T_ix, T_rev, T_slc, T_lst, T_tup, T_call, T_make, T_meth, T_callv, T_bc, T_bm, T_isi, T_comp, T_not, T_and, T_or, T_ife, T_cmp, T_cmp2, isB_bl, E_and, E_or, E_ife, E_cmp2, evO, evC, evI, evG, evGs, wipeS, permU, calN_call, calN_cs, getS_0, getS_s, newL_c, newT_c, tru_bl, tru_int, tru_non, tru_lst, tru_tup, bin_add, bin_sub, bin_mulc, bin_fdivc, bin_mod, bin_addL, cmp_lt, cmp_le, cmp_gt, cmp_ge, cmp_isN, cmp_isnN, isNon_non, isNon_int, isNon_tup, isNon_lst, isNon_ref, isNon_bl, cmp_eqI, cmp_neI, cmp_eq, cmp_ne, cmpEq_n, eqD_if, own_ref, der_ref, id_b, own_lst, own_tup, own_non, own_bl, own_int, own_str, der_lst, der_tup, der_non, der_int, der_bl, der_str, isD_int, isD_bl, isD_non, isD_bstr, isD_tup, isD_lst, eqv_int, eqv_bl, eqv_non, eqv_str, eqv_lst, eqv_tup, eqvs_nil, eqvs_nc, eqvs_cn, eqvs_cc, eqvs_n, eqv_ni, eqv_in, bc_int, bc_abs, bc_max, bc_min, bc_divmod, bc_len, bc_lenF, bc_lenT, bc_list, bc_listT, bc_tuple, rep_bl, ix_lst, ix_tup, ix_frz, at_0, at_1, at_2, at_3, at_4, slc_lst, rev_lst, fldU, setFld, methOf, putF, isiU, isOne, tyName, thaw, isFr, Mi.tgsL, List.contains_cons, List.contains_nil, List.length_cons, List.length_nil, List.length_append, List.length_map, List.set_cons_zero, List.set_cons_succ, List.lookup_cons, List.lookup_nil, Option.map_some, Bool.not_true, Bool.not_false, Nat.reduceBEq, Nat.reduceEqDiff, Nat.reduceAdd, Nat.reduceLT, Int.reduceEq, Int.reduceNe, Int.reduceLT, Int.reduceLE, if_true, if_false, reduceIte, decide_true, decide_false, decide_eq_true_eq, Bool.false_eq_true, Bool.and_true, Bool.true_and, Bool.and_false, Bool.false_and, Bool.or_true, Bool.or_false, Bool.true_or, Bool.false_or, beq_self_eq_true, Nat.zero_add, List.nil_append, List.isEmpty_nil, List.isEmpty_cons, and_self, true_and, and_true, eq_self, bt_beq, reduceCtorEq, List.set_set, List.all_nil, List.all_cons, List.all_append, set_app, get_app_eq, cut_tl, List.length_set, len_ref_a, list_ref_a, seq_ref_a, lsf_ref_a, dic_ref_a, lst_ref_a, seq_lst, seq_tup, lsf_lst, ix_ref_a, slc_ref_a, rev_ref_a, app_ref_a, appX_l, setIx_ref_a, bin_addX, addU, lstU, List.getElem?_set_ne, List.getElem?_set_self, List.getElem?_append_left, get_app_len, set_app_len, cs0, mk0, S.ob], by simp -dsimp (maxSteps := 1000000) (disch := first | assumption | omega | (simp only [List.length_cons, List.length_nil, List.length_append, List.length_map, List.length_take, List.length_drop, List.length_set, List.length_range, List.length_reverse] <;> omega) | rfl | decide) only [OkS_cons, OkS_nil, OkS_nx, OkS_rt, OkS_bk, OkS_ct, OkS_toS, OkS_if, Ok_bind, Ok_bindN, Ok_nx, Ok_ok, Ok_ofS, S_expr, S_asg, S_ret, S_retN, S_pass, S_brk, S_cont, S_for, S_par, par2, par3, cst_int, cst_non, cst_bl, cst_str, ofW, ofWs, E_cst, E_glo, E_var, E_mut, E_bin, E_neg, E_not, E_cmp, E_fld, E_ix, E_rev, E_slc, E_lst, E_tup, E_dic0, E_call, E_make, E_meth, E_callv, E_bc, E_bm, bmX_l, bmX_d, kindU_ref, E_isi, E_rngL, E_sset, E_comp, evEs, T_cst, T_glo, T_var, T_bin, T_neg, T_fld, T_ix, T_rev, T_slc, T_lst, T_tup, T_call, T_make, T_meth, T_callv, T_bc, T_bm, T_isi, T_comp, T_not, T_and, T_or, T_ife, T_cmp, T_cmp2, isB_bl, E_and, E_or, E_ife, E_cmp2, evO, evC, evI, evG, evGs, wipeS, permU, calN_call, calN_cs, getS_0, getS_s, newL_c, newT_c, tru_bl, tru_int, tru_non, tru_lst, tru_tup, bin_add, bin_sub, bin_mulc, bin_fdivc, bin_mod, bin_addL, cmp_lt, cmp_le, cmp_gt, cmp_ge, cmp_isN, cmp_isnN, isNon_non, isNon_int, isNon_tup, isNon_lst, isNon_ref, isNon_bl, cmp_eqI, cmp_neI, cmp_eq, cmp_ne, cmpEq_n, eqD_if, own_ref, der_ref, id_b, own_lst, own_tup, own_non, own_bl, own_int, own_str, der_lst, der_tup, der_non, der_int, der_bl, der_str, isD_int, isD_bl, isD_non, isD_bstr, isD_tup, isD_lst, eqv_int, eqv_bl, eqv_non, eqv_str, eqv_lst, eqv_tup, eqvs_nil, eqvs_nc, eqvs_cn, eqvs_cc, eqvs_n, eqv_ni, eqv_in, bc_int, bc_abs, bc_max, bc_min, bc_divmod, bc_len, bc_lenF, bc_lenT, bc_list, bc_listT, bc_tuple, rep_bl, ix_lst, ix_tup, ix_frz, at_0, at_1, at_2, at_3, at_4, slc_lst, rev_lst, fldU, setFld, methOf, putF, isiU, isOne, tyName, thaw, isFr, Mi.tgsL, List.contains_cons, List.contains_nil, List.length_cons, List.length_nil, List.length_append, List.length_map, List.set_cons_zero, List.set_cons_succ, List.lookup_cons, List.lookup_nil, Option.map_some, Bool.not_true, Bool.not_false, Nat.reduceBEq, Nat.reduceEqDiff, Nat.reduceAdd, Nat.reduceLT, Int.reduceEq, Int.reduceNe, Int.reduceLT, Int.reduceLE, if_true, if_false, reduceIte, decide_true, decide_false, decide_eq_true_eq, Bool.false_eq_true, Bool.and_true, Bool.true_and, Bool.and_false, Bool.false_and, Bool.or_true, Bool.or_false, Bool.true_or, Bool.false_or, beq_self_eq_true, Nat.zero_add, List.nil_append, List.isEmpty_nil, List.isEmpty_cons, and_self, true_and, and_true, eq_self, bt_beq, reduceCtorEq, List.set_set, List.all_nil, List.all_cons, List.all_append, set_app, get_app_eq, cut_tl, List.length_set, len_ref_a, list_ref_a, seq_ref_a, lsf_ref_a, dic_ref_a, lst_ref_a, seq_lst, seq_tup, lsf_lst, ix_ref_a, slc_ref_a, rev_ref_a, app_ref_a, appX_l, setIx_ref_a, bin_addX, addU, lstU, List.getElem?_set_ne, List.getElem?_set_self, List.getElem?_append_left, get_app_len, set_app_len, cs0, mk0, S.ow], S.oo, by simp -dsimp (maxSteps := 1000000) (disch := first | assumption | omega | (simp only [List.length_cons, List.length_nil, List.length_append, List.length_map, List.length_take, List.length_drop, List.length_set, List.length_range, List.length_reverse] <;> omega) | rfl | decide) only [OkS_cons, OkS_nil, OkS_nx, OkS_rt, OkS_bk, OkS_ct, OkS_toS, OkS_if, Ok_bind, Ok_bindN, Ok_nx, Ok_ok, Ok_ofS, S_expr, S_asg, S_ret, S_retN, S_pass, S_brk, S_cont, S_for, S_par, par2, par3, cst_int, cst_non, cst_bl, cst_str, ofW, ofWs, E_cst, E_glo, E_var, E_mut, E_bin, E_neg, E_not, E_cmp, E_fld, E_ix, E_rev, E_slc, E_lst, E_tup, E_dic0, E_call, E_make, E_meth, E_callv, E_bc, E_bm, bmX_l, bmX_d, kindU_ref, E_isi, E_rngL, E_sset, E_comp, evEs, T_cst, T_glo, T_var, T_bin, T_neg, T_fld, T_ix, T_rev, T_slc, T_lst, T_tup, T_call, T_make, T_meth, T_callv, T_bc, T_bm, T_isi, T_comp, T_not, T_and, T_or, T_ife, T_cmp, T_cmp2, isB_bl, E_and, E_or, E_ife, E_cmp2, evO, evC, evI, evG, evGs, wipeS, permU, calN_call, calN_cs, getS_0, getS_s, newL_c, newT_c, tru_bl, tru_int, tru_non, tru_lst, tru_tup, bin_add, bin_sub, bin_mulc, bin_fdivc, bin_mod, bin_addL, cmp_lt, cmp_le, cmp_gt, cmp_ge, cmp_isN, cmp_isnN, isNon_non, isNon_int, isNon_tup, isNon_lst, isNon_ref, isNon_bl, cmp_eqI, cmp_neI, cmp_eq, cmp_ne, cmpEq_n, eqD_if, own_ref, der_ref, id_b, own_lst, own_tup, own_non, own_bl, own_int, own_str, der_lst, der_tup, der_non, der_int, der_bl, der_str, isD_int, isD_bl, isD_non, isD_bstr, isD_tup, isD_lst, eqv_int, eqv_bl, eqv_non, eqv_str, eqv_lst, eqv_tup, eqvs_nil, eqvs_nc, eqvs_cn, eqvs_cc, eqvs_n, eqv_ni, eqv_in, bc_int, bc_abs, bc_max, bc_min, bc_divmod, bc_len, bc_lenF, bc_lenT, bc_list, bc_listT, bc_tuple, rep_bl, ix_lst, ix_tup, ix_frz, at_0, at_1, at_2, at_3, at_4, slc_lst, rev_lst, fldU, setFld, methOf, putF, isiU, isOne, tyName, thaw, isFr, Mi.tgsL, List.contains_cons, List.contains_nil, List.length_cons, List.length_nil, List.length_append, List.length_map, List.set_cons_zero, List.set_cons_succ, List.lookup_cons, List.lookup_nil, Option.map_some, Bool.not_true, Bool.not_false, Nat.reduceBEq, Nat.reduceEqDiff, Nat.reduceAdd, Nat.reduceLT, Int.reduceEq, Int.reduceNe, Int.reduceLT, Int.reduceLE, if_true, if_false, reduceIte, decide_true, decide_false, decide_eq_true_eq, Bool.false_eq_true, Bool.and_true, Bool.true_and, Bool.and_false, Bool.false_and, Bool.or_true, Bool.or_false, Bool.true_or, Bool.false_or, beq_self_eq_true, Nat.zero_add, List.nil_append, List.isEmpty_nil, List.isEmpty_cons, and_self, true_and, and_true, eq_self, bt_beq, reduceCtorEq, List.set_set, List.all_nil, List.all_cons, List.all_append, set_app, get_app_eq, cut_tl, List.length_set, len_ref_a, list_ref_a, seq_ref_a, lsf_ref_a, dic_ref_a, lst_ref_a, seq_lst, seq_tup, lsf_lst, ix_ref_a, slc_ref_a, rev_ref_a, app_ref_a, appX_l, setIx_ref_a, bin_addX, addU, lstU, List.getElem?_set_ne, List.getElem?_set_self, List.getElem?_append_left, get_app_len, set_app_len, cs0, mk0, S.en], by simp -dsimp (maxSteps := 1000000) (disch := first | assumption | omega | (simp only [List.length_cons, List.length_nil, List.length_append, List.length_map, List.length_take, List.length_drop, List.length_set, List.length_range, List.length_reverse] <;> omega) | rfl | decide) only [OkS_cons, OkS_nil, OkS_nx, OkS_rt, OkS_bk, OkS_ct, OkS_toS, OkS_if, Ok_bind, Ok_bindN, Ok_nx, Ok_ok, Ok_ofS, S_expr, S_asg, S_ret, S_retN, S_pass, S_brk, S_cont, S_for, S_par, par2, par3, cst_int, cst_non, cst_bl, cst_str, ofW, ofWs, E_cst, E_glo, E_var, E_mut, E_bin, E_neg, E_not, E_cmp, E_fld, E_ix, E_rev, E_slc, E_lst, E_tup, E_dic0, E_call, E_make, E_meth, E_callv, E_bc, E_bm, bmX_l, bmX_d, kindU_ref, E_isi, E_rngL, E_sset, E_comp, evEs, T_cst, T_glo, T_var, T_bin, T_neg, T_fld, T_ix, T_rev, T_slc, T_lst, T_tup, T_call, T_make, T_meth, T_callv, T_bc, T_bm, T_isi, T_comp, T_not, T_and, T_or, T_ife, T_cmp, T_cmp2, isB_bl, E_and, E_or, E_ife, E_cmp2, evO, evC, evI, evG, evGs, wipeS, permU, calN_call, calN_cs, getS_0, getS_s, newL_c, newT_c, tru_bl, tru_int, tru_non, tru_lst, tru_tup, bin_add, bin_sub, bin_mulc, bin_fdivc, bin_mod, bin_addL, cmp_lt, cmp_le, cmp_gt, cmp_ge, cmp_isN, cmp_isnN, isNon_non, isNon_int, isNon_tup, isNon_lst, isNon_ref, isNon_bl, cmp_eqI, cmp_neI, cmp_eq, cmp_ne, cmpEq_n, eqD_if, own_ref, der_ref, id_b, own_lst, own_tup, own_non, own_bl, own_int, own_str, der_lst, der_tup, der_non, der_int, der_bl, der_str, isD_int, isD_bl, isD_non, isD_bstr, isD_tup, isD_lst, eqv_int, eqv_bl, eqv_non, eqv_str, eqv_lst, eqv_tup, eqvs_nil, eqvs_nc, eqvs_cn, eqvs_cc, eqvs_n, eqv_ni, eqv_in, bc_int, bc_abs, bc_max, bc_min, bc_divmod, bc_len, bc_lenF, bc_lenT, bc_list, bc_listT, bc_tuple, rep_bl, ix_lst, ix_tup, ix_frz, at_0, at_1, at_2, at_3, at_4, slc_lst, rev_lst, fldU, setFld, methOf, putF, isiU, isOne, tyName, thaw, isFr, Mi.tgsL, List.contains_cons, List.contains_nil, List.length_cons, List.length_nil, List.length_append, List.length_map, List.set_cons_zero, List.set_cons_succ, List.lookup_cons, List.lookup_nil, Option.map_some, Bool.not_true, Bool.not_false, Nat.reduceBEq, Nat.reduceEqDiff, Nat.reduceAdd, Nat.reduceLT, Int.reduceEq, Int.reduceNe, Int.reduceLT, Int.reduceLE, if_true, if_false, reduceIte, decide_true, decide_false, decide_eq_true_eq, Bool.false_eq_true, Bool.and_true, Bool.true_and, Bool.and_false, Bool.false_and, Bool.or_true, Bool.or_false, Bool.true_or, Bool.false_or, beq_self_eq_true, Nat.zero_add, List.nil_append, List.isEmpty_nil, List.isEmpty_cons, and_self, true_and, and_true, eq_self, bt_beq, reduceCtorEq, List.set_set, List.all_nil, List.all_cons, List.all_append, set_app, get_app_eq, cut_tl, List.length_set, len_ref_a, list_ref_a, seq_ref_a, lsf_ref_a, dic_ref_a, lst_ref_a, seq_lst, seq_tup, lsf_lst, ix_ref_a, slc_ref_a, rev_ref_a, app_ref_a, appX_l, setIx_ref_a, bin_addX, addU, lstU, List.getElem?_set_ne, List.getElem?_set_self, List.getElem?_append_left, get_app_len, set_app_len, cs0, mk0, S.lf], S.nd, S.ml, S.f0, by omega, by omega, S.sz, S.m0, as_set (fun c c5 co x e => by simp -dsimp (maxSteps := 1000000) (disch := first | assumption | omega | (simp only [List.length_cons, List.length_nil, List.length_append, List.length_map, List.length_take, List.length_drop, List.length_set, List.length_range, List.length_reverse] <;> omega) | rfl | decide) only [OkS_cons, OkS_nil, OkS_nx, OkS_rt, OkS_bk, OkS_ct, OkS_toS, OkS_if, Ok_bind, Ok_bindN, Ok_nx, Ok_ok, Ok_ofS, S_expr, S_asg, S_ret, S_retN, S_pass, S_brk, S_cont, S_for, S_par, par2, par3, cst_int, cst_non, cst_bl, cst_str, ofW, ofWs, E_cst, E_glo, E_var, E_mut, E_bin, E_neg, E_not, E_cmp, E_fld, E_ix, E_rev, E_slc, E_lst, E_tup, E_dic0, E_call, E_make, E_meth, E_callv, E_bc, E_bm, bmX_l, bmX_d, kindU_ref, E_isi, E_rngL, E_sset, E_comp, evEs, T_cst, T_glo, T_var, T_bin, T_neg, T_fld, T_ix, T_rev, T_slc, T_lst, T_tup, T_call, T_make, T_meth, T_callv, T_bc, T_bm, T_isi, T_comp, T_not, T_and, T_or, T_ife, T_cmp, T_cmp2, isB_bl, E_and, E_or, E_ife, E_cmp2, evO, evC, evI, evG, evGs, wipeS, permU, calN_call, calN_cs, getS_0, getS_s, newL_c, newT_c, tru_bl, tru_int, tru_non, tru_lst, tru_tup, bin_add, bin_sub, bin_mulc, bin_fdivc, bin_mod, bin_addL, cmp_lt, cmp_le, cmp_gt, cmp_ge, cmp_isN, cmp_isnN, isNon_non, isNon_int, isNon_tup, isNon_lst, isNon_ref, isNon_bl, cmp_eqI, cmp_neI, cmp_eq, cmp_ne, cmpEq_n, eqD_if, own_ref, der_ref, id_b, own_lst, own_tup, own_non, own_bl, own_int, own_str, der_lst, der_tup, der_non, der_int, der_bl, der_str, isD_int, isD_bl, isD_non, isD_bstr, isD_tup, isD_lst, eqv_int, eqv_bl, eqv_non, eqv_str, eqv_lst, eqv_tup, eqvs_nil, eqvs_nc, eqvs_cn, eqvs_cc, eqvs_n, eqv_ni, eqv_in, bc_int, bc_abs, bc_max, bc_min, bc_divmod, bc_len, bc_lenF, bc_lenT, bc_list, bc_listT, bc_tuple, rep_bl, ix_lst, ix_tup, ix_frz, at_0, at_1, at_2, at_3, at_4, slc_lst, rev_lst, fldU, setFld, methOf, putF, isiU, isOne, tyName, thaw, isFr, Mi.tgsL, List.contains_cons, List.contains_nil, List.length_cons, List.length_nil, List.length_append, List.length_map, List.set_cons_zero, List.set_cons_succ, List.lookup_cons, List.lookup_nil, Option.map_some, Bool.not_true, Bool.not_false, Nat.reduceBEq, Nat.reduceEqDiff, Nat.reduceAdd, Nat.reduceLT, Int.reduceEq, Int.reduceNe, Int.reduceLT, Int.reduceLE, if_true, if_false, reduceIte, decide_true, decide_false, decide_eq_true_eq, Bool.false_eq_true, Bool.and_true, Bool.true_and, Bool.and_false, Bool.false_and, Bool.or_true, Bool.or_false, Bool.true_or, Bool.false_or, beq_self_eq_true, Nat.zero_add, List.nil_append, List.isEmpty_nil, List.isEmpty_cons, and_self, true_and, and_true, eq_self, bt_beq, reduceCtorEq, List.set_set, List.all_nil, List.all_cons, List.all_append, set_app, get_app_eq, cut_tl, List.length_set, len_ref_a, list_ref_a, seq_ref_a, lsf_ref_a, dic_ref_a, lst_ref_a, seq_lst, seq_tup, lsf_lst, ix_ref_a, slc_ref_a, rev_ref_a, app_ref_a, appX_l, setIx_ref_a, bin_addX, addU, lstU, List.getElem?_set_ne, List.getElem?_set_self, List.getElem?_append_left, get_app_len, set_app_len, cs0, mk0, e]) S.asd⟩
    clear stay S0 hp hb
    generalize g.set 0 (.lst [.int a', .int b']) = g' at S1
    have l5 := S1.len.1
    have lo := S1.len.2
    obtain ⟨a, b, hp, hb⟩ := S1.po
    generalize en : max 0 (first + r - 1) = n
    have n0 : 0 ≤ n := by omega
    simp -dsimp (maxSteps := 1000000) (disch := first | assumption | omega | (simp only [List.length_cons, List.length_nil, List.length_append, List.length_map, List.length_take, List.length_drop, List.length_set, List.length_range, List.length_reverse] <;> omega) | rfl | decide) only [OkS_cons, OkS_nil, OkS_nx, OkS_rt, OkS_bk, OkS_ct, OkS_toS, OkS_if, Ok_bind, Ok_bindN, Ok_nx, Ok_ok, Ok_ofS, S_expr, S_asg, S_ret, S_retN, S_pass, S_brk, S_cont, S_for, S_par, par2, par3, cst_int, cst_non, cst_bl, cst_str, ofW, ofWs, E_cst, E_glo, E_var, E_mut, E_bin, E_neg, E_not, E_cmp, E_fld, E_ix, E_rev, E_slc, E_lst, E_tup, E_dic0, E_call, E_make, E_meth, E_callv, E_bc, E_bm, bmX_l, bmX_d, kindU_ref, E_isi, E_rngL, E_sset, E_comp, evEs, T_cst, T_glo, T_var, T_bin, T_neg, T_fld, T_ix, T_rev, T_slc, T_lst, T_tup, T_call, T_make, T_meth, T_callv, T_bc, T_bm, T_isi, T_comp, T_not, T_and, T_or, T_ife, T_cmp, T_cmp2, isB_bl, E_and, E_or, E_ife, E_cmp2, evO, evC, evI, evG, evGs, wipeS, permU, calN_call, calN_cs, getS_0, getS_s, newL_c, newT_c, tru_bl, tru_int, tru_non, tru_lst, tru_tup, bin_add, bin_sub, bin_mulc, bin_fdivc, bin_mod, bin_addL, cmp_lt, cmp_le, cmp_gt, cmp_ge, cmp_isN, cmp_isnN, isNon_non, isNon_int, isNon_tup, isNon_lst, isNon_ref, isNon_bl, cmp_eqI, cmp_neI, cmp_eq, cmp_ne, cmpEq_n, eqD_if, own_ref, der_ref, id_b, own_lst, own_tup, own_non, own_bl, own_int, own_str, der_lst, der_tup, der_non, der_int, der_bl, der_str, isD_int, isD_bl, isD_non, isD_bstr, isD_tup, isD_lst, eqv_int, eqv_bl, eqv_non, eqv_str, eqv_lst, eqv_tup, eqvs_nil, eqvs_nc, eqvs_cn, eqvs_cc, eqvs_n, eqv_ni, eqv_in, bc_int, bc_abs, bc_max, bc_min, bc_divmod, bc_len, bc_lenF, bc_lenT, bc_list, bc_listT, bc_tuple, rep_bl, ix_lst, ix_tup, ix_frz, at_0, at_1, at_2, at_3, at_4, slc_lst, rev_lst, fldU, setFld, methOf, putF, isiU, isOne, tyName, thaw, isFr, Mi.tgsL, List.contains_cons, List.contains_nil, List.length_cons, List.length_nil, List.length_append, List.length_map, List.set_cons_zero, List.set_cons_succ, List.lookup_cons, List.lookup_nil, Option.map_some, Bool.not_true, Bool.not_false, Nat.reduceBEq, Nat.reduceEqDiff, Nat.reduceAdd, Nat.reduceLT, Int.reduceEq, Int.reduceNe, Int.reduceLT, Int.reduceLE, if_true, if_false, reduceIte, decide_true, decide_false, decide_eq_true_eq, Bool.false_eq_true, Bool.and_true, Bool.true_and, Bool.and_false, Bool.false_and, Bool.or_true, Bool.or_false, Bool.true_or, Bool.false_or, beq_self_eq_true, Nat.zero_add, List.nil_append, List.isEmpty_nil, List.isEmpty_cons, and_self, true_and, and_true, eq_self, bt_beq, reduceCtorEq, List.set_set, List.all_nil, List.all_cons, List.all_append, set_app, get_app_eq, cut_tl, List.length_set, len_ref_a, list_ref_a, seq_ref_a, lsf_ref_a, dic_ref_a, lst_ref_a, seq_lst, seq_tup, lsf_lst, ix_ref_a, slc_ref_a, rev_ref_a, app_ref_a, appX_l, setIx_ref_a, bin_addX, addU, lstU, List.getElem?_set_ne, List.getElem?_set_self, List.getElem?_append_left, get_app_len, set_app_len, cs0, mk0, en, drop_ S1.ob f0 (by omega) (x := .ref o) (n := n) (fun o' => isL_r (by simp -dsimp (maxSteps := 1000000) (disch := first | assumption | omega | (simp only [List.length_cons, List.length_nil, List.length_append, List.length_map, List.length_take, List.length_drop, List.length_set, List.length_range, List.length_reverse] <;> omega) | rfl | decide) only [OkS_cons, OkS_nil, OkS_nx, OkS_rt, OkS_bk, OkS_ct, OkS_toS, OkS_if, Ok_bind, Ok_bindN, Ok_nx, Ok_ok, Ok_ofS, S_expr, S_asg, S_ret, S_retN, S_pass, S_brk, S_cont, S_for, S_par, par2, par3, cst_int, cst_non, cst_bl, cst_str, ofW, ofWs, E_cst, E_glo, E_var, E_mut, E_bin, E_neg, E_not, E_cmp, E_fld, E_ix, E_rev, E_slc, E_lst, E_tup, E_dic0, E_call, E_make, E_meth, E_callv, E_bc, E_bm, bmX_l, bmX_d, kindU_ref, E_isi, E_rngL, E_sset, E_comp, evEs, T_cst, T_glo, T_var, T_bin, T_neg, T_fld, T_ix, T_rev, T_slc, T_lst, T_tup, T_call, T_make, T_meth, T_callv, T_bc, T_bm, T_isi, T_comp, T_not, T_and, T_or, T_ife, T_cmp, T_cmp2, isB_bl, E_and, E_or, E_ife, E_cmp2, evO, evC, evI, evG, evGs, wipeS, permU, calN_call, calN_cs, getS_0, getS_s, newL_c, newT_c, tru_bl, tru_int, tru_non, tru_lst, tru_tup, bin_add, bin_sub, bin_mulc, bin_fdivc, bin_mod, bin_addL, cmp_lt, cmp_le, cmp_gt, cmp_ge, cmp_isN, cmp_isnN, isNon_non, isNon_int, isNon_tup, isNon_lst, isNon_ref, isNon_bl, cmp_eqI, cmp_neI, cmp_eq, cmp_ne, cmpEq_n, eqD_if, own_ref, der_ref, id_b, own_lst, own_tup, own_non, own_bl, own_int, own_str, der_lst, der_tup, der_non, der_int, der_bl, der_str, isD_int, isD_bl, isD_non, isD_bstr, isD_tup, isD_lst, eqv_int, eqv_bl, eqv_non, eqv_str, eqv_lst, eqv_tup, eqvs_nil, eqvs_nc, eqvs_cn, eqvs_cc, eqvs_n, eqv_ni, eqv_in, bc_int, bc_abs, bc_max, bc_min, bc_divmod, bc_len, bc_lenF, bc_lenT, bc_list, bc_listT, bc_tuple, rep_bl, ix_lst, ix_tup, ix_frz, at_0, at_1, at_2, at_3, at_4, slc_lst, rev_lst, fldU, setFld, methOf, putF, isiU, isOne, tyName, thaw, isFr, Mi.tgsL, List.contains_cons, List.contains_nil, List.length_cons, List.length_nil, List.length_append, List.length_map, List.set_cons_zero, List.set_cons_succ, List.lookup_cons, List.lookup_nil, Option.map_some, Bool.not_true, Bool.not_false, Nat.reduceBEq, Nat.reduceEqDiff, Nat.reduceAdd, Nat.reduceLT, Int.reduceEq, Int.reduceNe, Int.reduceLT, Int.reduceLE, if_true, if_false, reduceIte, decide_true, decide_false, decide_eq_true_eq, Bool.false_eq_true, Bool.and_true, Bool.true_and, Bool.and_false, Bool.false_and, Bool.or_true, Bool.or_false, Bool.true_or, Bool.false_or, beq_self_eq_true, Nat.zero_add, List.nil_append, List.isEmpty_nil, List.isEmpty_cons, and_self, true_and, and_true, eq_self, bt_beq, reduceCtorEq, List.set_set, List.all_nil, List.all_cons, List.all_append, set_app, get_app_eq, cut_tl, List.length_set, len_ref_a, list_ref_a, seq_ref_a, lsf_ref_a, dic_ref_a, lst_ref_a, seq_lst, seq_tup, lsf_lst, ix_ref_a, slc_ref_a, rev_ref_a, app_ref_a, appX_l, setIx_ref_a, bin_addX, addU, lstU, List.getElem?_set_ne, List.getElem?_set_self, List.getElem?_append_left, get_app_len, set_app_len, cs0, mk0, S1.ow])) n0, S1.ow]
    generalize em : (n - first).toNat = m
    have ek : max 0 (n - first) = (m : Int) := by omega
    rw [ek, cut_drop (by omega), Int.toNat_natCast]
    generalize eg : g'.set 1 (.ins 0 [(0, .int many), (1, .int first), (2, .lst (thL (es.take m))), (3, .lst (dnL (es.take m)))]) = g1
    have en1 : g1[3]? = some (.lst (ksL (lefts ++ es.map Prod.fst))) := by rw [← eg]; simp -dsimp (maxSteps := 1000000) (disch := first | assumption | omega | (simp only [List.length_cons, List.length_nil, List.length_append, List.length_map, List.length_take, List.length_drop, List.length_set, List.length_range, List.length_reverse] <;> omega) | rfl | decide) only [OkS_cons, OkS_nil, OkS_nx, OkS_rt, OkS_bk, OkS_ct, OkS_toS, OkS_if, Ok_bind, Ok_bindN, Ok_nx, Ok_ok, Ok_ofS, S_expr, S_asg, S_ret, S_retN, S_pass, S_brk, S_cont, S_for, S_par, par2, par3, cst_int, cst_non, cst_bl, cst_str, ofW, ofWs, E_cst, E_glo, E_var, E_mut, E_bin, E_neg, E_not, E_cmp, E_fld, E_ix, E_rev, E_slc, E_lst, E_tup, E_dic0, E_call, E_make, E_meth, E_callv, E_bc, E_bm, bmX_l, bmX_d, kindU_ref, E_isi, E_rngL, E_sset, E_comp, evEs, T_cst, T_glo, T_var, T_bin, T_neg, T_fld, T_ix, T_rev, T_slc, T_lst, T_tup, T_call, T_make, T_meth, T_callv, T_bc, T_bm, T_isi, T_comp, T_not, T_and, T_or, T_ife, T_cmp, T_cmp2, isB_bl, E_and, E_or, E_ife, E_cmp2, evO, evC, evI, evG, evGs, wipeS, permU, calN_call, calN_cs, getS_0, getS_s, newL_c, newT_c, tru_bl, tru_int, tru_non, tru_lst, tru_tup, bin_add, bin_sub, bin_mulc, bin_fdivc, bin_mod, bin_addL, cmp_lt, cmp_le, cmp_gt, cmp_ge, cmp_isN, cmp_isnN, isNon_non, isNon_int, isNon_tup, isNon_lst, isNon_ref, isNon_bl, cmp_eqI, cmp_neI, cmp_eq, cmp_ne, cmpEq_n, eqD_if, own_ref, der_ref, id_b, own_lst, own_tup, own_non, own_bl, own_int, own_str, der_lst, der_tup, der_non, der_int, der_bl, der_str, isD_int, isD_bl, isD_non, isD_bstr, isD_tup, isD_lst, eqv_int, eqv_bl, eqv_non, eqv_str, eqv_lst, eqv_tup, eqvs_nil, eqvs_nc, eqvs_cn, eqvs_cc, eqvs_n, eqv_ni, eqv_in, bc_int, bc_abs, bc_max, bc_min, bc_divmod, bc_len, bc_lenF, bc_lenT, bc_list, bc_listT, bc_tuple, rep_bl, ix_lst, ix_tup, ix_frz, at_0, at_1, at_2, at_3, at_4, slc_lst, rev_lst, fldU, setFld, methOf, putF, isiU, isOne, tyName, thaw, isFr, Mi.tgsL, List.contains_cons, List.contains_nil, List.length_cons, List.length_nil, List.length_append, List.length_map, List.set_cons_zero, List.set_cons_succ, List.lookup_cons, List.lookup_nil, Option.map_some, Bool.not_true, Bool.not_false, Nat.reduceBEq, Nat.reduceEqDiff, Nat.reduceAdd, Nat.reduceLT, Int.reduceEq, Int.reduceNe, Int.reduceLT, Int.reduceLE, if_true, if_false, reduceIte, decide_true, decide_false, decide_eq_true_eq, Bool.false_eq_true, Bool.and_true, Bool.true_and, Bool.and_false, Bool.false_and, Bool.or_true, Bool.or_false, Bool.true_or, Bool.false_or, beq_self_eq_true, Nat.zero_add, List.nil_append, List.isEmpty_nil, List.isEmpty_cons, and_self, true_and, and_true, eq_self, bt_beq, reduceCtorEq, List.set_set, List.all_nil, List.all_cons, List.all_append, set_app, get_app_eq, cut_tl, List.length_set, len_ref_a, list_ref_a, seq_ref_a, lsf_ref_a, dic_ref_a, lst_ref_a, seq_lst, seq_tup, lsf_lst, ix_ref_a, slc_ref_a, rev_ref_a, app_ref_a, appX_l, setIx_ref_a, bin_addX, addU, lstU, List.getElem?_set_ne, List.getElem?_set_self, List.getElem?_append_left, get_app_len, set_app_len, cs0, mk0, S1.en]
    have l51 : 5 ≤ g1.length := by rw [← eg]; simp; omega
    refine for_dat (src_seq rfl) (es.drop m) (fun e => .tup [.lst [.int e.1], .bl e.2]) (by simp) (fun j s h' => h' = g1.set 3 (.lst (ksL (lefts ++ (es.take m ++ es.drop (m + j)).map Prod.fst))) ∧ ∃ t14 t15, s = [some (.ref 0), some (.int many), some (.ref 1), some (.ref o), some (.int first), some (.int made), some (.ref 3), some (.ref 4), some as, t9, some (.int 3), t11, some (.int n), some (.int m), t14, t15]) ?_ (fun i s h' iv => src_seq rfl) ?_ ?_
    · refine ⟨?_, _, _, rfl⟩
      rw [Nat.add_zero, List.take_append_drop, set_same en1]
    · rintro j s h' ⟨k, b1⟩ ea ⟨rfl, t14, t15, rfl⟩
      have ej : es[m + j]? = some (k, b1) := by rw [List.getElem?_drop] at ea; exact ea
      have lt : m + j < es.length := (List.getElem?_eq_some_iff.mp ej).1
      have e1 : es.drop (m + j) = (k, b1) :: es.drop (m + (j + 1)) := by
        rw [List.drop_eq_getElem_cons lt]
        have := (List.getElem?_eq_some_iff.mp ej).2
        rw [this]; rfl
      have nk : k ∉ lefts ++ (es.take m).map Prod.fst := by
        have nd := S1.nd
        have e2 : es = es.take (m + j) ++ ((k, b1) :: es.drop (m + (j + 1))) := by rw [← e1, List.take_append_drop]
        rw [e2, List.map_append, List.map_cons, ← List.append_assoc] at nd
        have := (List.nodup_append.mp nd).2.2
        intro hk
        refine this k ?_ k (by simp) rfl
        rcases List.mem_append.mp hk with hk | hk
        · exact List.mem_append_left _ hk
        · refine List.mem_append_right _ ?_
          obtain ⟨x, hx, rfl⟩ := List.mem_map.mp hk
          exact List.mem_map_of_mem ((List.take_subset_take_left es (show m ≤ m + j by omega)) hx)
      have e3 : ((lefts ++ (es.take m ++ es.drop (m + j)).map Prod.fst).erase k) = lefts ++ (es.take m ++ es.drop (m + (j + 1))).map Prod.fst := by
        rw [e1, List.map_append, List.map_cons, ← List.append_assoc, List.erase_append_right _ nk, List.erase_cons_head, List.map_append, List.append_assoc]
      have e4 : k ∈ lefts ++ (es.take m ++ es.drop (m + j)).map Prod.fst := by
        rw [e1]; simp
      have e5 := rem_ok (h := g1.set 3 (.lst (ksL (lefts ++ (es.take m ++ es.drop (m + j)).map Prod.fst)))) (n := 3) (f := fun k : Int => U.lst [.int k]) (k := k) (l := lefts ++ (es.take m ++ es.drop (m + j)).map Prod.fst) (by simp -dsimp (maxSteps := 1000000) (disch := first | assumption | omega | (simp only [List.length_cons, List.length_nil, List.length_append, List.length_map, List.length_take, List.length_drop, List.length_set, List.length_range, List.length_reverse] <;> omega) | rfl | decide) only [OkS_cons, OkS_nil, OkS_nx, OkS_rt, OkS_bk, OkS_ct, OkS_toS, OkS_if, Ok_bind, Ok_bindN, Ok_nx, Ok_ok, Ok_ofS, S_expr, S_asg, S_ret, S_retN, S_pass, S_brk, S_cont, S_for, S_par, par2, par3, cst_int, cst_non, cst_bl, cst_str, ofW, ofWs, E_cst, E_glo, E_var, E_mut, E_bin, E_neg, E_not, E_cmp, E_fld, E_ix, E_rev, E_slc, E_lst, E_tup, E_dic0, E_call, E_make, E_meth, E_callv, E_bc, E_bm, bmX_l, bmX_d, kindU_ref, E_isi, E_rngL, E_sset, E_comp, evEs, T_cst, T_glo, T_var, T_bin, T_neg, T_fld, T_ix, T_rev, T_slc, T_lst, T_tup, T_call, T_make, T_meth, T_callv, T_bc, T_bm, T_isi, T_comp, T_not, T_and, T_or, T_ife, T_cmp, T_cmp2, isB_bl, E_and, E_or, E_ife, E_cmp2, evO, evC, evI, evG, evGs, wipeS, permU, calN_call, calN_cs, getS_0, getS_s, newL_c, newT_c, tru_bl, tru_int, tru_non, tru_lst, tru_tup, bin_add, bin_sub, bin_mulc, bin_fdivc, bin_mod, bin_addL, cmp_lt, cmp_le, cmp_gt, cmp_ge, cmp_isN, cmp_isnN, isNon_non, isNon_int, isNon_tup, isNon_lst, isNon_ref, isNon_bl, cmp_eqI, cmp_neI, cmp_eq, cmp_ne, cmpEq_n, eqD_if, own_ref, der_ref, id_b, own_lst, own_tup, own_non, own_bl, own_int, own_str, der_lst, der_tup, der_non, der_int, der_bl, der_str, isD_int, isD_bl, isD_non, isD_bstr, isD_tup, isD_lst, eqv_int, eqv_bl, eqv_non, eqv_str, eqv_lst, eqv_tup, eqvs_nil, eqvs_nc, eqvs_cn, eqvs_cc, eqvs_n, eqv_ni, eqv_in, bc_int, bc_abs, bc_max, bc_min, bc_divmod, bc_len, bc_lenF, bc_lenT, bc_list, bc_listT, bc_tuple, rep_bl, ix_lst, ix_tup, ix_frz, at_0, at_1, at_2, at_3, at_4, slc_lst, rev_lst, fldU, setFld, methOf, putF, isiU, isOne, tyName, thaw, isFr, Mi.tgsL, List.contains_cons, List.contains_nil, List.length_cons, List.length_nil, List.length_append, List.length_map, List.set_cons_zero, List.set_cons_succ, List.lookup_cons, List.lookup_nil, Option.map_some, Bool.not_true, Bool.not_false, Nat.reduceBEq, Nat.reduceEqDiff, Nat.reduceAdd, Nat.reduceLT, Int.reduceEq, Int.reduceNe, Int.reduceLT, Int.reduceLE, if_true, if_false, reduceIte, decide_true, decide_false, decide_eq_true_eq, Bool.false_eq_true, Bool.and_true, Bool.true_and, Bool.and_false, Bool.false_and, Bool.or_true, Bool.or_false, Bool.true_or, Bool.false_or, beq_self_eq_true, Nat.zero_add, List.nil_append, List.isEmpty_nil, List.isEmpty_cons, and_self, true_and, and_true, eq_self, bt_beq, reduceCtorEq, List.set_set, List.all_nil, List.all_cons, List.all_append, set_app, get_app_eq, cut_tl, List.length_set, len_ref_a, list_ref_a, seq_ref_a, lsf_ref_a, dic_ref_a, lst_ref_a, seq_lst, seq_tup, lsf_lst, ix_ref_a, slc_ref_a, rev_ref_a, app_ref_a, appX_l, setIx_ref_a, bin_addX, addU, lstU, List.getElem?_set_ne, List.getElem?_set_self, List.getElem?_append_left, get_app_len, set_app_len, cs0, mk0]) (fun a _ => by simp [eqv_lst, eqvs_cc, eqv_int, eqvs_nil]) (fun a _ => rfl) rfl e4
      rw [e3] at e5
      simp -dsimp (maxSteps := 1000000) (disch := first | assumption | omega | (simp only [List.length_cons, List.length_nil, List.length_append, List.length_map, List.length_take, List.length_drop, List.length_set, List.length_range, List.length_reverse] <;> omega) | rfl | decide) only [OkS_cons, OkS_nil, OkS_nx, OkS_rt, OkS_bk, OkS_ct, OkS_toS, OkS_if, Ok_bind, Ok_bindN, Ok_nx, Ok_ok, Ok_ofS, S_expr, S_asg, S_ret, S_retN, S_pass, S_brk, S_cont, S_for, S_par, par2, par3, cst_int, cst_non, cst_bl, cst_str, ofW, ofWs, E_cst, E_glo, E_var, E_mut, E_bin, E_neg, E_not, E_cmp, E_fld, E_ix, E_rev, E_slc, E_lst, E_tup, E_dic0, E_call, E_make, E_meth, E_callv, E_bc, E_bm, bmX_l, bmX_d, kindU_ref, E_isi, E_rngL, E_sset, E_comp, evEs, T_cst, T_glo, T_var, T_bin, T_neg, T_fld, T_ix, T_rev, T_slc, T_lst, T_tup, T_call, T_make, T_meth, T_callv, T_bc, T_bm, T_isi, T_comp, T_not, T_and, T_or, T_ife, T_cmp, T_cmp2, isB_bl, E_and, E_or, E_ife, E_cmp2, evO, evC, evI, evG, evGs, wipeS, permU, calN_call, calN_cs, getS_0, getS_s, newL_c, newT_c, tru_bl, tru_int, tru_non, tru_lst, tru_tup, bin_add, bin_sub, bin_mulc, bin_fdivc, bin_mod, bin_addL, cmp_lt, cmp_le, cmp_gt, cmp_ge, cmp_isN, cmp_isnN, isNon_non, isNon_int, isNon_tup, isNon_lst, isNon_ref, isNon_bl, cmp_eqI, cmp_neI, cmp_eq, cmp_ne, cmpEq_n, eqD_if, own_ref, der_ref, id_b, own_lst, own_tup, own_non, own_bl, own_int, own_str, der_lst, der_tup, der_non, der_int, der_bl, der_str, isD_int, isD_bl, isD_non, isD_bstr, isD_tup, isD_lst, eqv_int, eqv_bl, eqv_non, eqv_str, eqv_lst, eqv_tup, eqvs_nil, eqvs_nc, eqvs_cn, eqvs_cc, eqvs_n, eqv_ni, eqv_in, bc_int, bc_abs, bc_max, bc_min, bc_divmod, bc_len, bc_lenF, bc_lenT, bc_list, bc_listT, bc_tuple, rep_bl, ix_lst, ix_tup, ix_frz, at_0, at_1, at_2, at_3, at_4, slc_lst, rev_lst, fldU, setFld, methOf, putF, isiU, isOne, tyName, thaw, isFr, Mi.tgsL, List.contains_cons, List.contains_nil, List.length_cons, List.length_nil, List.length_append, List.length_map, List.set_cons_zero, List.set_cons_succ, List.lookup_cons, List.lookup_nil, Option.map_some, Bool.not_true, Bool.not_false, Nat.reduceBEq, Nat.reduceEqDiff, Nat.reduceAdd, Nat.reduceLT, Int.reduceEq, Int.reduceNe, Int.reduceLT, Int.reduceLE, if_true, if_false, reduceIte, decide_true, decide_false, decide_eq_true_eq, Bool.false_eq_true, Bool.and_true, Bool.true_and, Bool.and_false, Bool.false_and, Bool.or_true, Bool.or_false, Bool.true_or, Bool.false_or, beq_self_eq_true, Nat.zero_add, List.nil_append, List.isEmpty_nil, List.isEmpty_cons, and_self, true_and, and_true, eq_self, bt_beq, reduceCtorEq, List.set_set, List.all_nil, List.all_cons, List.all_append, set_app, get_app_eq, cut_tl, List.length_set, len_ref_a, list_ref_a, seq_ref_a, lsf_ref_a, dic_ref_a, lst_ref_a, seq_lst, seq_tup, lsf_lst, ix_ref_a, slc_ref_a, rev_ref_a, app_ref_a, appX_l, setIx_ref_a, bin_addX, addU, lstU, List.getElem?_set_ne, List.getElem?_set_self, List.getElem?_append_left, get_app_len, set_app_len, cs0, mk0, e5]
      exact ⟨_, _, rfl⟩
    · rintro s h' ⟨rfl, t14, t15, rfl⟩
      have e6 : es.drop (m + (es.drop m).length) = [] := by simp; omega
      rw [e6, List.append_nil]
      have ow1 : g1[o]? = some (.lst (owL es)) := by rw [← eg]; simp -dsimp (maxSteps := 1000000) (disch := first | assumption | omega | (simp only [List.length_cons, List.length_nil, List.length_append, List.length_map, List.length_take, List.length_drop, List.length_set, List.length_range, List.length_reverse] <;> omega) | rfl | decide) only [OkS_cons, OkS_nil, OkS_nx, OkS_rt, OkS_bk, OkS_ct, OkS_toS, OkS_if, Ok_bind, Ok_bindN, Ok_nx, Ok_ok, Ok_ofS, S_expr, S_asg, S_ret, S_retN, S_pass, S_brk, S_cont, S_for, S_par, par2, par3, cst_int, cst_non, cst_bl, cst_str, ofW, ofWs, E_cst, E_glo, E_var, E_mut, E_bin, E_neg, E_not, E_cmp, E_fld, E_ix, E_rev, E_slc, E_lst, E_tup, E_dic0, E_call, E_make, E_meth, E_callv, E_bc, E_bm, bmX_l, bmX_d, kindU_ref, E_isi, E_rngL, E_sset, E_comp, evEs, T_cst, T_glo, T_var, T_bin, T_neg, T_fld, T_ix, T_rev, T_slc, T_lst, T_tup, T_call, T_make, T_meth, T_callv, T_bc, T_bm, T_isi, T_comp, T_not, T_and, T_or, T_ife, T_cmp, T_cmp2, isB_bl, E_and, E_or, E_ife, E_cmp2, evO, evC, evI, evG, evGs, wipeS, permU, calN_call, calN_cs, getS_0, getS_s, newL_c, newT_c, tru_bl, tru_int, tru_non, tru_lst, tru_tup, bin_add, bin_sub, bin_mulc, bin_fdivc, bin_mod, bin_addL, cmp_lt, cmp_le, cmp_gt, cmp_ge, cmp_isN, cmp_isnN, isNon_non, isNon_int, isNon_tup, isNon_lst, isNon_ref, isNon_bl, cmp_eqI, cmp_neI, cmp_eq, cmp_ne, cmpEq_n, eqD_if, own_ref, der_ref, id_b, own_lst, own_tup, own_non, own_bl, own_int, own_str, der_lst, der_tup, der_non, der_int, der_bl, der_str, isD_int, isD_bl, isD_non, isD_bstr, isD_tup, isD_lst, eqv_int, eqv_bl, eqv_non, eqv_str, eqv_lst, eqv_tup, eqvs_nil, eqvs_nc, eqvs_cn, eqvs_cc, eqvs_n, eqv_ni, eqv_in, bc_int, bc_abs, bc_max, bc_min, bc_divmod, bc_len, bc_lenF, bc_lenT, bc_list, bc_listT, bc_tuple, rep_bl, ix_lst, ix_tup, ix_frz, at_0, at_1, at_2, at_3, at_4, slc_lst, rev_lst, fldU, setFld, methOf, putF, isiU, isOne, tyName, thaw, isFr, Mi.tgsL, List.contains_cons, List.contains_nil, List.length_cons, List.length_nil, List.length_append, List.length_map, List.set_cons_zero, List.set_cons_succ, List.lookup_cons, List.lookup_nil, Option.map_some, Bool.not_true, Bool.not_false, Nat.reduceBEq, Nat.reduceEqDiff, Nat.reduceAdd, Nat.reduceLT, Int.reduceEq, Int.reduceNe, Int.reduceLT, Int.reduceLE, if_true, if_false, reduceIte, decide_true, decide_false, decide_eq_true_eq, Bool.false_eq_true, Bool.and_true, Bool.true_and, Bool.and_false, Bool.false_and, Bool.or_true, Bool.or_false, Bool.true_or, Bool.false_or, beq_self_eq_true, Nat.zero_add, List.nil_append, List.isEmpty_nil, List.isEmpty_cons, and_self, true_and, and_true, eq_self, bt_beq, reduceCtorEq, List.set_set, List.all_nil, List.all_cons, List.all_append, set_app, get_app_eq, cut_tl, List.length_set, len_ref_a, list_ref_a, seq_ref_a, lsf_ref_a, dic_ref_a, lst_ref_a, seq_lst, seq_tup, lsf_lst, ix_ref_a, slc_ref_a, rev_ref_a, app_ref_a, appX_l, setIx_ref_a, bin_addX, addU, lstU, List.getElem?_set_ne, List.getElem?_set_self, List.getElem?_append_left, get_app_len, set_app_len, cs0, mk0, S1.ow]
      have lo1 : o < g1.length := by rw [← eg]; simpa using lo
      simp -dsimp (maxSteps := 1000000) (disch := first | assumption | omega | (simp only [List.length_cons, List.length_nil, List.length_append, List.length_map, List.length_take, List.length_drop, List.length_set, List.length_range, List.length_reverse] <;> omega) | rfl | decide) only [OkS_cons, OkS_nil, OkS_nx, OkS_rt, OkS_bk, OkS_ct, OkS_toS, OkS_if, Ok_bind, Ok_bindN, Ok_nx, Ok_ok, Ok_ofS, S_expr, S_asg, S_ret, S_retN, S_pass, S_brk, S_cont, S_for, S_par, par2, par3, cst_int, cst_non, cst_bl, cst_str, ofW, ofWs, E_cst, E_glo, E_var, E_mut, E_bin, E_neg, E_not, E_cmp, E_fld, E_ix, E_rev, E_slc, E_lst, E_tup, E_dic0, E_call, E_make, E_meth, E_callv, E_bc, E_bm, bmX_l, bmX_d, kindU_ref, E_isi, E_rngL, E_sset, E_comp, evEs, T_cst, T_glo, T_var, T_bin, T_neg, T_fld, T_ix, T_rev, T_slc, T_lst, T_tup, T_call, T_make, T_meth, T_callv, T_bc, T_bm, T_isi, T_comp, T_not, T_and, T_or, T_ife, T_cmp, T_cmp2, isB_bl, E_and, E_or, E_ife, E_cmp2, evO, evC, evI, evG, evGs, wipeS, permU, calN_call, calN_cs, getS_0, getS_s, newL_c, newT_c, tru_bl, tru_int, tru_non, tru_lst, tru_tup, bin_add, bin_sub, bin_mulc, bin_fdivc, bin_mod, bin_addL, cmp_lt, cmp_le, cmp_gt, cmp_ge, cmp_isN, cmp_isnN, isNon_non, isNon_int, isNon_tup, isNon_lst, isNon_ref, isNon_bl, cmp_eqI, cmp_neI, cmp_eq, cmp_ne, cmpEq_n, eqD_if, own_ref, der_ref, id_b, own_lst, own_tup, own_non, own_bl, own_int, own_str, der_lst, der_tup, der_non, der_int, der_bl, der_str, isD_int, isD_bl, isD_non, isD_bstr, isD_tup, isD_lst, eqv_int, eqv_bl, eqv_non, eqv_str, eqv_lst, eqv_tup, eqvs_nil, eqvs_nc, eqvs_cn, eqvs_cc, eqvs_n, eqv_ni, eqv_in, bc_int, bc_abs, bc_max, bc_min, bc_divmod, bc_len, bc_lenF, bc_lenT, bc_list, bc_listT, bc_tuple, rep_bl, ix_lst, ix_tup, ix_frz, at_0, at_1, at_2, at_3, at_4, slc_lst, rev_lst, fldU, setFld, methOf, putF, isiU, isOne, tyName, thaw, isFr, Mi.tgsL, List.contains_cons, List.contains_nil, List.length_cons, List.length_nil, List.length_append, List.length_map, List.set_cons_zero, List.set_cons_succ, List.lookup_cons, List.lookup_nil, Option.map_some, Bool.not_true, Bool.not_false, Nat.reduceBEq, Nat.reduceEqDiff, Nat.reduceAdd, Nat.reduceLT, Int.reduceEq, Int.reduceNe, Int.reduceLT, Int.reduceLE, if_true, if_false, reduceIte, decide_true, decide_false, decide_eq_true_eq, Bool.false_eq_true, Bool.and_true, Bool.true_and, Bool.and_false, Bool.false_and, Bool.or_true, Bool.or_false, Bool.true_or, Bool.false_or, beq_self_eq_true, Nat.zero_add, List.nil_append, List.isEmpty_nil, List.isEmpty_cons, and_self, true_and, and_true, eq_self, bt_beq, reduceCtorEq, List.set_set, List.all_nil, List.all_cons, List.all_append, set_app, get_app_eq, cut_tl, List.length_set, len_ref_a, list_ref_a, seq_ref_a, lsf_ref_a, dic_ref_a, lst_ref_a, seq_lst, seq_tup, lsf_lst, ix_ref_a, slc_ref_a, rev_ref_a, app_ref_a, appX_l, setIx_ref_a, bin_addX, addU, lstU, List.getElem?_set_ne, List.getElem?_set_self, List.getElem?_append_left, get_app_len, set_app_len, cs0, mk0, ow1, cut_take (show (0 : Int) ≤ (m : Int) by omega), Int.toNat_natCast]
      have tl : (es.take m).length ≤ es.length := by simp; omega
      have sub : ((lefts ++ (es.take m).map Prod.fst)).Sublist (lefts ++ es.map Prod.fst) := List.Sublist.append (List.Sublist.refl _) ((List.take_sublist _ _).map _)
      refine St.go (i := i + 1) many first made (es.take m) lefts _ as ⟨⟨a, b, by rw [← eg]; simp -dsimp (maxSteps := 1000000) (disch := first | assumption | omega | (simp only [List.length_cons, List.length_nil, List.length_append, List.length_map, List.length_take, List.length_drop, List.length_set, List.length_range, List.length_reverse] <;> omega) | rfl | decide) only [OkS_cons, OkS_nil, OkS_nx, OkS_rt, OkS_bk, OkS_ct, OkS_toS, OkS_if, Ok_bind, Ok_bindN, Ok_nx, Ok_ok, Ok_ofS, S_expr, S_asg, S_ret, S_retN, S_pass, S_brk, S_cont, S_for, S_par, par2, par3, cst_int, cst_non, cst_bl, cst_str, ofW, ofWs, E_cst, E_glo, E_var, E_mut, E_bin, E_neg, E_not, E_cmp, E_fld, E_ix, E_rev, E_slc, E_lst, E_tup, E_dic0, E_call, E_make, E_meth, E_callv, E_bc, E_bm, bmX_l, bmX_d, kindU_ref, E_isi, E_rngL, E_sset, E_comp, evEs, T_cst, T_glo, T_var, T_bin, T_neg, T_fld, T_ix, T_rev, T_slc, T_lst, T_tup, T_call, T_make, T_meth, T_callv, T_bc, T_bm, T_isi, T_comp, T_not, T_and, T_or, T_ife, T_cmp, T_cmp2, isB_bl, E_and, E_or, E_ife, E_cmp2, evO, evC, evI, evG, evGs, wipeS, permU, calN_call, calN_cs, getS_0, getS_s, newL_c, newT_c, tru_bl, tru_int, tru_non, tru_lst, tru_tup, bin_add, bin_sub, bin_mulc, bin_fdivc, bin_mod, bin_addL, cmp_lt, cmp_le, cmp_gt, cmp_ge, cmp_isN, cmp_isnN, isNon_non, isNon_int, isNon_tup, isNon_lst, isNon_ref, isNon_bl, cmp_eqI, cmp_neI, cmp_eq, cmp_ne, cmpEq_n, eqD_if, own_ref, der_ref, id_b, own_lst, own_tup, own_non, own_bl, own_int, own_str, der_lst, der_tup, der_non, der_int, der_bl, der_str, isD_int, isD_bl, isD_non, isD_bstr, isD_tup, isD_lst, eqv_int, eqv_bl, eqv_non, eqv_str, eqv_lst, eqv_tup, eqvs_nil, eqvs_nc, eqvs_cn, eqvs_cc, eqvs_n, eqv_ni, eqv_in, bc_int, bc_abs, bc_max, bc_min, bc_divmod, bc_len, bc_lenF, bc_lenT, bc_list, bc_listT, bc_tuple, rep_bl, ix_lst, ix_tup, ix_frz, at_0, at_1, at_2, at_3, at_4, slc_lst, rev_lst, fldU, setFld, methOf, putF, isiU, isOne, tyName, thaw, isFr, Mi.tgsL, List.contains_cons, List.contains_nil, List.length_cons, List.length_nil, List.length_append, List.length_map, List.set_cons_zero, List.set_cons_succ, List.lookup_cons, List.lookup_nil, Option.map_some, Bool.not_true, Bool.not_false, Nat.reduceBEq, Nat.reduceEqDiff, Nat.reduceAdd, Nat.reduceLT, Int.reduceEq, Int.reduceNe, Int.reduceLT, Int.reduceLE, if_true, if_false, reduceIte, decide_true, decide_false, decide_eq_true_eq, Bool.false_eq_true, Bool.and_true, Bool.true_and, Bool.and_false, Bool.false_and, Bool.or_true, Bool.or_false, Bool.true_or, Bool.false_or, beq_self_eq_true, Nat.zero_add, List.nil_append, List.isEmpty_nil, List.isEmpty_cons, and_self, true_and, and_true, eq_self, bt_beq, reduceCtorEq, List.set_set, List.all_nil, List.all_cons, List.all_append, set_app, get_app_eq, cut_tl, List.length_set, len_ref_a, list_ref_a, seq_ref_a, lsf_ref_a, dic_ref_a, lst_ref_a, seq_lst, seq_tup, lsf_lst, ix_ref_a, slc_ref_a, rev_ref_a, app_ref_a, appX_l, setIx_ref_a, bin_addX, addU, lstU, List.getElem?_set_ne, List.getElem?_set_self, List.getElem?_append_left, get_app_len, set_app_len, cs0, mk0, hp], hb⟩, ?_, ?_, by omega, ?_, ?_, S1.nd.sublist sub, fun k hk => S1.ml k (sub.subset hk), f0, by omega, by omega, by omega, m0, ?_⟩ (by omega) fun S' => ?_
      · rw [← eg]; simp -dsimp (maxSteps := 1000000) (disch := first | assumption | omega | (simp only [List.length_cons, List.length_nil, List.length_append, List.length_map, List.length_take, List.length_drop, List.length_set, List.length_range, List.length_reverse] <;> omega) | rfl | decide) only [OkS_cons, OkS_nil, OkS_nx, OkS_rt, OkS_bk, OkS_ct, OkS_toS, OkS_if, Ok_bind, Ok_bindN, Ok_nx, Ok_ok, Ok_ofS, S_expr, S_asg, S_ret, S_retN, S_pass, S_brk, S_cont, S_for, S_par, par2, par3, cst_int, cst_non, cst_bl, cst_str, ofW, ofWs, E_cst, E_glo, E_var, E_mut, E_bin, E_neg, E_not, E_cmp, E_fld, E_ix, E_rev, E_slc, E_lst, E_tup, E_dic0, E_call, E_make, E_meth, E_callv, E_bc, E_bm, bmX_l, bmX_d, kindU_ref, E_isi, E_rngL, E_sset, E_comp, evEs, T_cst, T_glo, T_var, T_bin, T_neg, T_fld, T_ix, T_rev, T_slc, T_lst, T_tup, T_call, T_make, T_meth, T_callv, T_bc, T_bm, T_isi, T_comp, T_not, T_and, T_or, T_ife, T_cmp, T_cmp2, isB_bl, E_and, E_or, E_ife, E_cmp2, evO, evC, evI, evG, evGs, wipeS, permU, calN_call, calN_cs, getS_0, getS_s, newL_c, newT_c, tru_bl, tru_int, tru_non, tru_lst, tru_tup, bin_add, bin_sub, bin_mulc, bin_fdivc, bin_mod, bin_addL, cmp_lt, cmp_le, cmp_gt, cmp_ge, cmp_isN, cmp_isnN, isNon_non, isNon_int, isNon_tup, isNon_lst, isNon_ref, isNon_bl, cmp_eqI, cmp_neI, cmp_eq, cmp_ne, cmpEq_n, eqD_if, own_ref, der_ref, id_b, own_lst, own_tup, own_non, own_bl, own_int, own_str, der_lst, der_tup, der_non, der_int, der_bl, der_str, isD_int, isD_bl, isD_non, isD_bstr, isD_tup, isD_lst, eqv_int, eqv_bl, eqv_non, eqv_str, eqv_lst, eqv_tup, eqvs_nil, eqvs_nc, eqvs_cn, eqvs_cc, eqvs_n, eqv_ni, eqv_in, bc_int, bc_abs, bc_max, bc_min, bc_divmod, bc_len, bc_lenF, bc_lenT, bc_list, bc_listT, bc_tuple, rep_bl, ix_lst, ix_tup, ix_frz, at_0, at_1, at_2, at_3, at_4, slc_lst, rev_lst, fldU, setFld, methOf, putF, isiU, isOne, tyName, thaw, isFr, Mi.tgsL, List.contains_cons, List.contains_nil, List.length_cons, List.length_nil, List.length_append, List.length_map, List.set_cons_zero, List.set_cons_succ, List.lookup_cons, List.lookup_nil, Option.map_some, Bool.not_true, Bool.not_false, Nat.reduceBEq, Nat.reduceEqDiff, Nat.reduceAdd, Nat.reduceLT, Int.reduceEq, Int.reduceNe, Int.reduceLT, Int.reduceLE, if_true, if_false, reduceIte, decide_true, decide_false, decide_eq_true_eq, Bool.false_eq_true, Bool.and_true, Bool.true_and, Bool.and_false, Bool.false_and, Bool.or_true, Bool.or_false, Bool.true_or, Bool.false_or, beq_self_eq_true, Nat.zero_add, List.nil_append, List.isEmpty_nil, List.isEmpty_cons, and_self, true_and, and_true, eq_self, bt_beq, reduceCtorEq, List.set_set, List.all_nil, List.all_cons, List.all_append, set_app, get_app_eq, cut_tl, List.length_set, len_ref_a, list_ref_a, seq_ref_a, lsf_ref_a, dic_ref_a, lst_ref_a, seq_lst, seq_tup, lsf_lst, ix_ref_a, slc_ref_a, rev_ref_a, app_ref_a, appX_l, setIx_ref_a, bin_addX, addU, lstU, List.getElem?_set_ne, List.getElem?_set_self, List.getElem?_append_left, get_app_len, set_app_len, cs0, mk0]
      · simp -dsimp (maxSteps := 1000000) (disch := first | assumption | omega | (simp only [List.length_cons, List.length_nil, List.length_append, List.length_map, List.length_take, List.length_drop, List.length_set, List.length_range, List.length_reverse] <;> omega) | rfl | decide) only [OkS_cons, OkS_nil, OkS_nx, OkS_rt, OkS_bk, OkS_ct, OkS_toS, OkS_if, Ok_bind, Ok_bindN, Ok_nx, Ok_ok, Ok_ofS, S_expr, S_asg, S_ret, S_retN, S_pass, S_brk, S_cont, S_for, S_par, par2, par3, cst_int, cst_non, cst_bl, cst_str, ofW, ofWs, E_cst, E_glo, E_var, E_mut, E_bin, E_neg, E_not, E_cmp, E_fld, E_ix, E_rev, E_slc, E_lst, E_tup, E_dic0, E_call, E_make, E_meth, E_callv, E_bc, E_bm, bmX_l, bmX_d, kindU_ref, E_isi, E_rngL, E_sset, E_comp, evEs, T_cst, T_glo, T_var, T_bin, T_neg, T_fld, T_ix, T_rev, T_slc, T_lst, T_tup, T_call, T_make, T_meth, T_callv, T_bc, T_bm, T_isi, T_comp, T_not, T_and, T_or, T_ife, T_cmp, T_cmp2, isB_bl, E_and, E_or, E_ife, E_cmp2, evO, evC, evI, evG, evGs, wipeS, permU, calN_call, calN_cs, getS_0, getS_s, newL_c, newT_c, tru_bl, tru_int, tru_non, tru_lst, tru_tup, bin_add, bin_sub, bin_mulc, bin_fdivc, bin_mod, bin_addL, cmp_lt, cmp_le, cmp_gt, cmp_ge, cmp_isN, cmp_isnN, isNon_non, isNon_int, isNon_tup, isNon_lst, isNon_ref, isNon_bl, cmp_eqI, cmp_neI, cmp_eq, cmp_ne, cmpEq_n, eqD_if, own_ref, der_ref, id_b, own_lst, own_tup, own_non, own_bl, own_int, own_str, der_lst, der_tup, der_non, der_int, der_bl, der_str, isD_int, isD_bl, isD_non, isD_bstr, isD_tup, isD_lst, eqv_int, eqv_bl, eqv_non, eqv_str, eqv_lst, eqv_tup, eqvs_nil, eqvs_nc, eqvs_cn, eqvs_cc, eqvs_n, eqv_ni, eqv_in, bc_int, bc_abs, bc_max, bc_min, bc_divmod, bc_len, bc_lenF, bc_lenT, bc_list, bc_listT, bc_tuple, rep_bl, ix_lst, ix_tup, ix_frz, at_0, at_1, at_2, at_3, at_4, slc_lst, rev_lst, fldU, setFld, methOf, putF, isiU, isOne, tyName, thaw, isFr, Mi.tgsL, List.contains_cons, List.contains_nil, List.length_cons, List.length_nil, List.length_append, List.length_map, List.set_cons_zero, List.set_cons_succ, List.lookup_cons, List.lookup_nil, Option.map_some, Bool.not_true, Bool.not_false, Nat.reduceBEq, Nat.reduceEqDiff, Nat.reduceAdd, Nat.reduceLT, Int.reduceEq, Int.reduceNe, Int.reduceLT, Int.reduceLE, if_true, if_false, reduceIte, decide_true, decide_false, decide_eq_true_eq, Bool.false_eq_true, Bool.and_true, Bool.true_and, Bool.and_false, Bool.false_and, Bool.or_true, Bool.or_false, Bool.true_or, Bool.false_or, beq_self_eq_true, Nat.zero_add, List.nil_append, List.isEmpty_nil, List.isEmpty_cons, and_self, true_and, and_true, eq_self, bt_beq, reduceCtorEq, List.set_set, List.all_nil, List.all_cons, List.all_append, set_app, get_app_eq, cut_tl, List.length_set, len_ref_a, list_ref_a, seq_ref_a, lsf_ref_a, dic_ref_a, lst_ref_a, seq_lst, seq_tup, lsf_lst, ix_ref_a, slc_ref_a, rev_ref_a, app_ref_a, appX_l, setIx_ref_a, bin_addX, addU, lstU, List.getElem?_set_ne, List.getElem?_set_self, List.getElem?_append_left, get_app_len, set_app_len, cs0, mk0]
        simp [List.map_take]
      · simp -dsimp (maxSteps := 1000000) (disch := first | assumption | omega | (simp only [List.length_cons, List.length_nil, List.length_append, List.length_map, List.length_take, List.length_drop, List.length_set, List.length_range, List.length_reverse] <;> omega) | rfl | decide) only [OkS_cons, OkS_nil, OkS_nx, OkS_rt, OkS_bk, OkS_ct, OkS_toS, OkS_if, Ok_bind, Ok_bindN, Ok_nx, Ok_ok, Ok_ofS, S_expr, S_asg, S_ret, S_retN, S_pass, S_brk, S_cont, S_for, S_par, par2, par3, cst_int, cst_non, cst_bl, cst_str, ofW, ofWs, E_cst, E_glo, E_var, E_mut, E_bin, E_neg, E_not, E_cmp, E_fld, E_ix, E_rev, E_slc, E_lst, E_tup, E_dic0, E_call, E_make, E_meth, E_callv, E_bc, E_bm, bmX_l, bmX_d, kindU_ref, E_isi, E_rngL, E_sset, E_comp, evEs, T_cst, T_glo, T_var, T_bin, T_neg, T_fld, T_ix, T_rev, T_slc, T_lst, T_tup, T_call, T_make, T_meth, T_callv, T_bc, T_bm, T_isi, T_comp, T_not, T_and, T_or, T_ife, T_cmp, T_cmp2, isB_bl, E_and, E_or, E_ife, E_cmp2, evO, evC, evI, evG, evGs, wipeS, permU, calN_call, calN_cs, getS_0, getS_s, newL_c, newT_c, tru_bl, tru_int, tru_non, tru_lst, tru_tup, bin_add, bin_sub, bin_mulc, bin_fdivc, bin_mod, bin_addL, cmp_lt, cmp_le, cmp_gt, cmp_ge, cmp_isN, cmp_isnN, isNon_non, isNon_int, isNon_tup, isNon_lst, isNon_ref, isNon_bl, cmp_eqI, cmp_neI, cmp_eq, cmp_ne, cmpEq_n, eqD_if, own_ref, der_ref, id_b, own_lst, own_tup, own_non, own_bl, own_int, own_str, der_lst, der_tup, der_non, der_int, der_bl, der_str, isD_int, isD_bl, isD_non, isD_bstr, isD_tup, isD_lst, eqv_int, eqv_bl, eqv_non, eqv_str, eqv_lst, eqv_tup, eqvs_nil, eqvs_nc, eqvs_cn, eqvs_cc, eqvs_n, eqv_ni, eqv_in, bc_int, bc_abs, bc_max, bc_min, bc_divmod, bc_len, bc_lenF, bc_lenT, bc_list, bc_listT, bc_tuple, rep_bl, ix_lst, ix_tup, ix_frz, at_0, at_1, at_2, at_3, at_4, slc_lst, rev_lst, fldU, setFld, methOf, putF, isiU, isOne, tyName, thaw, isFr, Mi.tgsL, List.contains_cons, List.contains_nil, List.length_cons, List.length_nil, List.length_append, List.length_map, List.set_cons_zero, List.set_cons_succ, List.lookup_cons, List.lookup_nil, Option.map_some, Bool.not_true, Bool.not_false, Nat.reduceBEq, Nat.reduceEqDiff, Nat.reduceAdd, Nat.reduceLT, Int.reduceEq, Int.reduceNe, Int.reduceLT, Int.reduceLE, if_true, if_false, reduceIte, decide_true, decide_false, decide_eq_true_eq, Bool.false_eq_true, Bool.and_true, Bool.true_and, Bool.and_false, Bool.false_and, Bool.or_true, Bool.or_false, Bool.true_or, Bool.false_or, beq_self_eq_true, Nat.zero_add, List.nil_append, List.isEmpty_nil, List.isEmpty_cons, and_self, true_and, and_true, eq_self, bt_beq, reduceCtorEq, List.set_set, List.all_nil, List.all_cons, List.all_append, set_app, get_app_eq, cut_tl, List.length_set, len_ref_a, list_ref_a, seq_ref_a, lsf_ref_a, dic_ref_a, lst_ref_a, seq_lst, seq_tup, lsf_lst, ix_ref_a, slc_ref_a, rev_ref_a, app_ref_a, appX_l, setIx_ref_a, bin_addX, addU, lstU, List.getElem?_set_ne, List.getElem?_set_self, List.getElem?_append_left, get_app_len, set_app_len, cs0, mk0]
      · rw [← eg]; simp -dsimp (maxSteps := 1000000) (disch := first | assumption | omega | (simp only [List.length_cons, List.length_nil, List.length_append, List.length_map, List.length_take, List.length_drop, List.length_set, List.length_range, List.length_reverse] <;> omega) | rfl | decide) only [OkS_cons, OkS_nil, OkS_nx, OkS_rt, OkS_bk, OkS_ct, OkS_toS, OkS_if, Ok_bind, Ok_bindN, Ok_nx, Ok_ok, Ok_ofS, S_expr, S_asg, S_ret, S_retN, S_pass, S_brk, S_cont, S_for, S_par, par2, par3, cst_int, cst_non, cst_bl, cst_str, ofW, ofWs, E_cst, E_glo, E_var, E_mut, E_bin, E_neg, E_not, E_cmp, E_fld, E_ix, E_rev, E_slc, E_lst, E_tup, E_dic0, E_call, E_make, E_meth, E_callv, E_bc, E_bm, bmX_l, bmX_d, kindU_ref, E_isi, E_rngL, E_sset, E_comp, evEs, T_cst, T_glo, T_var, T_bin, T_neg, T_fld, T_ix, T_rev, T_slc, T_lst, T_tup, T_call, T_make, T_meth, T_callv, T_bc, T_bm, T_isi, T_comp, T_not, T_and, T_or, T_ife, T_cmp, T_cmp2, isB_bl, E_and, E_or, E_ife, E_cmp2, evO, evC, evI, evG, evGs, wipeS, permU, calN_call, calN_cs, getS_0, getS_s, newL_c, newT_c, tru_bl, tru_int, tru_non, tru_lst, tru_tup, bin_add, bin_sub, bin_mulc, bin_fdivc, bin_mod, bin_addL, cmp_lt, cmp_le, cmp_gt, cmp_ge, cmp_isN, cmp_isnN, isNon_non, isNon_int, isNon_tup, isNon_lst, isNon_ref, isNon_bl, cmp_eqI, cmp_neI, cmp_eq, cmp_ne, cmpEq_n, eqD_if, own_ref, der_ref, id_b, own_lst, own_tup, own_non, own_bl, own_int, own_str, der_lst, der_tup, der_non, der_int, der_bl, der_str, isD_int, isD_bl, isD_non, isD_bstr, isD_tup, isD_lst, eqv_int, eqv_bl, eqv_non, eqv_str, eqv_lst, eqv_tup, eqvs_nil, eqvs_nc, eqvs_cn, eqvs_cc, eqvs_n, eqv_ni, eqv_in, bc_int, bc_abs, bc_max, bc_min, bc_divmod, bc_len, bc_lenF, bc_lenT, bc_list, bc_listT, bc_tuple, rep_bl, ix_lst, ix_tup, ix_frz, at_0, at_1, at_2, at_3, at_4, slc_lst, rev_lst, fldU, setFld, methOf, putF, isiU, isOne, tyName, thaw, isFr, Mi.tgsL, List.contains_cons, List.contains_nil, List.length_cons, List.length_nil, List.length_append, List.length_map, List.set_cons_zero, List.set_cons_succ, List.lookup_cons, List.lookup_nil, Option.map_some, Bool.not_true, Bool.not_false, Nat.reduceBEq, Nat.reduceEqDiff, Nat.reduceAdd, Nat.reduceLT, Int.reduceEq, Int.reduceNe, Int.reduceLT, Int.reduceLE, if_true, if_false, reduceIte, decide_true, decide_false, decide_eq_true_eq, Bool.false_eq_true, Bool.and_true, Bool.true_and, Bool.and_false, Bool.false_and, Bool.or_true, Bool.or_false, Bool.true_or, Bool.false_or, beq_self_eq_true, Nat.zero_add, List.nil_append, List.isEmpty_nil, List.isEmpty_cons, and_self, true_and, and_true, eq_self, bt_beq, reduceCtorEq, List.set_set, List.all_nil, List.all_cons, List.all_append, set_app, get_app_eq, cut_tl, List.length_set, len_ref_a, list_ref_a, seq_ref_a, lsf_ref_a, dic_ref_a, lst_ref_a, seq_lst, seq_tup, lsf_lst, ix_ref_a, slc_ref_a, rev_ref_a, app_ref_a, appX_l, setIx_ref_a, bin_addX, addU, lstU, List.getElem?_set_ne, List.getElem?_set_self, List.getElem?_append_left, get_app_len, set_app_len, cs0, mk0, S1.lf]
      · rcases S1.asd with q | ⟨c, es', f', e1, e2, e3, e4, e5⟩
        · exact .inl q
        · have := (List.getElem?_eq_some_iff.mp e4).1
          have l1 : g1.length = g'.length := by rw [← eg]; simp
          exact .inr ⟨c, es', f', e1, e2, by omega, by rw [← eg]; simp -dsimp (maxSteps := 1000000) (disch := first | assumption | omega | (simp only [List.length_cons, List.length_nil, List.length_append, List.length_map, List.length_take, List.length_drop, List.length_set, List.length_range, List.length_reverse] <;> omega) | rfl | decide) only [OkS_cons, OkS_nil, OkS_nx, OkS_rt, OkS_bk, OkS_ct, OkS_toS, OkS_if, Ok_bind, Ok_bindN, Ok_nx, Ok_ok, Ok_ofS, S_expr, S_asg, S_ret, S_retN, S_pass, S_brk, S_cont, S_for, S_par, par2, par3, cst_int, cst_non, cst_bl, cst_str, ofW, ofWs, E_cst, E_glo, E_var, E_mut, E_bin, E_neg, E_not, E_cmp, E_fld, E_ix, E_rev, E_slc, E_lst, E_tup, E_dic0, E_call, E_make, E_meth, E_callv, E_bc, E_bm, bmX_l, bmX_d, kindU_ref, E_isi, E_rngL, E_sset, E_comp, evEs, T_cst, T_glo, T_var, T_bin, T_neg, T_fld, T_ix, T_rev, T_slc, T_lst, T_tup, T_call, T_make, T_meth, T_callv, T_bc, T_bm, T_isi, T_comp, T_not, T_and, T_or, T_ife, T_cmp, T_cmp2, isB_bl, E_and, E_or, E_ife, E_cmp2, evO, evC, evI, evG, evGs, wipeS, permU, calN_call, calN_cs, getS_0, getS_s, newL_c, newT_c, tru_bl, tru_int, tru_non, tru_lst, tru_tup, bin_add, bin_sub, bin_mulc, bin_fdivc, bin_mod, bin_addL, cmp_lt, cmp_le, cmp_gt, cmp_ge, cmp_isN, cmp_isnN, isNon_non, isNon_int, isNon_tup, isNon_lst, isNon_ref, isNon_bl, cmp_eqI, cmp_neI, cmp_eq, cmp_ne, cmpEq_n, eqD_if, own_ref, der_ref, id_b, own_lst, own_tup, own_non, own_bl, own_int, own_str, der_lst, der_tup, der_non, der_int, der_bl, der_str, isD_int, isD_bl, isD_non, isD_bstr, isD_tup, isD_lst, eqv_int, eqv_bl, eqv_non, eqv_str, eqv_lst, eqv_tup, eqvs_nil, eqvs_nc, eqvs_cn, eqvs_cc, eqvs_n, eqv_ni, eqv_in, bc_int, bc_abs, bc_max, bc_min, bc_divmod, bc_len, bc_lenF, bc_lenT, bc_list, bc_listT, bc_tuple, rep_bl, ix_lst, ix_tup, ix_frz, at_0, at_1, at_2, at_3, at_4, slc_lst, rev_lst, fldU, setFld, methOf, putF, isiU, isOne, tyName, thaw, isFr, Mi.tgsL, List.contains_cons, List.contains_nil, List.length_cons, List.length_nil, List.length_append, List.length_map, List.set_cons_zero, List.set_cons_succ, List.lookup_cons, List.lookup_nil, Option.map_some, Bool.not_true, Bool.not_false, Nat.reduceBEq, Nat.reduceEqDiff, Nat.reduceAdd, Nat.reduceLT, Int.reduceEq, Int.reduceNe, Int.reduceLT, Int.reduceLE, if_true, if_false, reduceIte, decide_true, decide_false, decide_eq_true_eq, Bool.false_eq_true, Bool.and_true, Bool.true_and, Bool.and_false, Bool.false_and, Bool.or_true, Bool.or_false, Bool.true_or, Bool.false_or, beq_self_eq_true, Nat.zero_add, List.nil_append, List.isEmpty_nil, List.isEmpty_cons, and_self, true_and, and_true, eq_self, bt_beq, reduceCtorEq, List.set_set, List.all_nil, List.all_cons, List.all_append, set_app, get_app_eq, cut_tl, List.length_set, len_ref_a, list_ref_a, seq_ref_a, lsf_ref_a, dic_ref_a, lst_ref_a, seq_lst, seq_tup, lsf_lst, ix_ref_a, slc_ref_a, rev_ref_a, app_ref_a, appX_l, setIx_ref_a, bin_addX, addU, lstU, List.getElem?_set_ne, List.getElem?_set_self, List.getElem?_append_left, get_app_len, set_app_len, cs0, mk0, e4], e5⟩
      · simp -dsimp (maxSteps := 1000000) (disch := first | assumption | omega | (simp only [List.length_cons, List.length_nil, List.length_append, List.length_map, List.length_take, List.length_drop, List.length_set, List.length_range, List.length_reverse] <;> omega) | rfl | decide) only [OkS_cons, OkS_nil, OkS_nx, OkS_rt, OkS_bk, OkS_ct, OkS_toS, OkS_if, Ok_bind, Ok_bindN, Ok_nx, Ok_ok, Ok_ofS, S_expr, S_asg, S_ret, S_retN, S_pass, S_brk, S_cont, S_for, S_par, par2, par3, cst_int, cst_non, cst_bl, cst_str, ofW, ofWs, E_cst, E_glo, E_var, E_mut, E_bin, E_neg, E_not, E_cmp, E_fld, E_ix, E_rev, E_slc, E_lst, E_tup, E_dic0, E_call, E_make, E_meth, E_callv, E_bc, E_bm, bmX_l, bmX_d, kindU_ref, E_isi, E_rngL, E_sset, E_comp, evEs, T_cst, T_glo, T_var, T_bin, T_neg, T_fld, T_ix, T_rev, T_slc, T_lst, T_tup, T_call, T_make, T_meth, T_callv, T_bc, T_bm, T_isi, T_comp, T_not, T_and, T_or, T_ife, T_cmp, T_cmp2, isB_bl, E_and, E_or, E_ife, E_cmp2, evO, evC, evI, evG, evGs, wipeS, permU, calN_call, calN_cs, getS_0, getS_s, newL_c, newT_c, tru_bl, tru_int, tru_non, tru_lst, tru_tup, bin_add, bin_sub, bin_mulc, bin_fdivc, bin_mod, bin_addL, cmp_lt, cmp_le, cmp_gt, cmp_ge, cmp_isN, cmp_isnN, isNon_non, isNon_int, isNon_tup, isNon_lst, isNon_ref, isNon_bl, cmp_eqI, cmp_neI, cmp_eq, cmp_ne, cmpEq_n, eqD_if, own_ref, der_ref, id_b, own_lst, own_tup, own_non, own_bl, own_int, own_str, der_lst, der_tup, der_non, der_int, der_bl, der_str, isD_int, isD_bl, isD_non, isD_bstr, isD_tup, isD_lst, eqv_int, eqv_bl, eqv_non, eqv_str, eqv_lst, eqv_tup, eqvs_nil, eqvs_nc, eqvs_cn, eqvs_cc, eqvs_n, eqv_ni, eqv_in, bc_int, bc_abs, bc_max, bc_min, bc_divmod, bc_len, bc_lenF, bc_lenT, bc_list, bc_listT, bc_tuple, rep_bl, ix_lst, ix_tup, ix_frz, at_0, at_1, at_2, at_3, at_4, slc_lst, rev_lst, fldU, setFld, methOf, putF, isiU, isOne, tyName, thaw, isFr, Mi.tgsL, List.contains_cons, List.contains_nil, List.length_cons, List.length_nil, List.length_append, List.length_map, List.set_cons_zero, List.set_cons_succ, List.lookup_cons, List.lookup_nil, Option.map_some, Bool.not_true, Bool.not_false, Nat.reduceBEq, Nat.reduceEqDiff, Nat.reduceAdd, Nat.reduceLT, Int.reduceEq, Int.reduceNe, Int.reduceLT, Int.reduceLE, if_true, if_false, reduceIte, decide_true, decide_false, decide_eq_true_eq, Bool.false_eq_true, Bool.and_true, Bool.true_and, Bool.and_false, Bool.false_and, Bool.or_true, Bool.or_false, Bool.true_or, Bool.false_or, beq_self_eq_true, Nat.zero_add, List.nil_append, List.isEmpty_nil, List.isEmpty_cons, and_self, true_and, and_true, eq_self, bt_beq, reduceCtorEq, List.set_set, List.all_nil, List.all_cons, List.all_append, set_app, get_app_eq, cut_tl, List.length_set, len_ref_a, list_ref_a, seq_ref_a, lsf_ref_a, dic_ref_a, lst_ref_a, seq_lst, seq_tup, lsf_lst, ix_ref_a, slc_ref_a, rev_ref_a, app_ref_a, appX_l, setIx_ref_a, bin_addX, addU, lstU, List.getElem?_set_ne, List.getElem?_set_self, List.getElem?_append_left, get_app_len, set_app_len, cs0, mk0]
        exact q _ _ _ _ _ _ _ _ S' ⟨_, _, _, _, _, _, _, rfl⟩
  · simp -dsimp (maxSteps := 1000000) (disch := first | assumption | omega | (simp only [List.length_cons, List.length_nil, List.length_append, List.length_map, List.length_take, List.length_drop, List.length_set, List.length_range, List.length_reverse] <;> omega) | rfl | decide) only [OkS_cons, OkS_nil, OkS_nx, OkS_rt, OkS_bk, OkS_ct, OkS_toS, OkS_if, Ok_bind, Ok_bindN, Ok_nx, Ok_ok, Ok_ofS, S_expr, S_asg, S_ret, S_retN, S_pass, S_brk, S_cont, S_for, S_par, par2, par3, cst_int, cst_non, cst_bl, cst_str, ofW, ofWs, E_cst, E_glo, E_var, E_mut, E_bin, E_neg, E_not, E_cmp, E_fld, E_ix, E_rev, E_slc, E_lst, E_tup, E_dic0, E_call, E_make, E_meth, E_callv, E_bc, E_bm, bmX_l, bmX_d, kindU_ref, E_isi, E_rngL, E_sset, E_comp, evEs, T_cst, T_glo, T_var, T_bin, T_neg, T_fld, T_ix, T_rev, T_slc, T_lst, T_tup, T_call, T_make, T_meth, T_callv, T_bc, T_bm, T_isi, T_comp, T_not, T_and, T_or, T_ife, T_cmp, T_cmp2, isB_bl, E_and, E_or, E_ife, E_cmp2, evO, evC, evI, evG, evGs, wipeS, permU, calN_call, calN_cs, getS_0, getS_s, newL_c, newT_c, tru_bl, tru_int, tru_non, tru_lst, tru_tup, bin_add, bin_sub, bin_mulc, bin_fdivc, bin_mod, bin_addL, cmp_lt, cmp_le, cmp_gt, cmp_ge, cmp_isN, cmp_isnN, isNon_non, isNon_int, isNon_tup, isNon_lst, isNon_ref, isNon_bl, cmp_eqI, cmp_neI, cmp_eq, cmp_ne, cmpEq_n, eqD_if, own_ref, der_ref, id_b, own_lst, own_tup, own_non, own_bl, own_int, own_str, der_lst, der_tup, der_non, der_int, der_bl, der_str, isD_int, isD_bl, isD_non, isD_bstr, isD_tup, isD_lst, eqv_int, eqv_bl, eqv_non, eqv_str, eqv_lst, eqv_tup, eqvs_nil, eqvs_nc, eqvs_cn, eqvs_cc, eqvs_n, eqv_ni, eqv_in, bc_int, bc_abs, bc_max, bc_min, bc_divmod, bc_len, bc_lenF, bc_lenT, bc_list, bc_listT, bc_tuple, rep_bl, ix_lst, ix_tup, ix_frz, at_0, at_1, at_2, at_3, at_4, slc_lst, rev_lst, fldU, setFld, methOf, putF, isiU, isOne, tyName, thaw, isFr, Mi.tgsL, List.contains_cons, List.contains_nil, List.length_cons, List.length_nil, List.length_append, List.length_map, List.set_cons_zero, List.set_cons_succ, List.lookup_cons, List.lookup_nil, Option.map_some, Bool.not_true, Bool.not_false, Nat.reduceBEq, Nat.reduceEqDiff, Nat.reduceAdd, Nat.reduceLT, Int.reduceEq, Int.reduceNe, Int.reduceLT, Int.reduceLE, if_true, if_false, reduceIte, decide_true, decide_false, decide_eq_true_eq, Bool.false_eq_true, Bool.and_true, Bool.true_and, Bool.and_false, Bool.false_and, Bool.or_true, Bool.or_false, Bool.true_or, Bool.false_or, beq_self_eq_true, Nat.zero_add, List.nil_append, List.isEmpty_nil, List.isEmpty_cons, and_self, true_and, and_true, eq_self, bt_beq, reduceCtorEq, List.set_set, List.all_nil, List.all_cons, List.all_append, set_app, get_app_eq, cut_tl, List.length_set, len_ref_a, list_ref_a, seq_ref_a, lsf_ref_a, dic_ref_a, lst_ref_a, seq_lst, seq_tup, lsf_lst, ix_ref_a, slc_ref_a, rev_ref_a, app_ref_a, appX_l, setIx_ref_a, bin_addX, addU, lstU, List.getElem?_set_ne, List.getElem?_set_self, List.getElem?_append_left, get_app_len, set_app_len, cs0, mk0, S.ow, S.ob, copy S.ob (by omega)]
    refine St.go (i := i + 1) many first made es lefts o _ ⟨⟨a, b, by simp -dsimp (maxSteps := 1000000) (disch := first | assumption | omega | (simp only [List.length_cons, List.length_nil, List.length_append, List.length_map, List.length_take, List.length_drop, List.length_set, List.length_range, List.length_reverse] <;> omega) | rfl | decide) only [OkS_cons, OkS_nil, OkS_nx, OkS_rt, OkS_bk, OkS_ct, OkS_toS, OkS_if, Ok_bind, Ok_bindN, Ok_nx, Ok_ok, Ok_ofS, S_expr, S_asg, S_ret, S_retN, S_pass, S_brk, S_cont, S_for, S_par, par2, par3, cst_int, cst_non, cst_bl, cst_str, ofW, ofWs, E_cst, E_glo, E_var, E_mut, E_bin, E_neg, E_not, E_cmp, E_fld, E_ix, E_rev, E_slc, E_lst, E_tup, E_dic0, E_call, E_make, E_meth, E_callv, E_bc, E_bm, bmX_l, bmX_d, kindU_ref, E_isi, E_rngL, E_sset, E_comp, evEs, T_cst, T_glo, T_var, T_bin, T_neg, T_fld, T_ix, T_rev, T_slc, T_lst, T_tup, T_call, T_make, T_meth, T_callv, T_bc, T_bm, T_isi, T_comp, T_not, T_and, T_or, T_ife, T_cmp, T_cmp2, isB_bl, E_and, E_or, E_ife, E_cmp2, evO, evC, evI, evG, evGs, wipeS, permU, calN_call, calN_cs, getS_0, getS_s, newL_c, newT_c, tru_bl, tru_int, tru_non, tru_lst, tru_tup, bin_add, bin_sub, bin_mulc, bin_fdivc, bin_mod, bin_addL, cmp_lt, cmp_le, cmp_gt, cmp_ge, cmp_isN, cmp_isnN, isNon_non, isNon_int, isNon_tup, isNon_lst, isNon_ref, isNon_bl, cmp_eqI, cmp_neI, cmp_eq, cmp_ne, cmpEq_n, eqD_if, own_ref, der_ref, id_b, own_lst, own_tup, own_non, own_bl, own_int, own_str, der_lst, der_tup, der_non, der_int, der_bl, der_str, isD_int, isD_bl, isD_non, isD_bstr, isD_tup, isD_lst, eqv_int, eqv_bl, eqv_non, eqv_str, eqv_lst, eqv_tup, eqvs_nil, eqvs_nc, eqvs_cn, eqvs_cc, eqvs_n, eqv_ni, eqv_in, bc_int, bc_abs, bc_max, bc_min, bc_divmod, bc_len, bc_lenF, bc_lenT, bc_list, bc_listT, bc_tuple, rep_bl, ix_lst, ix_tup, ix_frz, at_0, at_1, at_2, at_3, at_4, slc_lst, rev_lst, fldU, setFld, methOf, putF, isiU, isOne, tyName, thaw, isFr, Mi.tgsL, List.contains_cons, List.contains_nil, List.length_cons, List.length_nil, List.length_append, List.length_map, List.set_cons_zero, List.set_cons_succ, List.lookup_cons, List.lookup_nil, Option.map_some, Bool.not_true, Bool.not_false, Nat.reduceBEq, Nat.reduceEqDiff, Nat.reduceAdd, Nat.reduceLT, Int.reduceEq, Int.reduceNe, Int.reduceLT, Int.reduceLE, if_true, if_false, reduceIte, decide_true, decide_false, decide_eq_true_eq, Bool.false_eq_true, Bool.and_true, Bool.true_and, Bool.and_false, Bool.false_and, Bool.or_true, Bool.or_false, Bool.true_or, Bool.false_or, beq_self_eq_true, Nat.zero_add, List.nil_append, List.isEmpty_nil, List.isEmpty_cons, and_self, true_and, and_true, eq_self, bt_beq, reduceCtorEq, List.set_set, List.all_nil, List.all_cons, List.all_append, set_app, get_app_eq, cut_tl, List.length_set, len_ref_a, list_ref_a, seq_ref_a, lsf_ref_a, dic_ref_a, lst_ref_a, seq_lst, seq_tup, lsf_lst, ix_ref_a, slc_ref_a, rev_ref_a, app_ref_a, appX_l, setIx_ref_a, bin_addX, addU, lstU, List.getElem?_set_ne, List.getElem?_set_self, List.getElem?_append_left, get_app_len, set_app_len, cs0, mk0, hp], hb⟩, by simp -dsimp (maxSteps := 1000000) (disch := first | assumption | omega | (simp only [List.length_cons, List.length_nil, List.length_append, List.length_map, List.length_take, List.length_drop, List.length_set, List.length_range, List.length_reverse] <;> omega) | rfl | decide) only [OkS_cons, OkS_nil, OkS_nx, OkS_rt, OkS_bk, OkS_ct, OkS_toS, OkS_if, Ok_bind, Ok_bindN, Ok_nx, Ok_ok, Ok_ofS, S_expr, S_asg, S_ret, S_retN, S_pass, S_brk, S_cont, S_for, S_par, par2, par3, cst_int, cst_non, cst_bl, cst_str, ofW, ofWs, E_cst, E_glo, E_var, E_mut, E_bin, E_neg, E_not, E_cmp, E_fld, E_ix, E_rev, E_slc, E_lst, E_tup, E_dic0, E_call, E_make, E_meth, E_callv, E_bc, E_bm, bmX_l, bmX_d, kindU_ref, E_isi, E_rngL, E_sset, E_comp, evEs, T_cst, T_glo, T_var, T_bin, T_neg, T_fld, T_ix, T_rev, T_slc, T_lst, T_tup, T_call, T_make, T_meth, T_callv, T_bc, T_bm, T_isi, T_comp, T_not, T_and, T_or, T_ife, T_cmp, T_cmp2, isB_bl, E_and, E_or, E_ife, E_cmp2, evO, evC, evI, evG, evGs, wipeS, permU, calN_call, calN_cs, getS_0, getS_s, newL_c, newT_c, tru_bl, tru_int, tru_non, tru_lst, tru_tup, bin_add, bin_sub, bin_mulc, bin_fdivc, bin_mod, bin_addL, cmp_lt, cmp_le, cmp_gt, cmp_ge, cmp_isN, cmp_isnN, isNon_non, isNon_int, isNon_tup, isNon_lst, isNon_ref, isNon_bl, cmp_eqI, cmp_neI, cmp_eq, cmp_ne, cmpEq_n, eqD_if, own_ref, der_ref, id_b, own_lst, own_tup, own_non, own_bl, own_int, own_str, der_lst, der_tup, der_non, der_int, der_bl, der_str, isD_int, isD_bl, isD_non, isD_bstr, isD_tup, isD_lst, eqv_int, eqv_bl, eqv_non, eqv_str, eqv_lst, eqv_tup, eqvs_nil, eqvs_nc, eqvs_cn, eqvs_cc, eqvs_n, eqv_ni, eqv_in, bc_int, bc_abs, bc_max, bc_min, bc_divmod, bc_len, bc_lenF, bc_lenT, bc_list, bc_listT, bc_tuple, rep_bl, ix_lst, ix_tup, ix_frz, at_0, at_1, at_2, at_3, at_4, slc_lst, rev_lst, fldU, setFld, methOf, putF, isiU, isOne, tyName, thaw, isFr, Mi.tgsL, List.contains_cons, List.contains_nil, List.length_cons, List.length_nil, List.length_append, List.length_map, List.set_cons_zero, List.set_cons_succ, List.lookup_cons, List.lookup_nil, Option.map_some, Bool.not_true, Bool.not_false, Nat.reduceBEq, Nat.reduceEqDiff, Nat.reduceAdd, Nat.reduceLT, Int.reduceEq, Int.reduceNe, Int.reduceLT, Int.reduceLE, if_true, if_false, reduceIte, decide_true, decide_false, decide_eq_true_eq, Bool.false_eq_true, Bool.and_true, Bool.true_and, Bool.and_false, Bool.false_and, Bool.or_true, Bool.or_false, Bool.true_or, Bool.false_or, beq_self_eq_true, Nat.zero_add, List.nil_append, List.isEmpty_nil, List.isEmpty_cons, and_self, true_and, and_true, eq_self, bt_beq, reduceCtorEq, List.set_set, List.all_nil, List.all_cons, List.all_append, set_app, get_app_eq, cut_tl, List.length_set, len_ref_a, list_ref_a, seq_ref_a, lsf_ref_a, dic_ref_a, lst_ref_a, seq_lst, seq_tup, lsf_lst, ix_ref_a, slc_ref_a, rev_ref_a, app_ref_a, appX_l, setIx_ref_a, bin_addX, addU, lstU, List.getElem?_set_ne, List.getElem?_set_self, List.getElem?_append_left, get_app_len, set_app_len, cs0, mk0, S.ob], by simp -dsimp (maxSteps := 1000000) (disch := first | assumption | omega | (simp only [List.length_cons, List.length_nil, List.length_append, List.length_map, List.length_take, List.length_drop, List.length_set, List.length_range, List.length_reverse] <;> omega) | rfl | decide) only [OkS_cons, OkS_nil, OkS_nx, OkS_rt, OkS_bk, OkS_ct, OkS_toS, OkS_if, Ok_bind, Ok_bindN, Ok_nx, Ok_ok, Ok_ofS, S_expr, S_asg, S_ret, S_retN, S_pass, S_brk, S_cont, S_for, S_par, par2, par3, cst_int, cst_non, cst_bl, cst_str, ofW, ofWs, E_cst, E_glo, E_var, E_mut, E_bin, E_neg, E_not, E_cmp, E_fld, E_ix, E_rev, E_slc, E_lst, E_tup, E_dic0, E_call, E_make, E_meth, E_callv, E_bc, E_bm, bmX_l, bmX_d, kindU_ref, E_isi, E_rngL, E_sset, E_comp, evEs, T_cst, T_glo, T_var, T_bin, T_neg, T_fld, T_ix, T_rev, T_slc, T_lst, T_tup, T_call, T_make, T_meth, T_callv, T_bc, T_bm, T_isi, T_comp, T_not, T_and, T_or, T_ife, T_cmp, T_cmp2, isB_bl, E_and, E_or, E_ife, E_cmp2, evO, evC, evI, evG, evGs, wipeS, permU, calN_call, calN_cs, getS_0, getS_s, newL_c, newT_c, tru_bl, tru_int, tru_non, tru_lst, tru_tup, bin_add, bin_sub, bin_mulc, bin_fdivc, bin_mod, bin_addL, cmp_lt, cmp_le, cmp_gt, cmp_ge, cmp_isN, cmp_isnN, isNon_non, isNon_int, isNon_tup, isNon_lst, isNon_ref, isNon_bl, cmp_eqI, cmp_neI, cmp_eq, cmp_ne, cmpEq_n, eqD_if, own_ref, der_ref, id_b, own_lst, own_tup, own_non, own_bl, own_int, own_str, der_lst, der_tup, der_non, der_int, der_bl, der_str, isD_int, isD_bl, isD_non, isD_bstr, isD_tup, isD_lst, eqv_int, eqv_bl, eqv_non, eqv_str, eqv_lst, eqv_tup, eqvs_nil, eqvs_nc, eqvs_cn, eqvs_cc, eqvs_n, eqv_ni, eqv_in, bc_int, bc_abs, bc_max, bc_min, bc_divmod, bc_len, bc_lenF, bc_lenT, bc_list, bc_listT, bc_tuple, rep_bl, ix_lst, ix_tup, ix_frz, at_0, at_1, at_2, at_3, at_4, slc_lst, rev_lst, fldU, setFld, methOf, putF, isiU, isOne, tyName, thaw, isFr, Mi.tgsL, List.contains_cons, List.contains_nil, List.length_cons, List.length_nil, List.length_append, List.length_map, List.set_cons_zero, List.set_cons_succ, List.lookup_cons, List.lookup_nil, Option.map_some, Bool.not_true, Bool.not_false, Nat.reduceBEq, Nat.reduceEqDiff, Nat.reduceAdd, Nat.reduceLT, Int.reduceEq, Int.reduceNe, Int.reduceLT, Int.reduceLE, if_true, if_false, reduceIte, decide_true, decide_false, decide_eq_true_eq, Bool.false_eq_true, Bool.and_true, Bool.true_and, Bool.and_false, Bool.false_and, Bool.or_true, Bool.or_false, Bool.true_or, Bool.false_or, beq_self_eq_true, Nat.zero_add, List.nil_append, List.isEmpty_nil, List.isEmpty_cons, and_self, true_and, and_true, eq_self, bt_beq, reduceCtorEq, List.set_set, List.all_nil, List.all_cons, List.all_append, set_app, get_app_eq, cut_tl, List.length_set, len_ref_a, list_ref_a, seq_ref_a, lsf_ref_a, dic_ref_a, lst_ref_a, seq_lst, seq_tup, lsf_lst, ix_ref_a, slc_ref_a, rev_ref_a, app_ref_a, appX_l, setIx_ref_a, bin_addX, addU, lstU, List.getElem?_set_ne, List.getElem?_set_self, List.getElem?_append_left, get_app_len, set_app_len, cs0, mk0, S.ow], oo, by simp -dsimp (maxSteps := 1000000) (disch := first | assumption | omega | (simp only [List.length_cons, List.length_nil, List.length_append, List.length_map, List.length_take, List.length_drop, List.length_set, List.length_range, List.length_reverse] <;> omega) | rfl | decide) only [OkS_cons, OkS_nil, OkS_nx, OkS_rt, OkS_bk, OkS_ct, OkS_toS, OkS_if, Ok_bind, Ok_bindN, Ok_nx, Ok_ok, Ok_ofS, S_expr, S_asg, S_ret, S_retN, S_pass, S_brk, S_cont, S_for, S_par, par2, par3, cst_int, cst_non, cst_bl, cst_str, ofW, ofWs, E_cst, E_glo, E_var, E_mut, E_bin, E_neg, E_not, E_cmp, E_fld, E_ix, E_rev, E_slc, E_lst, E_tup, E_dic0, E_call, E_make, E_meth, E_callv, E_bc, E_bm, bmX_l, bmX_d, kindU_ref, E_isi, E_rngL, E_sset, E_comp, evEs, T_cst, T_glo, T_var, T_bin, T_neg, T_fld, T_ix, T_rev, T_slc, T_lst, T_tup, T_call, T_make, T_meth, T_callv, T_bc, T_bm, T_isi, T_comp, T_not, T_and, T_or, T_ife, T_cmp, T_cmp2, isB_bl, E_and, E_or, E_ife, E_cmp2, evO, evC, evI, evG, evGs, wipeS, permU, calN_call, calN_cs, getS_0, getS_s, newL_c, newT_c, tru_bl, tru_int, tru_non, tru_lst, tru_tup, bin_add, bin_sub, bin_mulc, bin_fdivc, bin_mod, bin_addL, cmp_lt, cmp_le, cmp_gt, cmp_ge, cmp_isN, cmp_isnN, isNon_non, isNon_int, isNon_tup, isNon_lst, isNon_ref, isNon_bl, cmp_eqI, cmp_neI, cmp_eq, cmp_ne, cmpEq_n, eqD_if, own_ref, der_ref, id_b, own_lst, own_tup, own_non, own_bl, own_int, own_str, der_lst, der_tup, der_non, der_int, der_bl, der_str, isD_int, isD_bl, isD_non, isD_bstr, isD_tup, isD_lst, eqv_int, eqv_bl, eqv_non, eqv_str, eqv_lst, eqv_tup, eqvs_nil, eqvs_nc, eqvs_cn, eqvs_cc, eqvs_n, eqv_ni, eqv_in, bc_int, bc_abs, bc_max, bc_min, bc_divmod, bc_len, bc_lenF, bc_lenT, bc_list, bc_listT, bc_tuple, rep_bl, ix_lst, ix_tup, ix_frz, at_0, at_1, at_2, at_3, at_4, slc_lst, rev_lst, fldU, setFld, methOf, putF, isiU, isOne, tyName, thaw, isFr, Mi.tgsL, List.contains_cons, List.contains_nil, List.length_cons, List.length_nil, List.length_append, List.length_map, List.set_cons_zero, List.set_cons_succ, List.lookup_cons, List.lookup_nil, Option.map_some, Bool.not_true, Bool.not_false, Nat.reduceBEq, Nat.reduceEqDiff, Nat.reduceAdd, Nat.reduceLT, Int.reduceEq, Int.reduceNe, Int.reduceLT, Int.reduceLE, if_true, if_false, reduceIte, decide_true, decide_false, decide_eq_true_eq, Bool.false_eq_true, Bool.and_true, Bool.true_and, Bool.and_false, Bool.false_and, Bool.or_true, Bool.or_false, Bool.true_or, Bool.false_or, beq_self_eq_true, Nat.zero_add, List.nil_append, List.isEmpty_nil, List.isEmpty_cons, and_self, true_and, and_true, eq_self, bt_beq, reduceCtorEq, List.set_set, List.all_nil, List.all_cons, List.all_append, set_app, get_app_eq, cut_tl, List.length_set, len_ref_a, list_ref_a, seq_ref_a, lsf_ref_a, dic_ref_a, lst_ref_a, seq_lst, seq_tup, lsf_lst, ix_ref_a, slc_ref_a, rev_ref_a, app_ref_a, appX_l, setIx_ref_a, bin_addX, addU, lstU, List.getElem?_set_ne, List.getElem?_set_self, List.getElem?_append_left, get_app_len, set_app_len, cs0, mk0, S.en], by simp -dsimp (maxSteps := 1000000) (disch := first | assumption | omega | (simp only [List.length_cons, List.length_nil, List.length_append, List.length_map, List.length_take, List.length_drop, List.length_set, List.length_range, List.length_reverse] <;> omega) | rfl | decide) only [OkS_cons, OkS_nil, OkS_nx, OkS_rt, OkS_bk, OkS_ct, OkS_toS, OkS_if, Ok_bind, Ok_bindN, Ok_nx, Ok_ok, Ok_ofS, S_expr, S_asg, S_ret, S_retN, S_pass, S_brk, S_cont, S_for, S_par, par2, par3, cst_int, cst_non, cst_bl, cst_str, ofW, ofWs, E_cst, E_glo, E_var, E_mut, E_bin, E_neg, E_not, E_cmp, E_fld, E_ix, E_rev, E_slc, E_lst, E_tup, E_dic0, E_call, E_make, E_meth, E_callv, E_bc, E_bm, bmX_l, bmX_d, kindU_ref, E_isi, E_rngL, E_sset, E_comp, evEs, T_cst, T_glo, T_var, T_bin, T_neg, T_fld, T_ix, T_rev, T_slc, T_lst, T_tup, T_call, T_make, T_meth, T_callv, T_bc, T_bm, T_isi, T_comp, T_not, T_and, T_or, T_ife, T_cmp, T_cmp2, isB_bl, E_and, E_or, E_ife, E_cmp2, evO, evC, evI, evG, evGs, wipeS, permU, calN_call, calN_cs, getS_0, getS_s, newL_c, newT_c, tru_bl, tru_int, tru_non, tru_lst, tru_tup, bin_add, bin_sub, bin_mulc, bin_fdivc, bin_mod, bin_addL, cmp_lt, cmp_le, cmp_gt, cmp_ge, cmp_isN, cmp_isnN, isNon_non, isNon_int, isNon_tup, isNon_lst, isNon_ref, isNon_bl, cmp_eqI, cmp_neI, cmp_eq, cmp_ne, cmpEq_n, eqD_if, own_ref, der_ref, id_b, own_lst, own_tup, own_non, own_bl, own_int, own_str, der_lst, der_tup, der_non, der_int, der_bl, der_str, isD_int, isD_bl, isD_non, isD_bstr, isD_tup, isD_lst, eqv_int, eqv_bl, eqv_non, eqv_str, eqv_lst, eqv_tup, eqvs_nil, eqvs_nc, eqvs_cn, eqvs_cc, eqvs_n, eqv_ni, eqv_in, bc_int, bc_abs, bc_max, bc_min, bc_divmod, bc_len, bc_lenF, bc_lenT, bc_list, bc_listT, bc_tuple, rep_bl, ix_lst, ix_tup, ix_frz, at_0, at_1, at_2, at_3, at_4, slc_lst, rev_lst, fldU, setFld, methOf, putF, isiU, isOne, tyName, thaw, isFr, Mi.tgsL, List.contains_cons, List.contains_nil, List.length_cons, List.length_nil, List.length_append, List.length_map, List.set_cons_zero, List.set_cons_succ, List.lookup_cons, List.lookup_nil, Option.map_some, Bool.not_true, Bool.not_false, Nat.reduceBEq, Nat.reduceEqDiff, Nat.reduceAdd, Nat.reduceLT, Int.reduceEq, Int.reduceNe, Int.reduceLT, Int.reduceLE, if_true, if_false, reduceIte, decide_true, decide_false, decide_eq_true_eq, Bool.false_eq_true, Bool.and_true, Bool.true_and, Bool.and_false, Bool.false_and, Bool.or_true, Bool.or_false, Bool.true_or, Bool.false_or, beq_self_eq_true, Nat.zero_add, List.nil_append, List.isEmpty_nil, List.isEmpty_cons, and_self, true_and, and_true, eq_self, bt_beq, reduceCtorEq, List.set_set, List.all_nil, List.all_cons, List.all_append, set_app, get_app_eq, cut_tl, List.length_set, len_ref_a, list_ref_a, seq_ref_a, lsf_ref_a, dic_ref_a, lst_ref_a, seq_lst, seq_tup, lsf_lst, ix_ref_a, slc_ref_a, rev_ref_a, app_ref_a, appX_l, setIx_ref_a, bin_addX, addU, lstU, List.getElem?_set_ne, List.getElem?_set_self, List.getElem?_append_left, get_app_len, set_app_len, cs0, mk0, S.lf], S.nd, S.ml, f0, by omega, by omega, sz, m0, .inr ⟨_, es, first, rfl, l5, by omega, by simp -dsimp (maxSteps := 1000000) (disch := first | assumption | omega | (simp only [List.length_cons, List.length_nil, List.length_append, List.length_map, List.length_take, List.length_drop, List.length_set, List.length_range, List.length_reverse] <;> omega) | rfl | decide) only [OkS_cons, OkS_nil, OkS_nx, OkS_rt, OkS_bk, OkS_ct, OkS_toS, OkS_if, Ok_bind, Ok_bindN, Ok_nx, Ok_ok, Ok_ofS, S_expr, S_asg, S_ret, S_retN, S_pass, S_brk, S_cont, S_for, S_par, par2, par3, cst_int, cst_non, cst_bl, cst_str, ofW, ofWs, E_cst, E_glo, E_var, E_mut, E_bin, E_neg, E_not, E_cmp, E_fld, E_ix, E_rev, E_slc, E_lst, E_tup, E_dic0, E_call, E_make, E_meth, E_callv, E_bc, E_bm, bmX_l, bmX_d, kindU_ref, E_isi, E_rngL, E_sset, E_comp, evEs, T_cst, T_glo, T_var, T_bin, T_neg, T_fld, T_ix, T_rev, T_slc, T_lst, T_tup, T_call, T_make, T_meth, T_callv, T_bc, T_bm, T_isi, T_comp, T_not, T_and, T_or, T_ife, T_cmp, T_cmp2, isB_bl, E_and, E_or, E_ife, E_cmp2, evO, evC, evI, evG, evGs, wipeS, permU, calN_call, calN_cs, getS_0, getS_s, newL_c, newT_c, tru_bl, tru_int, tru_non, tru_lst, tru_tup, bin_add, bin_sub, bin_mulc, bin_fdivc, bin_mod, bin_addL, cmp_lt, cmp_le, cmp_gt, cmp_ge, cmp_isN, cmp_isnN, isNon_non, isNon_int, isNon_tup, isNon_lst, isNon_ref, isNon_bl, cmp_eqI, cmp_neI, cmp_eq, cmp_ne, cmpEq_n, eqD_if, own_ref, der_ref, id_b, own_lst, own_tup, own_non, own_bl, own_int, own_str, der_lst, der_tup, der_non, der_int, der_bl, der_str, isD_int, isD_bl, isD_non, isD_bstr, isD_tup, isD_lst, eqv_int, eqv_bl, eqv_non, eqv_str, eqv_lst, eqv_tup, eqvs_nil, eqvs_nc, eqvs_cn, eqvs_cc, eqvs_n, eqv_ni, eqv_in, bc_int, bc_abs, bc_max, bc_min, bc_divmod, bc_len, bc_lenF, bc_lenT, bc_list, bc_listT, bc_tuple, rep_bl, ix_lst, ix_tup, ix_frz, at_0, at_1, at_2, at_3, at_4, slc_lst, rev_lst, fldU, setFld, methOf, putF, isiU, isOne, tyName, thaw, isFr, Mi.tgsL, List.contains_cons, List.contains_nil, List.length_cons, List.length_nil, List.length_append, List.length_map, List.set_cons_zero, List.set_cons_succ, List.lookup_cons, List.lookup_nil, Option.map_some, Bool.not_true, Bool.not_false, Nat.reduceBEq, Nat.reduceEqDiff, Nat.reduceAdd, Nat.reduceLT, Int.reduceEq, Int.reduceNe, Int.reduceLT, Int.reduceLE, if_true, if_false, reduceIte, decide_true, decide_false, decide_eq_true_eq, Bool.false_eq_true, Bool.and_true, Bool.true_and, Bool.and_false, Bool.false_and, Bool.or_true, Bool.or_false, Bool.true_or, Bool.false_or, beq_self_eq_true, Nat.zero_add, List.nil_append, List.isEmpty_nil, List.isEmpty_cons, and_self, true_and, and_true, eq_self, bt_beq, reduceCtorEq, List.set_set, List.all_nil, List.all_cons, List.all_append, set_app, get_app_eq, cut_tl, List.length_set, len_ref_a, list_ref_a, seq_ref_a, lsf_ref_a, dic_ref_a, lst_ref_a, seq_lst, seq_tup, lsf_lst, ix_ref_a, slc_ref_a, rev_ref_a, app_ref_a, appX_l, setIx_ref_a, bin_addX, addU, lstU, List.getElem?_set_ne, List.getElem?_set_self, List.getElem?_append_left, get_app_len, set_app_len, cs0, mk0], f0, by omega, by omega⟩⟩ (by omega) fun S' => ?_
    simp -dsimp (maxSteps := 1000000) (disch := first | assumption | omega | (simp only [List.length_cons, List.length_nil, List.length_append, List.length_map, List.length_take, List.length_drop, List.length_set, List.length_range, List.length_reverse] <;> omega) | rfl | decide) only [OkS_cons, OkS_nil, OkS_nx, OkS_rt, OkS_bk, OkS_ct, OkS_toS, OkS_if, Ok_bind, Ok_bindN, Ok_nx, Ok_ok, Ok_ofS, S_expr, S_asg, S_ret, S_retN, S_pass, S_brk, S_cont, S_for, S_par, par2, par3, cst_int, cst_non, cst_bl, cst_str, ofW, ofWs, E_cst, E_glo, E_var, E_mut, E_bin, E_neg, E_not, E_cmp, E_fld, E_ix, E_rev, E_slc, E_lst, E_tup, E_dic0, E_call, E_make, E_meth, E_callv, E_bc, E_bm, bmX_l, bmX_d, kindU_ref, E_isi, E_rngL, E_sset, E_comp, evEs, T_cst, T_glo, T_var, T_bin, T_neg, T_fld, T_ix, T_rev, T_slc, T_lst, T_tup, T_call, T_make, T_meth, T_callv, T_bc, T_bm, T_isi, T_comp, T_not, T_and, T_or, T_ife, T_cmp, T_cmp2, isB_bl, E_and, E_or, E_ife, E_cmp2, evO, evC, evI, evG, evGs, wipeS, permU, calN_call, calN_cs, getS_0, getS_s, newL_c, newT_c, tru_bl, tru_int, tru_non, tru_lst, tru_tup, bin_add, bin_sub, bin_mulc, bin_fdivc, bin_mod, bin_addL, cmp_lt, cmp_le, cmp_gt, cmp_ge, cmp_isN, cmp_isnN, isNon_non, isNon_int, isNon_tup, isNon_lst, isNon_ref, isNon_bl, cmp_eqI, cmp_neI, cmp_eq, cmp_ne, cmpEq_n, eqD_if, own_ref, der_ref, id_b, own_lst, own_tup, own_non, own_bl, own_int, own_str, der_lst, der_tup, der_non, der_int, der_bl, der_str, isD_int, isD_bl, isD_non, isD_bstr, isD_tup, isD_lst, eqv_int, eqv_bl, eqv_non, eqv_str, eqv_lst, eqv_tup, eqvs_nil, eqvs_nc, eqvs_cn, eqvs_cc, eqvs_n, eqv_ni, eqv_in, bc_int, bc_abs, bc_max, bc_min, bc_divmod, bc_len, bc_lenF, bc_lenT, bc_list, bc_listT, bc_tuple, rep_bl, ix_lst, ix_tup, ix_frz, at_0, at_1, at_2, at_3, at_4, slc_lst, rev_lst, fldU, setFld, methOf, putF, isiU, isOne, tyName, thaw, isFr, Mi.tgsL, List.contains_cons, List.contains_nil, List.length_cons, List.length_nil, List.length_append, List.length_map, List.set_cons_zero, List.set_cons_succ, List.lookup_cons, List.lookup_nil, Option.map_some, Bool.not_true, Bool.not_false, Nat.reduceBEq, Nat.reduceEqDiff, Nat.reduceAdd, Nat.reduceLT, Int.reduceEq, Int.reduceNe, Int.reduceLT, Int.reduceLE, if_true, if_false, reduceIte, decide_true, decide_false, decide_eq_true_eq, Bool.false_eq_true, Bool.and_true, Bool.true_and, Bool.and_false, Bool.false_and, Bool.or_true, Bool.or_false, Bool.true_or, Bool.false_or, beq_self_eq_true, Nat.zero_add, List.nil_append, List.isEmpty_nil, List.isEmpty_cons, and_self, true_and, and_true, eq_self, bt_beq, reduceCtorEq, List.set_set, List.all_nil, List.all_cons, List.all_append, set_app, get_app_eq, cut_tl, List.length_set, len_ref_a, list_ref_a, seq_ref_a, lsf_ref_a, dic_ref_a, lst_ref_a, seq_lst, seq_tup, lsf_lst, ix_ref_a, slc_ref_a, rev_ref_a, app_ref_a, appX_l, setIx_ref_a, bin_addX, addU, lstU, List.getElem?_set_ne, List.getElem?_set_self, List.getElem?_append_left, get_app_len, set_app_len, cs0, mk0]
    exact q _ _ _ _ _ _ _ _ S' ⟨_, _, _, _, _, _, _, rfl⟩
end
end Lawk71

set_option Elab.async false
set_option linter.all false
set_option maxRecDepth 100000
set_option maxHeartbeats 4000000
namespace Lawk71
open PySem Mu
section
variable {d : Nat} {h : Hu}
theorem right {a b : Int} (hb : PotB b) : Ok (callN pr 0 (d + 7) 24 [.ref 0] [.lst [.int a, .int b]]) fun r _ => r = .bl true := by
  rw [c24]
  have body' := @body d
  unfold b24 at body' ⊢
  dsimp only at body'
  simp -dsimp (maxSteps := 1000000) (disch := first | assumption | omega | (simp only [List.length_cons, List.length_nil, List.length_append, List.length_map, List.length_take, List.length_drop, List.length_set, List.length_range, List.length_reverse] <;> omega) | rfl | decide) only [OkS_cons, OkS_nil, OkS_nx, OkS_rt, OkS_bk, OkS_ct, OkS_toS, OkS_if, Ok_bind, Ok_bindN, Ok_nx, Ok_ok, Ok_ofS, S_expr, S_asg, S_ret, S_retN, S_pass, S_brk, S_cont, S_for, S_par, par2, par3, cst_int, cst_non, cst_bl, cst_str, ofW, ofWs, E_cst, E_glo, E_var, E_mut, E_bin, E_neg, E_not, E_cmp, E_fld, E_ix, E_rev, E_slc, E_lst, E_tup, E_dic0, E_call, E_make, E_meth, E_callv, E_bc, E_bm, bmX_l, bmX_d, kindU_ref, E_isi, E_rngL, E_sset, E_comp, evEs, T_cst, T_glo, T_var, T_bin, T_neg, T_fld, T_ix, T_rev, T_slc, T_lst, T_tup, T_call, T_make, T_meth, T_callv, T_bc, T_bm, T_isi, T_comp, T_not, T_and, T_or, T_ife, T_cmp, T_cmp2, isB_bl, E_and, E_or, E_ife, E_cmp2, evO, evC, evI, evG, evGs, wipeS, permU, calN_call, calN_cs, getS_0, getS_s, newL_c, newT_c, tru_bl, tru_int, tru_non, tru_lst, tru_tup, bin_add, bin_sub, bin_mulc, bin_fdivc, bin_mod, bin_addL, cmp_lt, cmp_le, cmp_gt, cmp_ge, cmp_isN, cmp_isnN, isNon_non, isNon_int, isNon_tup, isNon_lst, isNon_ref, isNon_bl, cmp_eqI, cmp_neI, cmp_eq, cmp_ne, cmpEq_n, eqD_if, own_ref, der_ref, id_b, own_lst, own_tup, own_non, own_bl, own_int, own_str, der_lst, der_tup, der_non, der_int, der_bl, der_str, isD_int, isD_bl, isD_non, isD_bstr, isD_tup, isD_lst, eqv_int, eqv_bl, eqv_non, eqv_str, eqv_lst, eqv_tup, eqvs_nil, eqvs_nc, eqvs_cn, eqvs_cc, eqvs_n, eqv_ni, eqv_in, bc_int, bc_abs, bc_max, bc_min, bc_divmod, bc_len, bc_lenF, bc_lenT, bc_list, bc_listT, bc_tuple, rep_bl, ix_lst, ix_tup, ix_frz, at_0, at_1, at_2, at_3, at_4, slc_lst, rev_lst, fldU, setFld, methOf, putF, isiU, isOne, tyName, thaw, isFr, Mi.tgsL, List.contains_cons, List.contains_nil, List.length_cons, List.length_nil, List.length_append, List.length_map, List.set_cons_zero, List.set_cons_succ, List.lookup_cons, List.lookup_nil, Option.map_some, Bool.not_true, Bool.not_false, Nat.reduceBEq, Nat.reduceEqDiff, Nat.reduceAdd, Nat.reduceLT, Int.reduceEq, Int.reduceNe, Int.reduceLT, Int.reduceLE, if_true, if_false, reduceIte, decide_true, decide_false, decide_eq_true_eq, Bool.false_eq_true, Bool.and_true, Bool.true_and, Bool.and_false, Bool.false_and, Bool.or_true, Bool.or_false, Bool.true_or, Bool.false_or, beq_self_eq_true, Nat.zero_add, List.nil_append, List.isEmpty_nil, List.isEmpty_cons, and_self, true_and, and_true, eq_self, bt_beq, reduceCtorEq, List.set_set, List.all_nil, List.all_cons, List.all_append, set_app, get_app_eq, cut_tl, List.length_set, len_ref_a, list_ref_a, seq_ref_a, lsf_ref_a, dic_ref_a, lst_ref_a, seq_lst, seq_tup, lsf_lst, ix_ref_a, slc_ref_a, rev_ref_a, app_ref_a, appX_l, setIx_ref_a, bin_addX, addU, lstU, List.getElem?_set_ne, List.getElem?_set_self, List.getElem?_append_left, get_app_len, set_app_len, cs0, mk0]
  refine draw (p := 0) rfl hb (by omega) (by omega) fun r a' b' r0 r1 hb' => ?_
  simp -dsimp (maxSteps := 1000000) (disch := first | assumption | omega | (simp only [List.length_cons, List.length_nil, List.length_append, List.length_map, List.length_take, List.length_drop, List.length_set, List.length_range, List.length_reverse] <;> omega) | rfl | decide) only [OkS_cons, OkS_nil, OkS_nx, OkS_rt, OkS_bk, OkS_ct, OkS_toS, OkS_if, Ok_bind, Ok_bindN, Ok_nx, Ok_ok, Ok_ofS, S_expr, S_asg, S_ret, S_retN, S_pass, S_brk, S_cont, S_for, S_par, par2, par3, cst_int, cst_non, cst_bl, cst_str, ofW, ofWs, E_cst, E_glo, E_var, E_mut, E_bin, E_neg, E_not, E_cmp, E_fld, E_ix, E_rev, E_slc, E_lst, E_tup, E_dic0, E_call, E_make, E_meth, E_callv, E_bc, E_bm, bmX_l, bmX_d, kindU_ref, E_isi, E_rngL, E_sset, E_comp, evEs, T_cst, T_glo, T_var, T_bin, T_neg, T_fld, T_ix, T_rev, T_slc, T_lst, T_tup, T_call, T_make, T_meth, T_callv, T_bc, T_bm, T_isi, T_comp, T_not, T_and, T_or, T_ife, T_cmp, T_cmp2, isB_bl, E_and, E_or, E_ife, E_cmp2, evO, evC, evI, evG, evGs, wipeS, permU, calN_call, calN_cs, getS_0, getS_s, newL_c, newT_c, tru_bl, tru_int, tru_non, tru_lst, tru_tup, bin_add, bin_sub, bin_mulc, bin_fdivc, bin_mod, bin_addL, cmp_lt, cmp_le, cmp_gt, cmp_ge, cmp_isN, cmp_isnN, isNon_non, isNon_int, isNon_tup, isNon_lst, isNon_ref, isNon_bl, cmp_eqI, cmp_neI, cmp_eq, cmp_ne, cmpEq_n, eqD_if, own_ref, der_ref, id_b, own_lst, own_tup, own_non, own_bl, own_int, own_str, der_lst, der_tup, der_non, der_int, der_bl, der_str, isD_int, isD_bl, isD_non, isD_bstr, isD_tup, isD_lst, eqv_int, eqv_bl, eqv_non, eqv_str, eqv_lst, eqv_tup, eqvs_nil, eqvs_nc, eqvs_cn, eqvs_cc, eqvs_n, eqv_ni, eqv_in, bc_int, bc_abs, bc_max, bc_min, bc_divmod, bc_len, bc_lenF, bc_lenT, bc_list, bc_listT, bc_tuple, rep_bl, ix_lst, ix_tup, ix_frz, at_0, at_1, at_2, at_3, at_4, slc_lst, rev_lst, fldU, setFld, methOf, putF, isiU, isOne, tyName, thaw, isFr, Mi.tgsL, List.contains_cons, List.contains_nil, List.length_cons, List.length_nil, List.length_append, List.length_map, List.set_cons_zero, List.set_cons_succ, List.lookup_cons, List.lookup_nil, Option.map_some, Bool.not_true, Bool.not_false, Nat.reduceBEq, Nat.reduceEqDiff, Nat.reduceAdd, Nat.reduceLT, Int.reduceEq, Int.reduceNe, Int.reduceLT, Int.reduceLE, if_true, if_false, reduceIte, decide_true, decide_false, decide_eq_true_eq, Bool.false_eq_true, Bool.and_true, Bool.true_and, Bool.and_false, Bool.false_and, Bool.or_true, Bool.or_false, Bool.true_or, Bool.false_or, beq_self_eq_true, Nat.zero_add, List.nil_append, List.isEmpty_nil, List.isEmpty_cons, and_self, true_and, and_true, eq_self, bt_beq, reduceCtorEq, List.set_set, List.all_nil, List.all_cons, List.all_append, set_app, get_app_eq, cut_tl, List.length_set, len_ref_a, list_ref_a, seq_ref_a, lsf_ref_a, dic_ref_a, lst_ref_a, seq_lst, seq_tup, lsf_lst, ix_ref_a, slc_ref_a, rev_ref_a, app_ref_a, appX_l, setIx_ref_a, bin_addX, addU, lstU, List.getElem?_set_ne, List.getElem?_set_self, List.getElem?_append_left, get_app_len, set_app_len, cs0, mk0]
  have e1 := init (d := d + 2) (h := [OU.lst [.int a', .int b']]) (many := 1 + r) (by omega)
  simp only [List.length_cons, List.length_nil, Nat.zero_add, List.cons_append, List.nil_append] at e1
  simp -dsimp (maxSteps := 1000000) (disch := first | assumption | omega | (simp only [List.length_cons, List.length_nil, List.length_append, List.length_map, List.length_take, List.length_drop, List.length_set, List.length_range, List.length_reverse] <;> omega) | rfl | decide) only [OkS_cons, OkS_nil, OkS_nx, OkS_rt, OkS_bk, OkS_ct, OkS_toS, OkS_if, Ok_bind, Ok_bindN, Ok_nx, Ok_ok, Ok_ofS, S_expr, S_asg, S_ret, S_retN, S_pass, S_brk, S_cont, S_for, S_par, par2, par3, cst_int, cst_non, cst_bl, cst_str, ofW, ofWs, E_cst, E_glo, E_var, E_mut, E_bin, E_neg, E_not, E_cmp, E_fld, E_ix, E_rev, E_slc, E_lst, E_tup, E_dic0, E_call, E_make, E_meth, E_callv, E_bc, E_bm, bmX_l, bmX_d, kindU_ref, E_isi, E_rngL, E_sset, E_comp, evEs, T_cst, T_glo, T_var, T_bin, T_neg, T_fld, T_ix, T_rev, T_slc, T_lst, T_tup, T_call, T_make, T_meth, T_callv, T_bc, T_bm, T_isi, T_comp, T_not, T_and, T_or, T_ife, T_cmp, T_cmp2, isB_bl, E_and, E_or, E_ife, E_cmp2, evO, evC, evI, evG, evGs, wipeS, permU, calN_call, calN_cs, getS_0, getS_s, newL_c, newT_c, tru_bl, tru_int, tru_non, tru_lst, tru_tup, bin_add, bin_sub, bin_mulc, bin_fdivc, bin_mod, bin_addL, cmp_lt, cmp_le, cmp_gt, cmp_ge, cmp_isN, cmp_isnN, isNon_non, isNon_int, isNon_tup, isNon_lst, isNon_ref, isNon_bl, cmp_eqI, cmp_neI, cmp_eq, cmp_ne, cmpEq_n, eqD_if, own_ref, der_ref, id_b, own_lst, own_tup, own_non, own_bl, own_int, own_str, der_lst, der_tup, der_non, der_int, der_bl, der_str, isD_int, isD_bl, isD_non, isD_bstr, isD_tup, isD_lst, eqv_int, eqv_bl, eqv_non, eqv_str, eqv_lst, eqv_tup, eqvs_nil, eqvs_nc, eqvs_cn, eqvs_cc, eqvs_n, eqv_ni, eqv_in, bc_int, bc_abs, bc_max, bc_min, bc_divmod, bc_len, bc_lenF, bc_lenT, bc_list, bc_listT, bc_tuple, rep_bl, ix_lst, ix_tup, ix_frz, at_0, at_1, at_2, at_3, at_4, slc_lst, rev_lst, fldU, setFld, methOf, putF, isiU, isOne, tyName, thaw, isFr, Mi.tgsL, List.contains_cons, List.contains_nil, List.length_cons, List.length_nil, List.length_append, List.length_map, List.set_cons_zero, List.set_cons_succ, List.lookup_cons, List.lookup_nil, Option.map_some, Bool.not_true, Bool.not_false, Nat.reduceBEq, Nat.reduceEqDiff, Nat.reduceAdd, Nat.reduceLT, Int.reduceEq, Int.reduceNe, Int.reduceLT, Int.reduceLE, if_true, if_false, reduceIte, decide_true, decide_false, decide_eq_true_eq, Bool.false_eq_true, Bool.and_true, Bool.true_and, Bool.and_false, Bool.false_and, Bool.or_true, Bool.or_false, Bool.true_or, Bool.false_or, beq_self_eq_true, Nat.zero_add, List.nil_append, List.isEmpty_nil, List.isEmpty_cons, and_self, true_and, and_true, eq_self, bt_beq, reduceCtorEq, List.set_set, List.all_nil, List.all_cons, List.all_append, set_app, get_app_eq, cut_tl, List.length_set, len_ref_a, list_ref_a, seq_ref_a, lsf_ref_a, dic_ref_a, lst_ref_a, seq_lst, seq_tup, lsf_lst, ix_ref_a, slc_ref_a, rev_ref_a, app_ref_a, appX_l, setIx_ref_a, bin_addX, addU, lstU, List.getElem?_set_ne, List.getElem?_set_self, List.getElem?_append_left, get_app_len, set_app_len, cs0, mk0, List.cons_append, e1]
  refine draw (p := 0) rfl hb' (by omega) (by omega) fun r2 a2 b2 r20 r21 hb2 => ?_
  have c0 : -(2 ^ 62) ≤ (0 : Int) ∧ (0 : Int) < 2 ^ 62 ∧ -(2 ^ 62) ≤ 14 + r2 ∧ 14 + r2 < 2 ^ 62 := ⟨by omega, by omega, by omega, by omega⟩
  simp -dsimp (maxSteps := 1000000) (disch := first | assumption | omega | (simp only [List.length_cons, List.length_nil, List.length_append, List.length_map, List.length_take, List.length_drop, List.length_set, List.length_range, List.length_reverse] <;> omega) | rfl | decide) only [OkS_cons, OkS_nil, OkS_nx, OkS_rt, OkS_bk, OkS_ct, OkS_toS, OkS_if, Ok_bind, Ok_bindN, Ok_nx, Ok_ok, Ok_ofS, S_expr, S_asg, S_ret, S_retN, S_pass, S_brk, S_cont, S_for, S_par, par2, par3, cst_int, cst_non, cst_bl, cst_str, ofW, ofWs, E_cst, E_glo, E_var, E_mut, E_bin, E_neg, E_not, E_cmp, E_fld, E_ix, E_rev, E_slc, E_lst, E_tup, E_dic0, E_call, E_make, E_meth, E_callv, E_bc, E_bm, bmX_l, bmX_d, kindU_ref, E_isi, E_rngL, E_sset, E_comp, evEs, T_cst, T_glo, T_var, T_bin, T_neg, T_fld, T_ix, T_rev, T_slc, T_lst, T_tup, T_call, T_make, T_meth, T_callv, T_bc, T_bm, T_isi, T_comp, T_not, T_and, T_or, T_ife, T_cmp, T_cmp2, isB_bl, E_and, E_or, E_ife, E_cmp2, evO, evC, evI, evG, evGs, wipeS, permU, calN_call, calN_cs, getS_0, getS_s, newL_c, newT_c, tru_bl, tru_int, tru_non, tru_lst, tru_tup, bin_add, bin_sub, bin_mulc, bin_fdivc, bin_mod, bin_addL, cmp_lt, cmp_le, cmp_gt, cmp_ge, cmp_isN, cmp_isnN, isNon_non, isNon_int, isNon_tup, isNon_lst, isNon_ref, isNon_bl, cmp_eqI, cmp_neI, cmp_eq, cmp_ne, cmpEq_n, eqD_if, own_ref, der_ref, id_b, own_lst, own_tup, own_non, own_bl, own_int, own_str, der_lst, der_tup, der_non, der_int, der_bl, der_str, isD_int, isD_bl, isD_non, isD_bstr, isD_tup, isD_lst, eqv_int, eqv_bl, eqv_non, eqv_str, eqv_lst, eqv_tup, eqvs_nil, eqvs_nc, eqvs_cn, eqvs_cc, eqvs_n, eqv_ni, eqv_in, bc_int, bc_abs, bc_max, bc_min, bc_divmod, bc_len, bc_lenF, bc_lenT, bc_list, bc_listT, bc_tuple, rep_bl, ix_lst, ix_tup, ix_frz, at_0, at_1, at_2, at_3, at_4, slc_lst, rev_lst, fldU, setFld, methOf, putF, isiU, isOne, tyName, thaw, isFr, Mi.tgsL, List.contains_cons, List.contains_nil, List.length_cons, List.length_nil, List.length_append, List.length_map, List.set_cons_zero, List.set_cons_succ, List.lookup_cons, List.lookup_nil, Option.map_some, Bool.not_true, Bool.not_false, Nat.reduceBEq, Nat.reduceEqDiff, Nat.reduceAdd, Nat.reduceLT, Int.reduceEq, Int.reduceNe, Int.reduceLT, Int.reduceLE, if_true, if_false, reduceIte, decide_true, decide_false, decide_eq_true_eq, Bool.false_eq_true, Bool.and_true, Bool.true_and, Bool.and_false, Bool.false_and, Bool.or_true, Bool.or_false, Bool.true_or, Bool.false_or, beq_self_eq_true, Nat.zero_add, List.nil_append, List.isEmpty_nil, List.isEmpty_cons, and_self, true_and, and_true, eq_self, bt_beq, reduceCtorEq, List.set_set, List.all_nil, List.all_cons, List.all_append, set_app, get_app_eq, cut_tl, List.length_set, len_ref_a, list_ref_a, seq_ref_a, lsf_ref_a, dic_ref_a, lst_ref_a, seq_lst, seq_tup, lsf_lst, ix_ref_a, slc_ref_a, rev_ref_a, app_ref_a, appX_l, setIx_ref_a, bin_addX, addU, lstU, List.getElem?_set_ne, List.getElem?_set_self, List.getElem?_append_left, get_app_len, set_app_len, cs0, mk0, rngJ_c c0]
  have S0 : St 0 (1 + r) 0 0 [] [] 2 .non [OU.lst [.int a2, .int b2], OU.ins 0 [(0, .int (1 + r)), (1, .int 0), (2, .lst []), (3, .lst [])], OU.lst [], OU.lst [], OU.lst []] :=
    ⟨⟨a2, b2, rfl, hb2⟩, rfl, rfl, by omega, rfl, rfl, by simp, by simp, by omega, by omega, by simp, by simp; omega, by omega, .inl rfl⟩
  refine for_dat src_rng (List.range (14 + r2 - 0).toNat) (fun i : Nat => .int (0 + (i : Int))) rfl (fun i s h => ∃ first made es lefts o as, St i (1 + r) first made es lefts o as h ∧ ∃ t9 t10 t11 t12 t13 t14 t15, s = sl (1 + r) first made o as t9 t10 t11 t12 t13 t14 t15) ?_ (fun _ _ _ _ => src_rng) ?_ ?_
  · exact ⟨_, _, _, _, _, _, S0, _, _, _, _, _, _, _, rfl⟩
  · rintro i s h k ek ⟨first, made, es, lefts, o, as, S, t9, t10, t11, t12, t13, t14, t15, rfl⟩
    have hi : i < (14 + r2 - 0).toNat := by
      have := (List.getElem?_eq_some_iff.mp ek).1
      simpa using this
    unfold sl
    simp -dsimp only [evG, Ok_ok, List.set_cons_succ, List.set_cons_zero]
    apply body' S (by omega)
    intro first made es lefts o as h s S' hs
    exact ⟨first, made, es, lefts, o, as, S', hs⟩
  · rintro s h ⟨first, made, es, lefts, o, as, S, t9, t10, t11, t12, t13, t14, t15, rfl⟩
    clear body'
    unfold sl
    have ll := S.ll
    simp only [List.length_range] at ll
    have sz := S.sz
    have e3 : ksL lefts ++ es.map (fun e => U.lst [.int e.1]) = ksL (lefts ++ es.map Prod.fst) := by simp
    have D1 : ∀ k, (ksL (lefts ++ es.map Prod.fst)).all (isD (k + 3)) = true := fun k => by simp [isD]
    rcases S.asd with rfl | ⟨c, es', f', rfl, c1, c2, c3, c4, c5, c6⟩
    · simp -dsimp (maxSteps := 1000000) (disch := first | assumption | omega | (simp only [List.length_cons, List.length_nil, List.length_append, List.length_map, List.length_take, List.length_drop, List.length_set, List.length_range, List.length_reverse] <;> omega) | rfl | decide) only [OkS_cons, OkS_nil, OkS_nx, OkS_rt, OkS_bk, OkS_ct, OkS_toS, OkS_if, Ok_bind, Ok_bindN, Ok_nx, Ok_ok, Ok_ofS, S_expr, S_asg, S_ret, S_retN, S_pass, S_brk, S_cont, S_for, S_par, par2, par3, cst_int, cst_non, cst_bl, cst_str, ofW, ofWs, E_cst, E_glo, E_var, E_mut, E_bin, E_neg, E_not, E_cmp, E_fld, E_ix, E_rev, E_slc, E_lst, E_tup, E_dic0, E_call, E_make, E_meth, E_callv, E_bc, E_bm, bmX_l, bmX_d, kindU_ref, E_isi, E_rngL, E_sset, E_comp, evEs, T_cst, T_glo, T_var, T_bin, T_neg, T_fld, T_ix, T_rev, T_slc, T_lst, T_tup, T_call, T_make, T_meth, T_callv, T_bc, T_bm, T_isi, T_comp, T_not, T_and, T_or, T_ife, T_cmp, T_cmp2, isB_bl, E_and, E_or, E_ife, E_cmp2, evO, evC, evI, evG, evGs, wipeS, permU, calN_call, calN_cs, getS_0, getS_s, newL_c, newT_c, tru_bl, tru_int, tru_non, tru_lst, tru_tup, bin_add, bin_sub, bin_mulc, bin_fdivc, bin_mod, bin_addL, cmp_lt, cmp_le, cmp_gt, cmp_ge, cmp_isN, cmp_isnN, isNon_non, isNon_int, isNon_tup, isNon_lst, isNon_ref, isNon_bl, cmp_eqI, cmp_neI, cmp_eq, cmp_ne, cmpEq_n, eqD_if, own_ref, der_ref, id_b, own_lst, own_tup, own_non, own_bl, own_int, own_str, der_lst, der_tup, der_non, der_int, der_bl, der_str, isD_int, isD_bl, isD_non, isD_bstr, isD_tup, isD_lst, eqv_int, eqv_bl, eqv_non, eqv_str, eqv_lst, eqv_tup, eqvs_nil, eqvs_nc, eqvs_cn, eqvs_cc, eqvs_n, eqv_ni, eqv_in, bc_int, bc_abs, bc_max, bc_min, bc_divmod, bc_len, bc_lenF, bc_lenT, bc_list, bc_listT, bc_tuple, rep_bl, ix_lst, ix_tup, ix_frz, at_0, at_1, at_2, at_3, at_4, slc_lst, rev_lst, fldU, setFld, methOf, putF, isiU, isOne, tyName, thaw, isFr, Mi.tgsL, List.contains_cons, List.contains_nil, List.length_cons, List.length_nil, List.length_append, List.length_map, List.set_cons_zero, List.set_cons_succ, List.lookup_cons, List.lookup_nil, Option.map_some, Bool.not_true, Bool.not_false, Nat.reduceBEq, Nat.reduceEqDiff, Nat.reduceAdd, Nat.reduceLT, Int.reduceEq, Int.reduceNe, Int.reduceLT, Int.reduceLE, if_true, if_false, reduceIte, decide_true, decide_false, decide_eq_true_eq, Bool.false_eq_true, Bool.and_true, Bool.true_and, Bool.and_false, Bool.false_and, Bool.or_true, Bool.or_false, Bool.true_or, Bool.false_or, beq_self_eq_true, Nat.zero_add, List.nil_append, List.isEmpty_nil, List.isEmpty_cons, and_self, true_and, and_true, eq_self, bt_beq, reduceCtorEq, List.set_set, List.all_nil, List.all_cons, List.all_append, set_app, get_app_eq, cut_tl, List.length_set, len_ref_a, list_ref_a, seq_ref_a, lsf_ref_a, dic_ref_a, lst_ref_a, seq_lst, seq_tup, lsf_lst, ix_ref_a, slc_ref_a, rev_ref_a, app_ref_a, appX_l, setIx_ref_a, bin_addX, addU, lstU, List.getElem?_set_ne, List.getElem?_set_self, List.getElem?_append_left, get_app_len, set_app_len, cs0, mk0, S.ow]
      refine comp_dat (src_seq (us := owL es) (by simp -dsimp (maxSteps := 1000000) (disch := first | assumption | omega | (simp only [List.length_cons, List.length_nil, List.length_append, List.length_map, List.length_take, List.length_drop, List.length_set, List.length_range, List.length_reverse] <;> omega) | rfl | decide) only [OkS_cons, OkS_nil, OkS_nx, OkS_rt, OkS_bk, OkS_ct, OkS_toS, OkS_if, Ok_bind, Ok_bindN, Ok_nx, Ok_ok, Ok_ofS, S_expr, S_asg, S_ret, S_retN, S_pass, S_brk, S_cont, S_for, S_par, par2, par3, cst_int, cst_non, cst_bl, cst_str, ofW, ofWs, E_cst, E_glo, E_var, E_mut, E_bin, E_neg, E_not, E_cmp, E_fld, E_ix, E_rev, E_slc, E_lst, E_tup, E_dic0, E_call, E_make, E_meth, E_callv, E_bc, E_bm, bmX_l, bmX_d, kindU_ref, E_isi, E_rngL, E_sset, E_comp, evEs, T_cst, T_glo, T_var, T_bin, T_neg, T_fld, T_ix, T_rev, T_slc, T_lst, T_tup, T_call, T_make, T_meth, T_callv, T_bc, T_bm, T_isi, T_comp, T_not, T_and, T_or, T_ife, T_cmp, T_cmp2, isB_bl, E_and, E_or, E_ife, E_cmp2, evO, evC, evI, evG, evGs, wipeS, permU, calN_call, calN_cs, getS_0, getS_s, newL_c, newT_c, tru_bl, tru_int, tru_non, tru_lst, tru_tup, bin_add, bin_sub, bin_mulc, bin_fdivc, bin_mod, bin_addL, cmp_lt, cmp_le, cmp_gt, cmp_ge, cmp_isN, cmp_isnN, isNon_non, isNon_int, isNon_tup, isNon_lst, isNon_ref, isNon_bl, cmp_eqI, cmp_neI, cmp_eq, cmp_ne, cmpEq_n, eqD_if, own_ref, der_ref, id_b, own_lst, own_tup, own_non, own_bl, own_int, own_str, der_lst, der_tup, der_non, der_int, der_bl, der_str, isD_int, isD_bl, isD_non, isD_bstr, isD_tup, isD_lst, eqv_int, eqv_bl, eqv_non, eqv_str, eqv_lst, eqv_tup, eqvs_nil, eqvs_nc, eqvs_cn, eqvs_cc, eqvs_n, eqv_ni, eqv_in, bc_int, bc_abs, bc_max, bc_min, bc_divmod, bc_len, bc_lenF, bc_lenT, bc_list, bc_listT, bc_tuple, rep_bl, ix_lst, ix_tup, ix_frz, at_0, at_1, at_2, at_3, at_4, slc_lst, rev_lst, fldU, setFld, methOf, putF, isiU, isOne, tyName, thaw, isFr, Mi.tgsL, List.contains_cons, List.contains_nil, List.length_cons, List.length_nil, List.length_append, List.length_map, List.set_cons_zero, List.set_cons_succ, List.lookup_cons, List.lookup_nil, Option.map_some, Bool.not_true, Bool.not_false, Nat.reduceBEq, Nat.reduceEqDiff, Nat.reduceAdd, Nat.reduceLT, Int.reduceEq, Int.reduceNe, Int.reduceLT, Int.reduceLE, if_true, if_false, reduceIte, decide_true, decide_false, decide_eq_true_eq, Bool.false_eq_true, Bool.and_true, Bool.true_and, Bool.and_false, Bool.false_and, Bool.or_true, Bool.or_false, Bool.true_or, Bool.false_or, beq_self_eq_true, Nat.zero_add, List.nil_append, List.isEmpty_nil, List.isEmpty_cons, and_self, true_and, and_true, eq_self, bt_beq, reduceCtorEq, List.set_set, List.all_nil, List.all_cons, List.all_append, set_app, get_app_eq, cut_tl, List.length_set, len_ref_a, list_ref_a, seq_ref_a, lsf_ref_a, dic_ref_a, lst_ref_a, seq_lst, seq_tup, lsf_lst, ix_ref_a, slc_ref_a, rev_ref_a, app_ref_a, appX_l, setIx_ref_a, bin_addX, addU, lstU, List.getElem?_set_ne, List.getElem?_set_self, List.getElem?_append_left, get_app_len, set_app_len, cs0, mk0, S.ow])) es (fun e => .tup [.lst [.int e.1], .bl e.2]) (fun e => .lst [.int e.1]) rfl (by omega) (fun e me => ?_) ?_
      · simp -dsimp (maxSteps := 1000000) (disch := first | assumption | omega | (simp only [List.length_cons, List.length_nil, List.length_append, List.length_map, List.length_take, List.length_drop, List.length_set, List.length_range, List.length_reverse] <;> omega) | rfl | decide) only [OkS_cons, OkS_nil, OkS_nx, OkS_rt, OkS_bk, OkS_ct, OkS_toS, OkS_if, Ok_bind, Ok_bindN, Ok_nx, Ok_ok, Ok_ofS, S_expr, S_asg, S_ret, S_retN, S_pass, S_brk, S_cont, S_for, S_par, par2, par3, cst_int, cst_non, cst_bl, cst_str, ofW, ofWs, E_cst, E_glo, E_var, E_mut, E_bin, E_neg, E_not, E_cmp, E_fld, E_ix, E_rev, E_slc, E_lst, E_tup, E_dic0, E_call, E_make, E_meth, E_callv, E_bc, E_bm, bmX_l, bmX_d, kindU_ref, E_isi, E_rngL, E_sset, E_comp, evEs, T_cst, T_glo, T_var, T_bin, T_neg, T_fld, T_ix, T_rev, T_slc, T_lst, T_tup, T_call, T_make, T_meth, T_callv, T_bc, T_bm, T_isi, T_comp, T_not, T_and, T_or, T_ife, T_cmp, T_cmp2, isB_bl, E_and, E_or, E_ife, E_cmp2, evO, evC, evI, evG, evGs, wipeS, permU, calN_call, calN_cs, getS_0, getS_s, newL_c, newT_c, tru_bl, tru_int, tru_non, tru_lst, tru_tup, bin_add, bin_sub, bin_mulc, bin_fdivc, bin_mod, bin_addL, cmp_lt, cmp_le, cmp_gt, cmp_ge, cmp_isN, cmp_isnN, isNon_non, isNon_int, isNon_tup, isNon_lst, isNon_ref, isNon_bl, cmp_eqI, cmp_neI, cmp_eq, cmp_ne, cmpEq_n, eqD_if, own_ref, der_ref, id_b, own_lst, own_tup, own_non, own_bl, own_int, own_str, der_lst, der_tup, der_non, der_int, der_bl, der_str, isD_int, isD_bl, isD_non, isD_bstr, isD_tup, isD_lst, eqv_int, eqv_bl, eqv_non, eqv_str, eqv_lst, eqv_tup, eqvs_nil, eqvs_nc, eqvs_cn, eqvs_cc, eqvs_n, eqv_ni, eqv_in, bc_int, bc_abs, bc_max, bc_min, bc_divmod, bc_len, bc_lenF, bc_lenT, bc_list, bc_listT, bc_tuple, rep_bl, ix_lst, ix_tup, ix_frz, at_0, at_1, at_2, at_3, at_4, slc_lst, rev_lst, fldU, setFld, methOf, putF, isiU, isOne, tyName, thaw, isFr, Mi.tgsL, List.contains_cons, List.contains_nil, List.length_cons, List.length_nil, List.length_append, List.length_map, List.set_cons_zero, List.set_cons_succ, List.lookup_cons, List.lookup_nil, Option.map_some, Bool.not_true, Bool.not_false, Nat.reduceBEq, Nat.reduceEqDiff, Nat.reduceAdd, Nat.reduceLT, Int.reduceEq, Int.reduceNe, Int.reduceLT, Int.reduceLE, if_true, if_false, reduceIte, decide_true, decide_false, decide_eq_true_eq, Bool.false_eq_true, Bool.and_true, Bool.true_and, Bool.and_false, Bool.false_and, Bool.or_true, Bool.or_false, Bool.true_or, Bool.false_or, beq_self_eq_true, Nat.zero_add, List.nil_append, List.isEmpty_nil, List.isEmpty_cons, and_self, true_and, and_true, eq_self, bt_beq, reduceCtorEq, List.set_set, List.all_nil, List.all_cons, List.all_append, set_app, get_app_eq, cut_tl, List.length_set, len_ref_a, list_ref_a, seq_ref_a, lsf_ref_a, dic_ref_a, lst_ref_a, seq_lst, seq_tup, lsf_lst, ix_ref_a, slc_ref_a, rev_ref_a, app_ref_a, appX_l, setIx_ref_a, bin_addX, addU, lstU, List.getElem?_set_ne, List.getElem?_set_self, List.getElem?_append_left, get_app_len, set_app_len, cs0, mk0]
      · simp -dsimp (maxSteps := 1000000) (disch := first | assumption | omega | (simp only [List.length_cons, List.length_nil, List.length_append, List.length_map, List.length_take, List.length_drop, List.length_set, List.length_range, List.length_reverse] <;> omega) | rfl | decide) only [OkS_cons, OkS_nil, OkS_nx, OkS_rt, OkS_bk, OkS_ct, OkS_toS, OkS_if, Ok_bind, Ok_bindN, Ok_nx, Ok_ok, Ok_ofS, S_expr, S_asg, S_ret, S_retN, S_pass, S_brk, S_cont, S_for, S_par, par2, par3, cst_int, cst_non, cst_bl, cst_str, ofW, ofWs, E_cst, E_glo, E_var, E_mut, E_bin, E_neg, E_not, E_cmp, E_fld, E_ix, E_rev, E_slc, E_lst, E_tup, E_dic0, E_call, E_make, E_meth, E_callv, E_bc, E_bm, bmX_l, bmX_d, kindU_ref, E_isi, E_rngL, E_sset, E_comp, evEs, T_cst, T_glo, T_var, T_bin, T_neg, T_fld, T_ix, T_rev, T_slc, T_lst, T_tup, T_call, T_make, T_meth, T_callv, T_bc, T_bm, T_isi, T_comp, T_not, T_and, T_or, T_ife, T_cmp, T_cmp2, isB_bl, E_and, E_or, E_ife, E_cmp2, evO, evC, evI, evG, evGs, wipeS, permU, calN_call, calN_cs, getS_0, getS_s, newL_c, newT_c, tru_bl, tru_int, tru_non, tru_lst, tru_tup, bin_add, bin_sub, bin_mulc, bin_fdivc, bin_mod, bin_addL, cmp_lt, cmp_le, cmp_gt, cmp_ge, cmp_isN, cmp_isnN, isNon_non, isNon_int, isNon_tup, isNon_lst, isNon_ref, isNon_bl, cmp_eqI, cmp_neI, cmp_eq, cmp_ne, cmpEq_n, eqD_if, own_ref, der_ref, id_b, own_lst, own_tup, own_non, own_bl, own_int, own_str, der_lst, der_tup, der_non, der_int, der_bl, der_str, isD_int, isD_bl, isD_non, isD_bstr, isD_tup, isD_lst, eqv_int, eqv_bl, eqv_non, eqv_str, eqv_lst, eqv_tup, eqvs_nil, eqvs_nc, eqvs_cn, eqvs_cc, eqvs_n, eqv_ni, eqv_in, bc_int, bc_abs, bc_max, bc_min, bc_divmod, bc_len, bc_lenF, bc_lenT, bc_list, bc_listT, bc_tuple, rep_bl, ix_lst, ix_tup, ix_frz, at_0, at_1, at_2, at_3, at_4, slc_lst, rev_lst, fldU, setFld, methOf, putF, isiU, isOne, tyName, thaw, isFr, Mi.tgsL, List.contains_cons, List.contains_nil, List.length_cons, List.length_nil, List.length_append, List.length_map, List.set_cons_zero, List.set_cons_succ, List.lookup_cons, List.lookup_nil, Option.map_some, Bool.not_true, Bool.not_false, Nat.reduceBEq, Nat.reduceEqDiff, Nat.reduceAdd, Nat.reduceLT, Int.reduceEq, Int.reduceNe, Int.reduceLT, Int.reduceLE, if_true, if_false, reduceIte, decide_true, decide_false, decide_eq_true_eq, Bool.false_eq_true, Bool.and_true, Bool.true_and, Bool.and_false, Bool.false_and, Bool.or_true, Bool.or_false, Bool.true_or, Bool.false_or, beq_self_eq_true, Nat.zero_add, List.nil_append, List.isEmpty_nil, List.isEmpty_cons, and_self, true_and, and_true, eq_self, bt_beq, reduceCtorEq, List.set_set, List.all_nil, List.all_cons, List.all_append, set_app, get_app_eq, cut_tl, List.length_set, len_ref_a, list_ref_a, seq_ref_a, lsf_ref_a, dic_ref_a, lst_ref_a, seq_lst, seq_tup, lsf_lst, ix_ref_a, slc_ref_a, rev_ref_a, app_ref_a, appX_l, setIx_ref_a, bin_addX, addU, lstU, List.getElem?_set_ne, List.getElem?_set_self, List.getElem?_append_left, get_app_len, set_app_len, cs0, mk0, S.lf, S.en, e3, D1, eqvs_self D1]
    · simp -dsimp (maxSteps := 1000000) (disch := first | assumption | omega | (simp only [List.length_cons, List.length_nil, List.length_append, List.length_map, List.length_take, List.length_drop, List.length_set, List.length_range, List.length_reverse] <;> omega) | rfl | decide) only [OkS_cons, OkS_nil, OkS_nx, OkS_rt, OkS_bk, OkS_ct, OkS_toS, OkS_if, Ok_bind, Ok_bindN, Ok_nx, Ok_ok, Ok_ofS, S_expr, S_asg, S_ret, S_retN, S_pass, S_brk, S_cont, S_for, S_par, par2, par3, cst_int, cst_non, cst_bl, cst_str, ofW, ofWs, E_cst, E_glo, E_var, E_mut, E_bin, E_neg, E_not, E_cmp, E_fld, E_ix, E_rev, E_slc, E_lst, E_tup, E_dic0, E_call, E_make, E_meth, E_callv, E_bc, E_bm, bmX_l, bmX_d, kindU_ref, E_isi, E_rngL, E_sset, E_comp, evEs, T_cst, T_glo, T_var, T_bin, T_neg, T_fld, T_ix, T_rev, T_slc, T_lst, T_tup, T_call, T_make, T_meth, T_callv, T_bc, T_bm, T_isi, T_comp, T_not, T_and, T_or, T_ife, T_cmp, T_cmp2, isB_bl, E_and, E_or, E_ife, E_cmp2, evO, evC, evI, evG, evGs, wipeS, permU, calN_call, calN_cs, getS_0, getS_s, newL_c, newT_c, tru_bl, tru_int, tru_non, tru_lst, tru_tup, bin_add, bin_sub, bin_mulc, bin_fdivc, bin_mod, bin_addL, cmp_lt, cmp_le, cmp_gt, cmp_ge, cmp_isN, cmp_isnN, isNon_non, isNon_int, isNon_tup, isNon_lst, isNon_ref, isNon_bl, cmp_eqI, cmp_neI, cmp_eq, cmp_ne, cmpEq_n, eqD_if, own_ref, der_ref, id_b, own_lst, own_tup, own_non, own_bl, own_int, own_str, der_lst, der_tup, der_non, der_int, der_bl, der_str, isD_int, isD_bl, isD_non, isD_bstr, isD_tup, isD_lst, eqv_int, eqv_bl, eqv_non, eqv_str, eqv_lst, eqv_tup, eqvs_nil, eqvs_nc, eqvs_cn, eqvs_cc, eqvs_n, eqv_ni, eqv_in, bc_int, bc_abs, bc_max, bc_min, bc_divmod, bc_len, bc_lenF, bc_lenT, bc_list, bc_listT, bc_tuple, rep_bl, ix_lst, ix_tup, ix_frz, at_0, at_1, at_2, at_3, at_4, slc_lst, rev_lst, fldU, setFld, methOf, putF, isiU, isOne, tyName, thaw, isFr, Mi.tgsL, List.contains_cons, List.contains_nil, List.length_cons, List.length_nil, List.length_append, List.length_map, List.set_cons_zero, List.set_cons_succ, List.lookup_cons, List.lookup_nil, Option.map_some, Bool.not_true, Bool.not_false, Nat.reduceBEq, Nat.reduceEqDiff, Nat.reduceAdd, Nat.reduceLT, Int.reduceEq, Int.reduceNe, Int.reduceLT, Int.reduceLE, if_true, if_false, reduceIte, decide_true, decide_false, decide_eq_true_eq, Bool.false_eq_true, Bool.and_true, Bool.true_and, Bool.and_false, Bool.false_and, Bool.or_true, Bool.or_false, Bool.true_or, Bool.false_or, beq_self_eq_true, Nat.zero_add, List.nil_append, List.isEmpty_nil, List.isEmpty_cons, and_self, true_and, and_true, eq_self, bt_beq, reduceCtorEq, List.set_set, List.all_nil, List.all_cons, List.all_append, set_app, get_app_eq, cut_tl, List.length_set, len_ref_a, list_ref_a, seq_ref_a, lsf_ref_a, dic_ref_a, lst_ref_a, seq_lst, seq_tup, lsf_lst, ix_ref_a, slc_ref_a, rev_ref_a, app_ref_a, appX_l, setIx_ref_a, bin_addX, addU, lstU, List.getElem?_set_ne, List.getElem?_set_self, List.getElem?_append_left, get_app_len, set_app_len, cs0, mk0, S.ow, seen c3 c4 c5 c6 (isL_l (us := owL es'))]
      refine comp_dat (src_seq (us := owL es) (by simp -dsimp (maxSteps := 1000000) (disch := first | assumption | omega | (simp only [List.length_cons, List.length_nil, List.length_append, List.length_map, List.length_take, List.length_drop, List.length_set, List.length_range, List.length_reverse] <;> omega) | rfl | decide) only [OkS_cons, OkS_nil, OkS_nx, OkS_rt, OkS_bk, OkS_ct, OkS_toS, OkS_if, Ok_bind, Ok_bindN, Ok_nx, Ok_ok, Ok_ofS, S_expr, S_asg, S_ret, S_retN, S_pass, S_brk, S_cont, S_for, S_par, par2, par3, cst_int, cst_non, cst_bl, cst_str, ofW, ofWs, E_cst, E_glo, E_var, E_mut, E_bin, E_neg, E_not, E_cmp, E_fld, E_ix, E_rev, E_slc, E_lst, E_tup, E_dic0, E_call, E_make, E_meth, E_callv, E_bc, E_bm, bmX_l, bmX_d, kindU_ref, E_isi, E_rngL, E_sset, E_comp, evEs, T_cst, T_glo, T_var, T_bin, T_neg, T_fld, T_ix, T_rev, T_slc, T_lst, T_tup, T_call, T_make, T_meth, T_callv, T_bc, T_bm, T_isi, T_comp, T_not, T_and, T_or, T_ife, T_cmp, T_cmp2, isB_bl, E_and, E_or, E_ife, E_cmp2, evO, evC, evI, evG, evGs, wipeS, permU, calN_call, calN_cs, getS_0, getS_s, newL_c, newT_c, tru_bl, tru_int, tru_non, tru_lst, tru_tup, bin_add, bin_sub, bin_mulc, bin_fdivc, bin_mod, bin_addL, cmp_lt, cmp_le, cmp_gt, cmp_ge, cmp_isN, cmp_isnN, isNon_non, isNon_int, isNon_tup, isNon_lst, isNon_ref, isNon_bl, cmp_eqI, cmp_neI, cmp_eq, cmp_ne, cmpEq_n, eqD_if, own_ref, der_ref, id_b, own_lst, own_tup, own_non, own_bl, own_int, own_str, der_lst, der_tup, der_non, der_int, der_bl, der_str, isD_int, isD_bl, isD_non, isD_bstr, isD_tup, isD_lst, eqv_int, eqv_bl, eqv_non, eqv_str, eqv_lst, eqv_tup, eqvs_nil, eqvs_nc, eqvs_cn, eqvs_cc, eqvs_n, eqv_ni, eqv_in, bc_int, bc_abs, bc_max, bc_min, bc_divmod, bc_len, bc_lenF, bc_lenT, bc_list, bc_listT, bc_tuple, rep_bl, ix_lst, ix_tup, ix_frz, at_0, at_1, at_2, at_3, at_4, slc_lst, rev_lst, fldU, setFld, methOf, putF, isiU, isOne, tyName, thaw, isFr, Mi.tgsL, List.contains_cons, List.contains_nil, List.length_cons, List.length_nil, List.length_append, List.length_map, List.set_cons_zero, List.set_cons_succ, List.lookup_cons, List.lookup_nil, Option.map_some, Bool.not_true, Bool.not_false, Nat.reduceBEq, Nat.reduceEqDiff, Nat.reduceAdd, Nat.reduceLT, Int.reduceEq, Int.reduceNe, Int.reduceLT, Int.reduceLE, if_true, if_false, reduceIte, decide_true, decide_false, decide_eq_true_eq, Bool.false_eq_true, Bool.and_true, Bool.true_and, Bool.and_false, Bool.false_and, Bool.or_true, Bool.or_false, Bool.true_or, Bool.false_or, beq_self_eq_true, Nat.zero_add, List.nil_append, List.isEmpty_nil, List.isEmpty_cons, and_self, true_and, and_true, eq_self, bt_beq, reduceCtorEq, List.set_set, List.all_nil, List.all_cons, List.all_append, set_app, get_app_eq, cut_tl, List.length_set, len_ref_a, list_ref_a, seq_ref_a, lsf_ref_a, dic_ref_a, lst_ref_a, seq_lst, seq_tup, lsf_lst, ix_ref_a, slc_ref_a, rev_ref_a, app_ref_a, appX_l, setIx_ref_a, bin_addX, addU, lstU, List.getElem?_set_ne, List.getElem?_set_self, List.getElem?_append_left, get_app_len, set_app_len, cs0, mk0, S.ow])) es (fun e => .tup [.lst [.int e.1], .bl e.2]) (fun e => .lst [.int e.1]) rfl (by omega) (fun e me => ?_) ?_
      · simp -dsimp (maxSteps := 1000000) (disch := first | assumption | omega | (simp only [List.length_cons, List.length_nil, List.length_append, List.length_map, List.length_take, List.length_drop, List.length_set, List.length_range, List.length_reverse] <;> omega) | rfl | decide) only [OkS_cons, OkS_nil, OkS_nx, OkS_rt, OkS_bk, OkS_ct, OkS_toS, OkS_if, Ok_bind, Ok_bindN, Ok_nx, Ok_ok, Ok_ofS, S_expr, S_asg, S_ret, S_retN, S_pass, S_brk, S_cont, S_for, S_par, par2, par3, cst_int, cst_non, cst_bl, cst_str, ofW, ofWs, E_cst, E_glo, E_var, E_mut, E_bin, E_neg, E_not, E_cmp, E_fld, E_ix, E_rev, E_slc, E_lst, E_tup, E_dic0, E_call, E_make, E_meth, E_callv, E_bc, E_bm, bmX_l, bmX_d, kindU_ref, E_isi, E_rngL, E_sset, E_comp, evEs, T_cst, T_glo, T_var, T_bin, T_neg, T_fld, T_ix, T_rev, T_slc, T_lst, T_tup, T_call, T_make, T_meth, T_callv, T_bc, T_bm, T_isi, T_comp, T_not, T_and, T_or, T_ife, T_cmp, T_cmp2, isB_bl, E_and, E_or, E_ife, E_cmp2, evO, evC, evI, evG, evGs, wipeS, permU, calN_call, calN_cs, getS_0, getS_s, newL_c, newT_c, tru_bl, tru_int, tru_non, tru_lst, tru_tup, bin_add, bin_sub, bin_mulc, bin_fdivc, bin_mod, bin_addL, cmp_lt, cmp_le, cmp_gt, cmp_ge, cmp_isN, cmp_isnN, isNon_non, isNon_int, isNon_tup, isNon_lst, isNon_ref, isNon_bl, cmp_eqI, cmp_neI, cmp_eq, cmp_ne, cmpEq_n, eqD_if, own_ref, der_ref, id_b, own_lst, own_tup, own_non, own_bl, own_int, own_str, der_lst, der_tup, der_non, der_int, der_bl, der_str, isD_int, isD_bl, isD_non, isD_bstr, isD_tup, isD_lst, eqv_int, eqv_bl, eqv_non, eqv_str, eqv_lst, eqv_tup, eqvs_nil, eqvs_nc, eqvs_cn, eqvs_cc, eqvs_n, eqv_ni, eqv_in, bc_int, bc_abs, bc_max, bc_min, bc_divmod, bc_len, bc_lenF, bc_lenT, bc_list, bc_listT, bc_tuple, rep_bl, ix_lst, ix_tup, ix_frz, at_0, at_1, at_2, at_3, at_4, slc_lst, rev_lst, fldU, setFld, methOf, putF, isiU, isOne, tyName, thaw, isFr, Mi.tgsL, List.contains_cons, List.contains_nil, List.length_cons, List.length_nil, List.length_append, List.length_map, List.set_cons_zero, List.set_cons_succ, List.lookup_cons, List.lookup_nil, Option.map_some, Bool.not_true, Bool.not_false, Nat.reduceBEq, Nat.reduceEqDiff, Nat.reduceAdd, Nat.reduceLT, Int.reduceEq, Int.reduceNe, Int.reduceLT, Int.reduceLE, if_true, if_false, reduceIte, decide_true, decide_false, decide_eq_true_eq, Bool.false_eq_true, Bool.and_true, Bool.true_and, Bool.and_false, Bool.false_and, Bool.or_true, Bool.or_false, Bool.true_or, Bool.false_or, beq_self_eq_true, Nat.zero_add, List.nil_append, List.isEmpty_nil, List.isEmpty_cons, and_self, true_and, and_true, eq_self, bt_beq, reduceCtorEq, List.set_set, List.all_nil, List.all_cons, List.all_append, set_app, get_app_eq, cut_tl, List.length_set, len_ref_a, list_ref_a, seq_ref_a, lsf_ref_a, dic_ref_a, lst_ref_a, seq_lst, seq_tup, lsf_lst, ix_ref_a, slc_ref_a, rev_ref_a, app_ref_a, appX_l, setIx_ref_a, bin_addX, addU, lstU, List.getElem?_set_ne, List.getElem?_set_self, List.getElem?_append_left, get_app_len, set_app_len, cs0, mk0]
      · simp -dsimp (maxSteps := 1000000) (disch := first | assumption | omega | (simp only [List.length_cons, List.length_nil, List.length_append, List.length_map, List.length_take, List.length_drop, List.length_set, List.length_range, List.length_reverse] <;> omega) | rfl | decide) only [OkS_cons, OkS_nil, OkS_nx, OkS_rt, OkS_bk, OkS_ct, OkS_toS, OkS_if, Ok_bind, Ok_bindN, Ok_nx, Ok_ok, Ok_ofS, S_expr, S_asg, S_ret, S_retN, S_pass, S_brk, S_cont, S_for, S_par, par2, par3, cst_int, cst_non, cst_bl, cst_str, ofW, ofWs, E_cst, E_glo, E_var, E_mut, E_bin, E_neg, E_not, E_cmp, E_fld, E_ix, E_rev, E_slc, E_lst, E_tup, E_dic0, E_call, E_make, E_meth, E_callv, E_bc, E_bm, bmX_l, bmX_d, kindU_ref, E_isi, E_rngL, E_sset, E_comp, evEs, T_cst, T_glo, T_var, T_bin, T_neg, T_fld, T_ix, T_rev, T_slc, T_lst, T_tup, T_call, T_make, T_meth, T_callv, T_bc, T_bm, T_isi, T_comp, T_not, T_and, T_or, T_ife, T_cmp, T_cmp2, isB_bl, E_and, E_or, E_ife, E_cmp2, evO, evC, evI, evG, evGs, wipeS, permU, calN_call, calN_cs, getS_0, getS_s, newL_c, newT_c, tru_bl, tru_int, tru_non, tru_lst, tru_tup, bin_add, bin_sub, bin_mulc, bin_fdivc, bin_mod, bin_addL, cmp_lt, cmp_le, cmp_gt, cmp_ge, cmp_isN, cmp_isnN, isNon_non, isNon_int, isNon_tup, isNon_lst, isNon_ref, isNon_bl, cmp_eqI, cmp_neI, cmp_eq, cmp_ne, cmpEq_n, eqD_if, own_ref, der_ref, id_b, own_lst, own_tup, own_non, own_bl, own_int, own_str, der_lst, der_tup, der_non, der_int, der_bl, der_str, isD_int, isD_bl, isD_non, isD_bstr, isD_tup, isD_lst, eqv_int, eqv_bl, eqv_non, eqv_str, eqv_lst, eqv_tup, eqvs_nil, eqvs_nc, eqvs_cn, eqvs_cc, eqvs_n, eqv_ni, eqv_in, bc_int, bc_abs, bc_max, bc_min, bc_divmod, bc_len, bc_lenF, bc_lenT, bc_list, bc_listT, bc_tuple, rep_bl, ix_lst, ix_tup, ix_frz, at_0, at_1, at_2, at_3, at_4, slc_lst, rev_lst, fldU, setFld, methOf, putF, isiU, isOne, tyName, thaw, isFr, Mi.tgsL, List.contains_cons, List.contains_nil, List.length_cons, List.length_nil, List.length_append, List.length_map, List.set_cons_zero, List.set_cons_succ, List.lookup_cons, List.lookup_nil, Option.map_some, Bool.not_true, Bool.not_false, Nat.reduceBEq, Nat.reduceEqDiff, Nat.reduceAdd, Nat.reduceLT, Int.reduceEq, Int.reduceNe, Int.reduceLT, Int.reduceLE, if_true, if_false, reduceIte, decide_true, decide_false, decide_eq_true_eq, Bool.false_eq_true, Bool.and_true, Bool.true_and, Bool.and_false, Bool.false_and, Bool.or_true, Bool.or_false, Bool.true_or, Bool.false_or, beq_self_eq_true, Nat.zero_add, List.nil_append, List.isEmpty_nil, List.isEmpty_cons, and_self, true_and, and_true, eq_self, bt_beq, reduceCtorEq, List.set_set, List.all_nil, List.all_cons, List.all_append, set_app, get_app_eq, cut_tl, List.length_set, len_ref_a, list_ref_a, seq_ref_a, lsf_ref_a, dic_ref_a, lst_ref_a, seq_lst, seq_tup, lsf_lst, ix_ref_a, slc_ref_a, rev_ref_a, app_ref_a, appX_l, setIx_ref_a, bin_addX, addU, lstU, List.getElem?_set_ne, List.getElem?_set_self, List.getElem?_append_left, get_app_len, set_app_len, cs0, mk0, S.lf, S.en, e3, D1, eqvs_self D1]
theorem pot {ns : List Int} {Q : U → Hu → Prop} (q : ∀ a b, PotB b → Q (.ref 0) [.lst [.int a, .int b]]) : Ok (callN pr 0 (d + 1) 19 [.frz (ns.map .int), .int 0] []) Q := by
  rw [c19]; unfold b19
  have hp : L2.CPow 10 18 := by decide
  have hm : ∀ z w : Int, -(2 ^ 64) < w ∧ w < 2 ^ 64 → L2.CMul z w := fun z w h => .inr h
  have pb : ∀ z : Int, PotB (z % 2147483563 + 1) := fun z => by
    have a := Int.emod_nonneg z (b := 2147483563) (by decide)
    have b := Int.emod_lt_of_pos z (b := 2147483563) (by decide)
    exact ⟨by omega, by omega⟩
  have h0 : L2.CMul (971 : Int) 0 := hm _ _ (by decide)
  by_cases z : (0 : Int) < (ns.length : Int)
  · obtain ⟨x, e⟩ : ∃ x, (ns.map U.int)[(0 : Int).toNat]? = some (.int x) := by
      cases ns with
      | nil => simp at z
      | cons x ns => exact ⟨x, rfl⟩
    simp -dsimp (maxSteps := 1000000) (disch := first | assumption | omega | (simp only [List.length_cons, List.length_nil, List.length_append, List.length_map, List.length_take, List.length_drop, List.length_set, List.length_range, List.length_reverse] <;> omega) | rfl | decide) only [OkS_cons, OkS_nil, OkS_nx, OkS_rt, OkS_bk, OkS_ct, OkS_toS, OkS_if, Ok_bind, Ok_bindN, Ok_nx, Ok_ok, Ok_ofS, S_expr, S_asg, S_ret, S_retN, S_pass, S_brk, S_cont, S_for, S_par, par2, par3, cst_int, cst_non, cst_bl, cst_str, ofW, ofWs, E_cst, E_glo, E_var, E_mut, E_bin, E_neg, E_not, E_cmp, E_fld, E_ix, E_rev, E_slc, E_lst, E_tup, E_dic0, E_call, E_make, E_meth, E_callv, E_bc, E_bm, bmX_l, bmX_d, kindU_ref, E_isi, E_rngL, E_sset, E_comp, evEs, T_cst, T_glo, T_var, T_bin, T_neg, T_fld, T_ix, T_rev, T_slc, T_lst, T_tup, T_call, T_make, T_meth, T_callv, T_bc, T_bm, T_isi, T_comp, T_not, T_and, T_or, T_ife, T_cmp, T_cmp2, isB_bl, E_and, E_or, E_ife, E_cmp2, evO, evC, evI, evG, evGs, wipeS, permU, calN_call, calN_cs, getS_0, getS_s, newL_c, newT_c, tru_bl, tru_int, tru_non, tru_lst, tru_tup, bin_add, bin_sub, bin_mulc, bin_fdivc, bin_mod, bin_addL, cmp_lt, cmp_le, cmp_gt, cmp_ge, cmp_isN, cmp_isnN, isNon_non, isNon_int, isNon_tup, isNon_lst, isNon_ref, isNon_bl, cmp_eqI, cmp_neI, cmp_eq, cmp_ne, cmpEq_n, eqD_if, own_ref, der_ref, id_b, own_lst, own_tup, own_non, own_bl, own_int, own_str, der_lst, der_tup, der_non, der_int, der_bl, der_str, isD_int, isD_bl, isD_non, isD_bstr, isD_tup, isD_lst, eqv_int, eqv_bl, eqv_non, eqv_str, eqv_lst, eqv_tup, eqvs_nil, eqvs_nc, eqvs_cn, eqvs_cc, eqvs_n, eqv_ni, eqv_in, bc_int, bc_abs, bc_max, bc_min, bc_divmod, bc_len, bc_lenF, bc_lenT, bc_list, bc_listT, bc_tuple, rep_bl, ix_lst, ix_tup, ix_frz, at_0, at_1, at_2, at_3, at_4, slc_lst, rev_lst, fldU, setFld, methOf, putF, isiU, isOne, tyName, thaw, isFr, Mi.tgsL, List.contains_cons, List.contains_nil, List.length_cons, List.length_nil, List.length_append, List.length_map, List.set_cons_zero, List.set_cons_succ, List.lookup_cons, List.lookup_nil, Option.map_some, Bool.not_true, Bool.not_false, Nat.reduceBEq, Nat.reduceEqDiff, Nat.reduceAdd, Nat.reduceLT, Int.reduceEq, Int.reduceNe, Int.reduceLT, Int.reduceLE, if_true, if_false, reduceIte, decide_true, decide_false, decide_eq_true_eq, Bool.false_eq_true, Bool.and_true, Bool.true_and, Bool.and_false, Bool.false_and, Bool.or_true, Bool.or_false, Bool.true_or, Bool.false_or, beq_self_eq_true, Nat.zero_add, List.nil_append, List.isEmpty_nil, List.isEmpty_cons, and_self, true_and, and_true, eq_self, bt_beq, reduceCtorEq, List.set_set, List.all_nil, List.all_cons, List.all_append, set_app, get_app_eq, cut_tl, List.length_set, len_ref_a, list_ref_a, seq_ref_a, lsf_ref_a, dic_ref_a, lst_ref_a, seq_lst, seq_tup, lsf_lst, ix_ref_a, slc_ref_a, rev_ref_a, app_ref_a, appX_l, setIx_ref_a, bin_addX, addU, lstU, List.getElem?_set_ne, List.getElem?_set_self, List.getElem?_append_left, get_app_len, set_app_len, cs0, mk0, bin_pow hp, z, atI_of (show (0 : Int) ≤ 0 by omega) e]
    exact q _ _ (pb _)
  · simp -dsimp (maxSteps := 1000000) (disch := first | assumption | omega | (simp only [List.length_cons, List.length_nil, List.length_append, List.length_map, List.length_take, List.length_drop, List.length_set, List.length_range, List.length_reverse] <;> omega) | rfl | decide) only [OkS_cons, OkS_nil, OkS_nx, OkS_rt, OkS_bk, OkS_ct, OkS_toS, OkS_if, Ok_bind, Ok_bindN, Ok_nx, Ok_ok, Ok_ofS, S_expr, S_asg, S_ret, S_retN, S_pass, S_brk, S_cont, S_for, S_par, par2, par3, cst_int, cst_non, cst_bl, cst_str, ofW, ofWs, E_cst, E_glo, E_var, E_mut, E_bin, E_neg, E_not, E_cmp, E_fld, E_ix, E_rev, E_slc, E_lst, E_tup, E_dic0, E_call, E_make, E_meth, E_callv, E_bc, E_bm, bmX_l, bmX_d, kindU_ref, E_isi, E_rngL, E_sset, E_comp, evEs, T_cst, T_glo, T_var, T_bin, T_neg, T_fld, T_ix, T_rev, T_slc, T_lst, T_tup, T_call, T_make, T_meth, T_callv, T_bc, T_bm, T_isi, T_comp, T_not, T_and, T_or, T_ife, T_cmp, T_cmp2, isB_bl, E_and, E_or, E_ife, E_cmp2, evO, evC, evI, evG, evGs, wipeS, permU, calN_call, calN_cs, getS_0, getS_s, newL_c, newT_c, tru_bl, tru_int, tru_non, tru_lst, tru_tup, bin_add, bin_sub, bin_mulc, bin_fdivc, bin_mod, bin_addL, cmp_lt, cmp_le, cmp_gt, cmp_ge, cmp_isN, cmp_isnN, isNon_non, isNon_int, isNon_tup, isNon_lst, isNon_ref, isNon_bl, cmp_eqI, cmp_neI, cmp_eq, cmp_ne, cmpEq_n, eqD_if, own_ref, der_ref, id_b, own_lst, own_tup, own_non, own_bl, own_int, own_str, der_lst, der_tup, der_non, der_int, der_bl, der_str, isD_int, isD_bl, isD_non, isD_bstr, isD_tup, isD_lst, eqv_int, eqv_bl, eqv_non, eqv_str, eqv_lst, eqv_tup, eqvs_nil, eqvs_nc, eqvs_cn, eqvs_cc, eqvs_n, eqv_ni, eqv_in, bc_int, bc_abs, bc_max, bc_min, bc_divmod, bc_len, bc_lenF, bc_lenT, bc_list, bc_listT, bc_tuple, rep_bl, ix_lst, ix_tup, ix_frz, at_0, at_1, at_2, at_3, at_4, slc_lst, rev_lst, fldU, setFld, methOf, putF, isiU, isOne, tyName, thaw, isFr, Mi.tgsL, List.contains_cons, List.contains_nil, List.length_cons, List.length_nil, List.length_append, List.length_map, List.set_cons_zero, List.set_cons_succ, List.lookup_cons, List.lookup_nil, Option.map_some, Bool.not_true, Bool.not_false, Nat.reduceBEq, Nat.reduceEqDiff, Nat.reduceAdd, Nat.reduceLT, Int.reduceEq, Int.reduceNe, Int.reduceLT, Int.reduceLE, if_true, if_false, reduceIte, decide_true, decide_false, decide_eq_true_eq, Bool.false_eq_true, Bool.and_true, Bool.true_and, Bool.and_false, Bool.false_and, Bool.or_true, Bool.or_false, Bool.true_or, Bool.false_or, beq_self_eq_true, Nat.zero_add, List.nil_append, List.isEmpty_nil, List.isEmpty_cons, and_self, true_and, and_true, eq_self, bt_beq, reduceCtorEq, List.set_set, List.all_nil, List.all_cons, List.all_append, set_app, get_app_eq, cut_tl, List.length_set, len_ref_a, list_ref_a, seq_ref_a, lsf_ref_a, dic_ref_a, lst_ref_a, seq_lst, seq_tup, lsf_lst, ix_ref_a, slc_ref_a, rev_ref_a, app_ref_a, appX_l, setIx_ref_a, bin_addX, addU, lstU, List.getElem?_set_ne, List.getElem?_set_self, List.getElem?_append_left, get_app_len, set_app_len, cs0, mk0, bin_pow hp, z]
    exact q _ _ (pb _)
theorem law_ (ns : List Int) : ∃ h', callN pr 0 (d + 8) 25 [.frz (ns.map .int)] [] = .ok (.bl true) h' := by
  have : Ok (callN pr 0 (d + 8) 25 [.frz (ns.map .int)] []) fun r _ => r = .bl true := by
    rw [c25]; unfold b25
    simp -dsimp (maxSteps := 1000000) (disch := first | assumption | omega | (simp only [List.length_cons, List.length_nil, List.length_append, List.length_map, List.length_take, List.length_drop, List.length_set, List.length_range, List.length_reverse] <;> omega) | rfl | decide) only [OkS_cons, OkS_nil, OkS_nx, OkS_rt, OkS_bk, OkS_ct, OkS_toS, OkS_if, Ok_bind, Ok_bindN, Ok_nx, Ok_ok, Ok_ofS, S_expr, S_asg, S_ret, S_retN, S_pass, S_brk, S_cont, S_for, S_par, par2, par3, cst_int, cst_non, cst_bl, cst_str, ofW, ofWs, E_cst, E_glo, E_var, E_mut, E_bin, E_neg, E_not, E_cmp, E_fld, E_ix, E_rev, E_slc, E_lst, E_tup, E_dic0, E_call, E_make, E_meth, E_callv, E_bc, E_bm, bmX_l, bmX_d, kindU_ref, E_isi, E_rngL, E_sset, E_comp, evEs, T_cst, T_glo, T_var, T_bin, T_neg, T_fld, T_ix, T_rev, T_slc, T_lst, T_tup, T_call, T_make, T_meth, T_callv, T_bc, T_bm, T_isi, T_comp, T_not, T_and, T_or, T_ife, T_cmp, T_cmp2, isB_bl, E_and, E_or, E_ife, E_cmp2, evO, evC, evI, evG, evGs, wipeS, permU, calN_call, calN_cs, getS_0, getS_s, newL_c, newT_c, tru_bl, tru_int, tru_non, tru_lst, tru_tup, bin_add, bin_sub, bin_mulc, bin_fdivc, bin_mod, bin_addL, cmp_lt, cmp_le, cmp_gt, cmp_ge, cmp_isN, cmp_isnN, isNon_non, isNon_int, isNon_tup, isNon_lst, isNon_ref, isNon_bl, cmp_eqI, cmp_neI, cmp_eq, cmp_ne, cmpEq_n, eqD_if, own_ref, der_ref, id_b, own_lst, own_tup, own_non, own_bl, own_int, own_str, der_lst, der_tup, der_non, der_int, der_bl, der_str, isD_int, isD_bl, isD_non, isD_bstr, isD_tup, isD_lst, eqv_int, eqv_bl, eqv_non, eqv_str, eqv_lst, eqv_tup, eqvs_nil, eqvs_nc, eqvs_cn, eqvs_cc, eqvs_n, eqv_ni, eqv_in, bc_int, bc_abs, bc_max, bc_min, bc_divmod, bc_len, bc_lenF, bc_lenT, bc_list, bc_listT, bc_tuple, rep_bl, ix_lst, ix_tup, ix_frz, at_0, at_1, at_2, at_3, at_4, slc_lst, rev_lst, fldU, setFld, methOf, putF, isiU, isOne, tyName, thaw, isFr, Mi.tgsL, List.contains_cons, List.contains_nil, List.length_cons, List.length_nil, List.length_append, List.length_map, List.set_cons_zero, List.set_cons_succ, List.lookup_cons, List.lookup_nil, Option.map_some, Bool.not_true, Bool.not_false, Nat.reduceBEq, Nat.reduceEqDiff, Nat.reduceAdd, Nat.reduceLT, Int.reduceEq, Int.reduceNe, Int.reduceLT, Int.reduceLE, if_true, if_false, reduceIte, decide_true, decide_false, decide_eq_true_eq, Bool.false_eq_true, Bool.and_true, Bool.true_and, Bool.and_false, Bool.false_and, Bool.or_true, Bool.or_false, Bool.true_or, Bool.false_or, beq_self_eq_true, Nat.zero_add, List.nil_append, List.isEmpty_nil, List.isEmpty_cons, and_self, true_and, and_true, eq_self, bt_beq, reduceCtorEq, List.set_set, List.all_nil, List.all_cons, List.all_append, set_app, get_app_eq, cut_tl, List.length_set, len_ref_a, list_ref_a, seq_ref_a, lsf_ref_a, dic_ref_a, lst_ref_a, seq_lst, seq_tup, lsf_lst, ix_ref_a, slc_ref_a, rev_ref_a, app_ref_a, appX_l, setIx_ref_a, bin_addX, addU, lstU, List.getElem?_set_ne, List.getElem?_set_self, List.getElem?_append_left, get_app_len, set_app_len, cs0, mk0]
    refine pot fun a b hb => ?_
    simp -dsimp (maxSteps := 1000000) (disch := first | assumption | omega | (simp only [List.length_cons, List.length_nil, List.length_append, List.length_map, List.length_take, List.length_drop, List.length_set, List.length_range, List.length_reverse] <;> omega) | rfl | decide) only [OkS_cons, OkS_nil, OkS_nx, OkS_rt, OkS_bk, OkS_ct, OkS_toS, OkS_if, Ok_bind, Ok_bindN, Ok_nx, Ok_ok, Ok_ofS, S_expr, S_asg, S_ret, S_retN, S_pass, S_brk, S_cont, S_for, S_par, par2, par3, cst_int, cst_non, cst_bl, cst_str, ofW, ofWs, E_cst, E_glo, E_var, E_mut, E_bin, E_neg, E_not, E_cmp, E_fld, E_ix, E_rev, E_slc, E_lst, E_tup, E_dic0, E_call, E_make, E_meth, E_callv, E_bc, E_bm, bmX_l, bmX_d, kindU_ref, E_isi, E_rngL, E_sset, E_comp, evEs, T_cst, T_glo, T_var, T_bin, T_neg, T_fld, T_ix, T_rev, T_slc, T_lst, T_tup, T_call, T_make, T_meth, T_callv, T_bc, T_bm, T_isi, T_comp, T_not, T_and, T_or, T_ife, T_cmp, T_cmp2, isB_bl, E_and, E_or, E_ife, E_cmp2, evO, evC, evI, evG, evGs, wipeS, permU, calN_call, calN_cs, getS_0, getS_s, newL_c, newT_c, tru_bl, tru_int, tru_non, tru_lst, tru_tup, bin_add, bin_sub, bin_mulc, bin_fdivc, bin_mod, bin_addL, cmp_lt, cmp_le, cmp_gt, cmp_ge, cmp_isN, cmp_isnN, isNon_non, isNon_int, isNon_tup, isNon_lst, isNon_ref, isNon_bl, cmp_eqI, cmp_neI, cmp_eq, cmp_ne, cmpEq_n, eqD_if, own_ref, der_ref, id_b, own_lst, own_tup, own_non, own_bl, own_int, own_str, der_lst, der_tup, der_non, der_int, der_bl, der_str, isD_int, isD_bl, isD_non, isD_bstr, isD_tup, isD_lst, eqv_int, eqv_bl, eqv_non, eqv_str, eqv_lst, eqv_tup, eqvs_nil, eqvs_nc, eqvs_cn, eqvs_cc, eqvs_n, eqv_ni, eqv_in, bc_int, bc_abs, bc_max, bc_min, bc_divmod, bc_len, bc_lenF, bc_lenT, bc_list, bc_listT, bc_tuple, rep_bl, ix_lst, ix_tup, ix_frz, at_0, at_1, at_2, at_3, at_4, slc_lst, rev_lst, fldU, setFld, methOf, putF, isiU, isOne, tyName, thaw, isFr, Mi.tgsL, List.contains_cons, List.contains_nil, List.length_cons, List.length_nil, List.length_append, List.length_map, List.set_cons_zero, List.set_cons_succ, List.lookup_cons, List.lookup_nil, Option.map_some, Bool.not_true, Bool.not_false, Nat.reduceBEq, Nat.reduceEqDiff, Nat.reduceAdd, Nat.reduceLT, Int.reduceEq, Int.reduceNe, Int.reduceLT, Int.reduceLE, if_true, if_false, reduceIte, decide_true, decide_false, decide_eq_true_eq, Bool.false_eq_true, Bool.and_true, Bool.true_and, Bool.and_false, Bool.false_and, Bool.or_true, Bool.or_false, Bool.true_or, Bool.false_or, beq_self_eq_true, Nat.zero_add, List.nil_append, List.isEmpty_nil, List.isEmpty_cons, and_self, true_and, and_true, eq_self, bt_beq, reduceCtorEq, List.set_set, List.all_nil, List.all_cons, List.all_append, set_app, get_app_eq, cut_tl, List.length_set, len_ref_a, list_ref_a, seq_ref_a, lsf_ref_a, dic_ref_a, lst_ref_a, seq_lst, seq_tup, lsf_lst, ix_ref_a, slc_ref_a, rev_ref_a, app_ref_a, appX_l, setIx_ref_a, bin_addX, addU, lstU, List.getElem?_set_ne, List.getElem?_set_self, List.getElem?_append_left, get_app_len, set_app_len, cs0, mk0]
    refine (right hb).mono fun r h q => ?_
    exact q
  obtain ⟨r, h', e, rfl⟩ := this.out
  exact ⟨h', e⟩
theorem plain (ns : List Int) (hl : ns.length ≤ 63) : ∃ h', Mi.callN pr 0 8 25 [.ref 0] (Mi.h0 ns) = .ok (.bl true) h' := law_down (law_ (d := 0) ns)
end
end Lawk71

set_option Elab.async false
set_option linter.all false
set_option maxRecDepth 100000
set_option maxHeartbeats 0
namespace Lawk71
open PySem PySem.W PySem.Calls PyProof.Rows Mi

abbrev R : OpenRow := OpenLaw.row PySem.Challenge.rw_orderlycore_k71_whole_orders_by_an_own_l
abbrev qv : Program := view R.prog [25]
def top (i : Nat) : Stmt := PySem.Challenge.pw_orderlycore_k71_whole_orders_by_an_own_l.main.body.getD i (.Pass ⟨0, 0, 0, 0⟩)
def inC (i j : Nat) : Stmt := match top i with
  | .ClassDef _ _ _ b _ _ _ _ _ _ _ => b.getD j (.Pass ⟨0, 0, 0, 0⟩)
  | _ => .Pass ⟨0, 0, 0, 0⟩
abbrev d0 : Df := ⟨"is_integer", "is_integer", L2.defArgs (top 11), L2.defBody (top 11), L2.defScope (top 11), ((["value"] : List PySem.Str)), ((["value"] : List PySem.Str))⟩
abbrev d1 : Df := ⟨"is_count", "is_count", L2.defArgs (top 12), L2.defBody (top 12), L2.defScope (top 12), ((["value"] : List PySem.Str)), ((["value"] : List PySem.Str))⟩
abbrev d2 : Df := ⟨"want_many", "want_many", L2.defArgs (top 13), L2.defBody (top 13), L2.defScope (top 13), ((["value", "least", "most"] : List PySem.Str)), ((["value", "least", "most"] : List PySem.Str))⟩
abbrev d3 : Df := ⟨"want_number", "want_number", L2.defArgs (top 16), L2.defBody (top 16), L2.defScope (top 16), ((["value"] : List PySem.Str)), ((["value"] : List PySem.Str))⟩
abbrev d4 : Df := ⟨"__init__", "Orders.__init__", L2.defArgs (inC 17 0), L2.defBody (inC 17 0), L2.defScope (inC 17 0), ((["self", "many"] : List PySem.Str)), ((["self", "many"] : List PySem.Str))⟩
abbrev d5 : Df := ⟨"many", "Orders.many", L2.defArgs (inC 17 1), L2.defBody (inC 17 1), L2.defScope (inC 17 1), ((["self"] : List PySem.Str)), ((["self"] : List PySem.Str))⟩
abbrev d6 : Df := ⟨"held", "Orders.held", L2.defArgs (inC 17 2), L2.defBody (inC 17 2), L2.defScope (inC 17 2), ((["self"] : List PySem.Str)), ((["self"] : List PySem.Str))⟩
abbrev d7 : Df := ⟨"upcoming", "Orders.upcoming", L2.defArgs (inC 17 3), L2.defBody (inC 17 3), L2.defScope (inC 17 3), ((["self"] : List PySem.Str)), ((["self"] : List PySem.Str))⟩
abbrev d8 : Df := ⟨"numbers", "Orders.numbers", L2.defArgs (inC 17 4), L2.defBody (inC 17 4), L2.defScope (inC 17 4), ((["self"] : List PySem.Str)), ((["self"] : List PySem.Str))⟩
abbrev d9 : Df := ⟨"oldest", "Orders.oldest", L2.defArgs (inC 17 5), L2.defBody (inC 17 5), L2.defScope (inC 17 5), ((["self"] : List PySem.Str)), ((["self"] : List PySem.Str))⟩
abbrev d10 : Df := ⟨"position_of", "Orders.position_of", L2.defArgs (inC 17 6), L2.defBody (inC 17 6), L2.defScope (inC 17 6), ((["self", "number"] : List PySem.Str)), ((["self", "number"] : List PySem.Str))⟩
abbrev d11 : Df := ⟨"entered", "Orders.entered", L2.defArgs (inC 17 7), L2.defBody (inC 17 7), L2.defScope (inC 17 7), ((["self", "thing"] : List PySem.Str)), ((["self", "thing"] : List PySem.Str))⟩
abbrev d12 : Df := ⟨"thing", "Orders.thing", L2.defArgs (inC 17 8), L2.defBody (inC 17 8), L2.defScope (inC 17 8), ((["self", "number"] : List PySem.Str)), ((["self", "number"] : List PySem.Str))⟩
abbrev d13 : Df := ⟨"is_done", "Orders.is_done", L2.defArgs (inC 17 9), L2.defBody (inC 17 9), L2.defScope (inC 17 9), ((["self", "number"] : List PySem.Str)), ((["self", "number"] : List PySem.Str))⟩
abbrev d14 : Df := ⟨"done", "Orders.done", L2.defArgs (inC 17 10), L2.defBody (inC 17 10), L2.defScope (inC 17 10), ((["self", "number", "at"] : List PySem.Str)), ((["self", "number"] : List PySem.Str))⟩
abbrev d15 : Df := ⟨"left", "Orders.left", L2.defArgs (inC 17 11), L2.defBody (inC 17 11), L2.defScope (inC 17 11), ((["self", "found"] : List PySem.Str)), ((["self"] : List PySem.Str))⟩
abbrev d16 : Df := ⟨"dropped", "Orders.dropped", L2.defArgs (inC 17 12), L2.defBody (inC 17 12), L2.defScope (inC 17 12), ((["self", "number", "kept", "found", "at"] : List PySem.Str)), ((["self", "number"] : List PySem.Str))⟩
abbrev d17 : Df := ⟨"copy", "Orders.copy", L2.defArgs (inC 17 13), L2.defBody (inC 17 13), L2.defScope (inC 17 13), ((["self", "found"] : List PySem.Str)), ((["self"] : List PySem.Str))⟩
abbrev d18 : Df := ⟨"__eq__", "Orders.__eq__", L2.defArgs (inC 17 14), L2.defBody (inC 17 14), L2.defScope (inC 17 14), ((["self", "other"] : List PySem.Str)), ((["self", "other"] : List PySem.Str))⟩
abbrev d19 : Df := ⟨"_law_pot", "_law_pot", L2.defArgs (top 19), L2.defBody (top 19), L2.defScope (top 19), ((["_law_script", "_law_k", "_law_cell", "_law_mixed"] : List PySem.Str)), ((["_law_script", "_law_k"] : List PySem.Str))⟩
abbrev d20 : Df := ⟨"_law_draw", "_law_draw", L2.defArgs (top 20), L2.defBody (top 20), L2.defScope (top 20), ((["_law_pot_here", "_law_sides", "_law_digit"] : List PySem.Str)), ((["_law_pot_here", "_law_sides"] : List PySem.Str))⟩
abbrev d21 : Df := ⟨"_law_pick", "_law_pick", L2.defArgs (top 21), L2.defBody (top 21), L2.defScope (top 21), ((["_law_pot_here", "_law_some"] : List PySem.Str)), ((["_law_pot_here", "_law_some"] : List PySem.Str))⟩
abbrev d22 : Df := ⟨"_law_seen", "_law_seen", L2.defArgs (top 22), L2.defBody (top 22), L2.defScope (top 22), ((["_law_orders", "_law_own", "_law_first", "_law_many", "_law_at", "_law_thing", "_law_is_done"] : List PySem.Str)), ((["_law_orders", "_law_own", "_law_first", "_law_many"] : List PySem.Str))⟩
abbrev d23 : Df := ⟨"_law_drop", "_law_drop", L2.defArgs (top 23), L2.defBody (top 23), L2.defScope (top 23), ((["_law_orders", "_law_own", "_law_first", "_law_number", "_law_told", "_law_kept", "_law_due", "_law_at", "_law_thing", "_law_is_done"] : List PySem.Str)), ((["_law_orders", "_law_own", "_law_first", "_law_number"] : List PySem.Str))⟩
abbrev d24 : Df := ⟨"_law_right", "_law_right", L2.defArgs (top 24), L2.defBody (top 24), L2.defScope (top 24), ((["_law_pot_here", "_law_many", "_law_orders", "_law_own", "_law_first", "_law_made", "_law_entered", "_law_left", "_law_aside", "_law_turn", "_law_way", "_law_at", "_law_number", "_law_kept", "_law_thing"] : List PySem.Str) ++ (["_law_is_done"] : List PySem.Str)), ((["_law_pot_here"] : List PySem.Str))⟩
abbrev d25 : Df := ⟨"law", "law", L2.defArgs (top 25), L2.defBody (top 25), L2.defScope (top 25), ((["_law_script"] : List PySem.Str)), ((["_law_script"] : List PySem.Str))⟩
def ads : List Ad := [.glo "is_integer", .glo "is_count", .glo "want_many", .glo "want_number", .meth "Orders" "__init__", .prop "Orders" "many", .prop "Orders" "held", .prop "Orders" "upcoming", .meth "Orders" "numbers", .meth "Orders" "oldest", .meth "Orders" "position_of", .meth "Orders" "entered", .meth "Orders" "thing", .meth "Orders" "is_done", .meth "Orders" "done", .meth "Orders" "left", .meth "Orders" "dropped", .meth "Orders" "copy", .meth "Orders" "__eq__", .glo "_law_pot", .glo "_law_draw", .glo "_law_pick", .glo "_law_seen", .glo "_law_drop", .glo "_law_right", .glo "law"]
def tb : Tb := ⟨((["own_many", "own_first", "own_things", "own_done", "position_of", "many", "numbers", "upcoming", "held", "oldest", "thing", "is_done", "dropped", "entered", "done"] : List PySem.Str) ++ (["left", "copy"] : List PySem.Str)), [("is_integer", 0), ("is_count", 1), ("want_many", 2), ("want_number", 3), ("_law_pot", 19), ("_law_draw", 20), ("_law_pick", 21), ("_law_seen", 22), ("_law_drop", 23), ("_law_right", 24), ("law", 25)], [("Orders", 0)], [("MOST_ENTRIES", (.int 32))], ((["isinstance", "bool", "int", "len", "list", "range", "min", "max", "abs", "divmod", "enumerate", "repr"] : List PySem.Str)), [4, 6, 9, 10, 11, 12, 13, 14, 15, 16], [0]⟩
def ds : List Df := [d0, d1, d2, d3, d4, d5, d6, d7, d8, d9, d10, d11, d12, d13, d14, d15, d16, d17, d18, d19, d20, d21, d22, d23, d24, d25]
def lw : Lw := ⟨ads, ((["Orders"] : List PySem.Str)), pr, tb, ds⟩
theorem bd0 : BindOk d0 := fun _ _ _ _ _ _ us hl => match us, hl with | [_], _ => rfl
theorem bd1 : BindOk d1 := fun _ _ _ _ _ _ us hl => match us, hl with | [_], _ => rfl
theorem bd2 : BindOk d2 := fun _ _ _ _ _ _ us hl => match us, hl with | [_, _, _], _ => rfl
theorem bd3 : BindOk d3 := fun _ _ _ _ _ _ us hl => match us, hl with | [_], _ => rfl
theorem bd4 : BindOk d4 := fun _ _ _ _ _ _ us hl => match us, hl with | [_, _], _ => rfl
theorem bd5 : BindOk d5 := fun _ _ _ _ _ _ us hl => match us, hl with | [_], _ => rfl
theorem bd6 : BindOk d6 := fun _ _ _ _ _ _ us hl => match us, hl with | [_], _ => rfl
theorem bd7 : BindOk d7 := fun _ _ _ _ _ _ us hl => match us, hl with | [_], _ => rfl
theorem bd8 : BindOk d8 := fun _ _ _ _ _ _ us hl => match us, hl with | [_], _ => rfl
theorem bd9 : BindOk d9 := fun _ _ _ _ _ _ us hl => match us, hl with | [_], _ => rfl
theorem bd10 : BindOk d10 := fun _ _ _ _ _ _ us hl => match us, hl with | [_, _], _ => rfl
theorem bd11 : BindOk d11 := fun _ _ _ _ _ _ us hl => match us, hl with | [_, _], _ => rfl
theorem bd12 : BindOk d12 := fun _ _ _ _ _ _ us hl => match us, hl with | [_, _], _ => rfl
theorem bd13 : BindOk d13 := fun _ _ _ _ _ _ us hl => match us, hl with | [_, _], _ => rfl
theorem bd14 : BindOk d14 := fun _ _ _ _ _ _ us hl => match us, hl with | [_, _], _ => rfl
theorem bd15 : BindOk d15 := fun _ _ _ _ _ _ us hl => match us, hl with | [_], _ => rfl
theorem bd16 : BindOk d16 := fun _ _ _ _ _ _ us hl => match us, hl with | [_, _], _ => rfl
theorem bd17 : BindOk d17 := fun _ _ _ _ _ _ us hl => match us, hl with | [_], _ => rfl
theorem bd18 : BindOk d18 := fun _ _ _ _ _ _ us hl => match us, hl with | [_, _], _ => rfl
theorem bd19 : BindOk d19 := fun _ _ _ _ _ _ us hl => match us, hl with | [_, _], _ => rfl
theorem bd20 : BindOk d20 := fun _ _ _ _ _ _ us hl => match us, hl with | [_, _], _ => rfl
theorem bd21 : BindOk d21 := fun _ _ _ _ _ _ us hl => match us, hl with | [_, _], _ => rfl
theorem bd22 : BindOk d22 := fun _ _ _ _ _ _ us hl => match us, hl with | [_, _, _, _], _ => rfl
theorem bd23 : BindOk d23 := fun _ _ _ _ _ _ us hl => match us, hl with | [_, _, _, _], _ => rfl
theorem bd24 : BindOk d24 := fun _ _ _ _ _ _ us hl => match us, hl with | [_], _ => rfl
theorem bd25 : BindOk d25 := fun _ _ _ _ _ _ us hl => match us, hl with | [_], _ => rfl
theorem bds : AllB lw.ds := .cons bd0 (.cons bd1 (.cons bd2 (.cons bd3 (.cons bd4 (.cons bd5 (.cons bd6 (.cons bd7 (.cons bd8 (.cons bd9 (.cons bd10 (.cons bd11 (.cons bd12 (.cons bd13 (.cons bd14 (.cons bd15 (.cons bd16 (.cons bd17 (.cons bd18 (.cons bd19 (.cons bd20 (.cons bd21 (.cons bd22 (.cons bd23 (.cons bd24 (.cons bd25 (.nil))))))))))))))))))))))))))
theorem ck : ckL lw = true := by decide +kernel
def names0 : List PySem.Str := ["CoreError", "MissingError", "StateError", "InvalidMany", "InvalidNumber", "NoNumber", "NoRoom", "NotDone", "NotOpen", "is_integer", "is_count", "want_many", "MOST_ENTRIES", "want_number", "Orders", "_law_pot", "_law_draw", "_law_pick", "_law_seen", "_law_drop"]
def names1 : List PySem.Str := ["_law_right"]
def names : List PySem.Str := names0 ++ names1
theorem run (w : World) : HandSHeadRun.RunEq R qv (hookM 6 lw) (obT 6 lw) 20000 names w := by
  intro os
  kernel_rfl
end Lawk71

set_option Elab.async false
set_option linter.all false
set_option maxRecDepth 100000
set_option maxHeartbeats 0
open PySem PySem.W PySem.Calls PyProof.Rows
theorem PySem.Challenge.cw_orderlycore_k71_whole_orders_by_an_own_l_holds : PySem.Challenge.rw_orderlycore_k71_whole_orders_by_an_own_l.Holds := by
  w_on; o_law
  refine HandSHeadRun.head_any (r := OpenLaw.row PySem.Challenge.rw_orderlycore_k71_whole_orders_by_an_own_l) (q := view (OpenLaw.row PySem.Challenge.rw_orderlycore_k71_whole_orders_by_an_own_l).prog [25]) (H := Mi.hookM 6 Lawk71.lw) (ob := Mi.obT 6 Lawk71.lw) (M := 20000) (loose := Lawk71.names)
    (d := HandSHeadRun.topDef (OpenLaw.row PySem.Challenge.rw_orderlycore_k71_whole_orders_by_an_own_l).prog 25) (kwd := []) (Mi.obT_eq 6 Lawk71.lw)
    (by kernel_rfl) (fun s => by kernel_rfl) Lawk71.run (by kernel_rfl) (by kernel_rfl) (by kernel_rfl) (by rfl) (by first | assumption | decide +kernel) (by decide +kernel) ⟨rfl, rfl, rfl, rfl, rfl, by decide +kernel⟩ ?hw ?hc
  case hw => w_witness2
  case hc =>
    refine L2.walk_ofE (l := PySem.Challenge.rw_orderlycore_k71_whole_orders_by_an_own_l) (n := 63) (k := 2 * 7 + 1 + 1) (x := "_law_script") (CX := Mi.CX0) rfl (by decide) (by kernel_rfl) ⟨rfl, by decide, by decide⟩ ?F (fun _ _ _ _ z => z)
    intro w mg fa h Y G hmg0
    obtain ⟨K, KX, c⟩ := Y
    have hmg : mg ("law" : PySem.Str) = some (.ref fa) := by
      have e : (HandSHeadRun.topDef (OpenLaw.row PySem.Challenge.rw_orderlycore_k71_whole_orders_by_an_own_l).prog 25).name = ("law" : PySem.Str) := by kernel_rfl
      rw [← e]
      exact hmg0
    exact Mi.law_facts (lw := Lawk71.lw) (d := 7) (k := 25) (wf := 0) (x := "_law_script") Lawk71.ck Lawk71.bds rfl rfl rfl rfl Lawk71.plain (by decide +kernel) KX G c hmg
