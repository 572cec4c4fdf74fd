import PyProof.Rows.All
import PySem.Str
import PySem.PyData
import PyProof.P3Statements
import PyProof.ReprReads
import PyProof.EqLayable
import HandS.ForMost
import HandS.Exc
import HandS.Flow
import HandS.Style
import HandS.TupAny
import HandS.TupMul
import HandS.IsInst
import HandS.Conv
import HandS.Strs
import HandS.Zip
import HandS.Deep
import HandS.Wide
import HandS.Defaults
import PyProof.Rows.SortShellAny
import PyProof.TupleOfSeq
import KE.GoesEnum
import KE.GoesZip
import KE.KDictZip
import HandS.HeadEnd
import HandS.Ends
import HandS.HeadHook2
import HandS.Head2
import Wide.All
import OpenK.AllK
import Wide.FinOn
import HandS.WideBits
import PySem.Challenge.RW_openverbs_k56_whole_plans_right_by_words
section
set_option Elab.async false
set_option linter.all false
set_option maxRecDepth 100000
/-! Ev: a small evaluator of my own for the part of Python that the laws of openverbs use. Values, outcomes, the small language, the evaluator. -/
noncomputable section
namespace Ev
open PySem

abbrev Ky := Sum Int Str

/-- values: orc is the state from which the law draws; scr n the script, of n numbers; rpr d is the text repr of the data d; fn j the def number j -/
inductive W where
  | non | bl (b : Bool) | int (i : Int) | str (x : Str) | rpr (d : PyData)
  | tup (xs : List W) | lst (xs : List W) | dct (kvs : List (Ky × W))
  | fn (j : Nat) | orc | scr (n : Nat)

/-- outcomes: a value, an exception (its class by number, its fields), stuck (nothing is said), a drawn number below l -/
inductive T (α : Type) where
  | ok (a : α) | exc (c : Nat) (fs : List W) | stk | draw (l : Nat) (k : Nat → T α)

namespace T
variable {α β : Type}
def bind (t : T α) (f : α → T β) : T β := @T.rec α (fun _ => T β) f (fun c fs => .exc c fs) .stk (fun l _ ih => .draw l ih) t
/-- what is wanted of every way -/
def wp : T α → (α → Prop) → (Nat → List W → Prop) → Prop
  | .ok a, Q, _ => Q a
  | .exc c fs, _, E => E c fs
  | .stk, _, _ => False
  | .draw l k, Q, E => ∀ d, d < l → (k d).wp Q E
theorem wp_bind {f : α → T β} {Q : β → Prop} {E : Nat → List W → Prop} : ∀ {t : T α}, (t.bind f).wp Q E ↔ t.wp (fun a => (f a).wp Q E) E
  | .ok _ => Iff.rfl
  | .exc _ _ => Iff.rfl
  | .stk => Iff.rfl
  | .draw l k => by
    show (∀ d, d < l → ((k d).bind f).wp Q E) ↔ (∀ d, d < l → (k d).wp (fun a => (f a).wp Q E) E)
    exact ⟨fun h d hd => wp_bind.mp (h d hd), fun h d hd => wp_bind.mpr (h d hd)⟩
theorem wp_mono {Q Q' : α → Prop} {E E' : Nat → List W → Prop} (hQ : ∀ a, Q a → Q' a) (hE : ∀ c fs, E c fs → E' c fs) : ∀ {t : T α}, t.wp Q E → t.wp Q' E'
  | .ok a, h => hQ a h
  | .exc c fs, h => hE c fs h
  | .stk, h => h
  | .draw l k, h => fun d hd => wp_mono hQ hE (h d hd)
/-- .. with at most b numbers drawn -/
def wb : T α → Nat → (α → Nat → Prop) → Prop
  | .ok a, b, Q => Q a b
  | .exc _ _, _, _ => False
  | .stk, _, _ => False
  | .draw l k, b, Q => match b with
    | 0 => False
    | b + 1 => ∀ d, d < l → (k d).wb b Q
theorem wb_bind {f : α → T β} {Q : β → Nat → Prop} : ∀ {t : T α} {b : Nat}, (t.bind f).wb b Q ↔ t.wb b (fun a b' => (f a).wb b' Q)
  | .ok _, _ => Iff.rfl
  | .exc _ _, _ => Iff.rfl
  | .stk, _ => Iff.rfl
  | .draw l k, 0 => Iff.rfl
  | .draw l k, b + 1 => by
    show (∀ d, d < l → ((k d).bind f).wb b Q) ↔ (∀ d, d < l → (k d).wb b (fun a b' => (f a).wb b' Q))
    exact ⟨fun h d hd => wb_bind.mp (h d hd), fun h d hd => wb_bind.mpr (h d hd)⟩
theorem wb_mono {Q Q' : α → Nat → Prop} (hQ : ∀ a b, Q a b → Q' a b) : ∀ {t : T α} {b : Nat}, t.wb b Q → t.wb b Q'
  | .ok a, b, h => hQ a b h
  | .exc _ _, _, h => h
  | .stk, _, h => h
  | .draw l k, 0, h => h
  | .draw l k, b + 1, h => fun d hd => wb_mono hQ (h d hd)
def ofOpt : Option α → T α
  | some a => .ok a
  | none => .stk
def guard (b : Bool) (t : T α) : T α := cond b t .stk
theorem wb_guard {c : Bool} {t : T α} {b : Nat} {Q : α → Nat → Prop} (h : (guard c t).wb b Q) : c = true ∧ t.wb b Q := by
  cases c with
  | true => exact ⟨rfl, h⟩
  | false => exact h.elim
theorem wb_opt {o : Option α} {b : Nat} {Q : α → Nat → Prop} (h : (ofOpt o).wb b Q) : ∃ a, o = some a ∧ Q a b := by
  cases o with
  | some a => exact ⟨a, rfl, h⟩
  | none => exact h.elim
theorem bind_ok (a : α) (f : α → T β) : (T.ok a).bind f = f a := rfl
end T

/-! ### rows by number -/
def nth {α : Type} (xs : List α) : Nat → Option α := @List.rec α (fun _ => Nat → Option α) (fun _ => none) (fun x _ ih i => @Nat.casesOn (fun _ => Option α) i (some x) ih) xs
def sett {α : Type} (xs : List α) : Nat → α → List α := @List.rec α (fun _ => Nat → α → List α) (fun _ _ => []) (fun x r ih i y => @Nat.casesOn (fun _ => List α) i (y :: r) (fun j => x :: ih j y)) xs
theorem nth_eq {α : Type} : ∀ (xs : List α) (i : Nat), nth xs i = xs[i]?
  | [], _ => by rw [List.getElem?_nil]; rfl
  | _ :: _, 0 => rfl
  | _ :: r, i + 1 => by
    rw [List.getElem?_cons_succ]
    exact nth_eq r i
theorem sett_eq {α : Type} : ∀ (xs : List α) (i : Nat) (y : α), sett xs i y = xs.set i y
  | [], _, _ => rfl
  | _ :: _, 0, _ => rfl
  | x :: r, i + 1, y => by
    rw [List.set_cons_succ]
    exact congrArg (x :: ·) (sett_eq r i y)
/-! ### texts -/
def eqNs : List Nat → List Nat → Bool
  | [], [] => true
  | a :: r, b :: q => Nat.beq a b && eqNs r q
  | _, _ => false
theorem eqNs_iff : ∀ {a b : List Nat}, eqNs a b = true ↔ a = b
  | [], [] => by simp [eqNs]
  | [], _ :: _ => by simp [eqNs]
  | _ :: _, [] => by simp [eqNs]
  | a :: r, b :: q => by
    unfold eqNs
    rw [Bool.and_eq_true, eqNs_iff (a := r) (b := q), Nat.beq_eq]
    constructor
    · rintro ⟨h1, h2⟩
      rw [h1, h2]
    · intro h
      cases h
      exact ⟨rfl, rfl⟩
def eqS (x y : Str) : Bool := eqNs x.cps.toList y.cps.toList
theorem eqS_iff {x y : Str} : eqS x y = true ↔ x = y := by
  unfold eqS
  rw [eqNs_iff]
  constructor
  · intro h
    cases x; cases y
    have : _ = _ := Array.toList_inj.mp h
    exact congrArg Str.mk this
  · intro h; rw [h]
theorem eqS_dec (x y : Str) : eqS x y = decide (x = y) := by
  cases h : eqS x y with
  | true => exact (decide_eq_true (eqS_iff.mp h)).symm
  | false => exact (decide_eq_false fun e => by rw [eqS_iff.mpr e] at h; cases h).symm
theorem eqS_self (x : Str) : eqS x x = true := eqS_iff.mpr rfl
def eqI (i j : Int) : Bool := match i, j with
  | .ofNat a, .ofNat b => Nat.beq a b
  | .negSucc a, .negSucc b => Nat.beq a b
  | _, _ => false
theorem eqI_dec (i j : Int) : eqI i j = decide (i = j) := by
  cases i with
  | ofNat a =>
    cases j with
    | ofNat b =>
      show Nat.beq a b = _
      by_cases h : a = b
      · subst h; simp
      · have h' : ¬ (Int.ofNat a = Int.ofNat b) := fun e => h (Int.ofNat.inj e)
        rw [decide_eq_false h']
        cases e : Nat.beq a b with
        | false => rfl
        | true => exact absurd (Nat.eq_of_beq_eq_true e) h
    | negSucc b => exact (decide_eq_false fun e => nomatch e).symm
  | negSucc a =>
    cases j with
    | ofNat b => exact (decide_eq_false fun e => nomatch e).symm
    | negSucc b =>
      show Nat.beq a b = _
      by_cases h : a = b
      · subst h; simp
      · have h' : ¬ (Int.negSucc a = Int.negSucc b) := fun e => h (Int.negSucc.inj e)
        rw [decide_eq_false h']
        cases e : Nat.beq a b with
        | false => rfl
        | true => exact absurd (Nat.eq_of_beq_eq_true e) h
def eqK : Ky → Ky → Bool
  | .inl i, .inl j => eqI i j
  | .inr x, .inr y => eqS x y
  | _, _ => false
theorem eqK_dec (k x : Ky) : eqK k x = decide (k = x) := by
  cases k with
  | inl i =>
    cases x with
    | inl j =>
      show eqI i j = _
      rw [eqI_dec]
      by_cases h : i = j
      · subst h; simp
      · rw [decide_eq_false h, decide_eq_false fun e => h (Sum.inl.inj e)]
    | inr y => exact (decide_eq_false fun e => nomatch e).symm
  | inr z =>
    cases x with
    | inl j => exact (decide_eq_false fun e => nomatch e).symm
    | inr y =>
      show eqS z y = _
      rw [eqS_dec]
      by_cases h : z = y
      · subst h; simp
      · rw [decide_eq_false h, decide_eq_false fun e => h (Sum.inr.inj e)]

/-! ### data -/
mutual
def toD : W → Option PyData
  | .non => some .none
  | .bl b => some (.bool b)
  | .int i => some (.int i)
  | .str x => some (.str x)
  | .tup xs => (toDs xs).map .tuple
  | .lst xs => (toDs xs).map .list
  | .rpr _ => none
  | .dct _ => none
  | .fn _ => none
  | .orc => none
  | .scr _ => none
def toDs : List W → Option (List PyData)
  | [] => some []
  | x :: xs => match toD x, toDs xs with
    | some d, some ds => some (d :: ds)
    | _, _ => none
end
mutual
/-- two data are the same (structure alone) -/
def sameD : PyData → PyData → Bool
  | .none, .none => true
  | .bool a, .bool b => a == b
  | .int i, .int j => eqI i j
  | .str x, .str y => eqS x y
  | .list xs, .list ys => sameDs xs ys
  | .tuple xs, .tuple ys => sameDs xs ys
  | _, _ => false
def sameDs : List PyData → List PyData → Bool
  | [], [] => true
  | x :: xs, y :: ys => sameD x y && sameDs xs ys
  | _, _ => false
end
mutual
theorem sameD_eq : ∀ {d e : PyData}, sameD d e = true → d = e
  | .none, .none, _ => rfl
  | .bool a, .bool b, h => by
    have : (a == b) = true := h
    rw [eq_of_beq this]
  | .int i, .int j, h => by
    have h : eqI i j = true := h
    rw [eqI_dec] at h
    rw [of_decide_eq_true h]
  | .str x, .str y, h => by
    have h : eqS x y = true := h
    rw [eqS_iff.mp h]
  | .list xs, .list ys, h => by
    have h : sameDs xs ys = true := h
    rw [sameDs_eq h]
  | .tuple xs, .tuple ys, h => by
    have h : sameDs xs ys = true := h
    rw [sameDs_eq h]
  | .none, .bool _, h | .none, .int _, h | .none, .str _, h | .none, .list _, h | .none, .tuple _, h | .none, .dict _, h => by cases h
  | .bool _, .none, h | .bool _, .int _, h | .bool _, .str _, h | .bool _, .list _, h | .bool _, .tuple _, h | .bool _, .dict _, h => by cases h
  | .int _, .none, h | .int _, .bool _, h | .int _, .str _, h | .int _, .list _, h | .int _, .tuple _, h | .int _, .dict _, h => by cases h
  | .str _, .none, h | .str _, .bool _, h | .str _, .int _, h | .str _, .list _, h | .str _, .tuple _, h | .str _, .dict _, h => by cases h
  | .list _, .none, h | .list _, .bool _, h | .list _, .int _, h | .list _, .str _, h | .list _, .tuple _, h | .list _, .dict _, h => by cases h
  | .tuple _, .none, h | .tuple _, .bool _, h | .tuple _, .int _, h | .tuple _, .str _, h | .tuple _, .list _, h | .tuple _, .dict _, h => by cases h
  | .dict _, _, h => by cases h
theorem sameDs_eq : ∀ {d e : List PyData}, sameDs d e = true → d = e
  | [], [], _ => rfl
  | x :: xs, y :: ys, h => by
    have h : (sameD x y && sameDs xs ys) = true := h
    rw [Bool.and_eq_true] at h
    rw [sameD_eq h.1, sameDs_eq h.2]
  | [], _ :: _, h => by cases h
  | _ :: _, [], h => by cases h
end
mutual
theorem sameD_self : ∀ (d : PyData), d.hasDict = false → sameD d d = true
  | .none, _ => rfl
  | .bool a, _ => by show (a == a) = true; exact beq_self_eq_true a
  | .int i, _ => by show eqI i i = true; rw [eqI_dec]; exact decide_eq_true rfl
  | .str x, _ => eqS_self x
  | .list xs, h => sameDs_self xs h
  | .tuple xs, h => sameDs_self xs h
  | .dict _, h => by cases h
theorem sameDs_self : ∀ (d : List PyData), PyData.hasDictAll d = false → sameDs d d = true
  | [], _ => rfl
  | x :: xs, h => by
    have h : (x.hasDict || PyData.hasDictAll xs) = false := h
    rw [Bool.or_eq_false_iff] at h
    show (sameD x x && sameDs xs xs) = true
    rw [sameD_self x h.1, sameDs_self xs h.2]
    rfl
end
mutual
/-- more than the length of the text repr -/
def roomD : PyData → Nat
  | .none => 4
  | .bool _ => 5
  | .int i => i.natAbs.log2 + 3
  | .str x => (reprText x).length
  | .list xs => roomDs xs + 3
  | .tuple xs => roomDs xs + 3
  | .dict _ => 0
def roomDs : List PyData → Nat
  | [] => 0
  | x :: xs => roomD x + 2 + roomDs xs
end
def reprOk (d : PyData) : Bool := d.showable && (decide (roomD d ≤ sizeLine) && !d.hasDict && decide (d.depth ≤ 64))

/-! ### the small language -/
inductive Op2 where
  | add | sub | mul | fdiv | mod | pow | bor | band | eq | ne | lt | le | gt | ge | is | isnot | isin | notin
  deriving DecidableEq
/-- built-in functions of values -/
inductive Bi where
  | len | int | repr | tuple | list | sum | sorted | dict | min2 | max2 | abs
  | isInt | isBool | isStr | isTuple | isList | isDict
  deriving DecidableEq
/-- methods that change nothing -/
inductive Mt where
  | index | get2
  deriving DecidableEq
inductive Tg where
  | nm (i : Nat) | tp (ts : List Tg)
mutual
inductive Ex where
  | bad | var (i : Nat) | con (w : W) | glo (k : Nat)
  | tup (es : Exs) | lst (es : Exs) | dnew
  | op (o : Op2) (a b : Ex) | chain (o p : Op2) (a b c : Ex) | neg (a : Ex) | not (a : Ex) | and (es : Exs) | or (es : Exs)
  | ite (c a b : Ex) | idx (a i : Ex) | sli (a : Ex) (lo hi : Option Ex)
  | call (j : Nat) (es : Exs) | bi (b : Bi) (es : Exs) | mth (m : Mt) (a : Ex) (es : Exs) | draw (m l : Ex)
  | conv (tp : Bool) (it : It)
  | lc (own : List Nat) (e : Ex) (g : Tg) (it : It) (ifs : Exs)
inductive Exs where
  | nil | cons (e : Ex) (es : Exs)
inductive It where
  | seq (e : Ex) | txt (e : Ex) | rng1 (a : Ex) | rng2 (a b : Ex) | rng3 (a b c : Ex) | enum (e : Ex) | zip (a b : Ex) | enumZip (a b : Ex)
end
mutual
inductive Sm where
  | exp (e : Ex) | par (gs : List Nat) (t : Nat) (es : Exs) | asg (g : Tg) (e : Ex) | put (i : Nat) (k v : Ex) | app (i : Nat) (e : Ex) | ret (e : Ex) | retv (i : Nat) | retN
  | ite (c : Ex) (a b : Sms) | for_ (g : Tg) (it : It) (b : Sms) | pass | brk | cont | never
inductive Sms where
  | nil | cons (s : Sm) (r : Sms)
end

/-! ### operations by values -/
abbrev R := W × Bool
def fz (w : W) : T R := .ok (w, false)
def ixOf (n : Nat) (i : Int) : Option Nat := if 0 ≤ i then (if i < n then some i.toNat else none) else if -(n : Int) ≤ i then some (i + n).toNat else none
def cutIx (n d : Nat) : Option Int → Nat
  | none => d
  | some v => if v < 0 then (v + (n : Int)).toNat else min v.toNat n
def cut (xs : List W) (lo hi : Option Int) : List W := (xs.drop (cutIx xs.length 0 lo)).take (cutIx xs.length xs.length hi - cutIx xs.length 0 lo)
def small64 (i : Int) : Bool := decide (-(2 ^ 64) < i) && decide (i < 2 ^ 64)
def eqG (a b : W) : T Bool := match toD a with
  | some d => (match toD b with
    | some e => T.guard (SeqAt.shaped d && SeqAt.shaped e) (.ok (PyData.eqv d e))
    | none => .stk)
  | none => .stk
def eqW (a b : W) : T Bool := match a with
  | .int i => (match b with
    | .int j => .ok (eqI i j)
    | _ => eqG a b)
  | .str x => (match b with
    | .str y => .ok (eqS x y)
    | _ => eqG a b)
  | .rpr d => (match b with
    | .rpr e => .ok (sameD d e || eqS d.shown e.shown)
    | _ => .stk)
  | _ => eqG a b
def flatW : W → Bool
  | .non => true
  | .bl _ => true
  | .int _ => true
  | .str _ => true
  | _ => false
def eqF : W → W → Bool
  | .non, .non => true
  | .bl a, .bl b => a == b
  | .bl a, .int b => (if a then 1 else 0) == b
  | .int a, .bl b => a == (if b then 1 else 0)
  | .int a, .int b => eqI a b
  | .str a, .str b => eqS a b
  | _, _ => false
def hasW (x : W) (xs : List W) : Bool := xs.any fun y => eqF y x
def lookK : List (Ky × W) → Ky → Option W
  | [], _ => none
  | (k, v) :: r, x => cond (eqK k x) (some v) (lookK r x)
def hasK : List (Ky × W) → Ky → Bool
  | [], _ => false
  | (k, _) :: r, x => cond (eqK k x) true (hasK r x)
def mapK : List (Ky × W) → Ky → W → List (Ky × W)
  | [], _, _ => []
  | (k, v) :: r, x, w => (k, cond (eqK k x) w v) :: mapK r x w
/-- in its place, or at the end -/
def putK (kvs : List (Ky × W)) (x : Ky) (w : W) : List (Ky × W) := cond (hasK kvs x) (mapK kvs x w) (kvs ++ [(x, w)])
def keyOf : W → Option Ky
  | .int i => some (.inl i)
  | .str x => some (.inr x)
  | _ => none
def inW (x : W) : W → T Bool
  | .tup xs => T.guard (flatW x && xs.all flatW) (.ok (hasW x xs))
  | .lst xs => T.guard (flatW x && xs.all flatW) (.ok (hasW x xs))
  | .dct kvs => match keyOf x with
    | some k => .ok (lookK kvs k).isSome
    | none => .stk
  | _ => .stk
def addW (x y : W) : T R := match x with
  | .int i => (match y with
    | .int j => fz (.int (i + j))
    | _ => .stk)
  | .str x => (match y with
    | .str y => T.guard (Nat.ble (x.length + y.length) sizeLine) (fz (.str (x ++ y)))
    | _ => .stk)
  | .tup xs => (match y with
    | .tup ys => T.guard (Nat.ble (xs.length + ys.length) sizeLine) (fz (.tup (xs ++ ys)))
    | _ => .stk)
  | .lst xs => (match y with
    | .lst ys => T.guard (Nat.ble (xs.length + ys.length) sizeLine) (.ok (.lst (xs ++ ys), true))
    | _ => .stk)
  | _ => .stk
/-- two ints -/
def two (x y : W) (f : Int → Int → T R) : T R := match x with
  | .int i => (match y with
    | .int j => f i j
    | _ => .stk)
  | _ => .stk
def mulW (x y : W) : T R := match x with
  | .int i => (match y with
    | .int j => T.guard (small64 i || small64 j) (fz (.int (i * j)))
    | _ => .stk)
  | .lst xs => (match y with
    | .int k => T.guard (decide (-(2 ^ 63) ≤ k) && decide (k < 2 ^ 63) && Nat.ble (xs.length * k.toNat) sizeLine) (.ok (.lst (List.replicate k.toNat xs).flatten, true))
    | _ => .stk)
  | .tup xs => (match y with
    | .int k => T.guard (!xs.isEmpty && decide (2 ≤ k) && decide (k ≤ 1000) && Nat.ble xs.length 1000) (fz (.tup (List.replicate k.toNat xs).flatten))
    | _ => .stk)
  | _ => .stk
def isNon : W → Bool
  | .non => true
  | _ => false
def isW (x y : W) : T Bool := match y with
  | .non => .ok (isNon x)
  | .bl b => (match x with
    | .bl a => .ok (decide (a = b))
    | _ => .stk)
  | _ => .stk
def subW (x y : W) : T R := two x y fun i j => fz (.int (i - j))
def fdivW (x y : W) : T R := two x y fun i j => T.guard (decide (0 < j) && decide (j < 1073741824)) (fz (.int (i / j)))
def modW (x y : W) : T R := two x y fun i j => T.guard (decide (0 < j)) (fz (.int (i % j)))
def powW (x y : W) : T R := two x y fun i j => T.guard (decide (0 ≤ j) && decide (j ≤ 1000000) && decide (i.natAbs < 2 ^ 64)) (fz (.int (i ^ j.toNat)))
def borW (x y : W) : T R := two x y fun i j => fz (.int (Builtin.bitOr i j))
def bandW (x y : W) : T R := two x y fun i j => fz (.int (Builtin.bitAnd i j))
def yes (t : T Bool) : T R := t.bind fun c => fz (.bl c)
def nay (t : T Bool) : T R := t.bind fun c => fz (.bl (!c))
def eqR (x y : W) : T R := yes (eqW x y)
def neR (x y : W) : T R := nay (eqW x y)
def ltW (x y : W) : T R := two x y fun i j => fz (.bl (decide (i < j)))
def leW (x y : W) : T R := two x y fun i j => fz (.bl (decide (i ≤ j)))
def gtW (x y : W) : T R := two x y fun i j => fz (.bl (decide (j < i)))
def geW (x y : W) : T R := two x y fun i j => fz (.bl (decide (j ≤ i)))
def isR (x y : W) : T R := yes (isW x y)
def isnotR (x y : W) : T R := nay (isW x y)
def inR (x y : W) : T R := yes (inW x y)
def notinR (x y : W) : T R := nay (inW x y)
def op2 (o : Op2) : W → W → T R := match o with
  | .add => addW
  | .sub => subW
  | .mul => mulW
  | .fdiv => fdivW
  | .mod => modW
  | .pow => powW
  | .bor => borW
  | .band => bandW
  | .eq => eqR
  | .ne => neR
  | .lt => ltW
  | .le => leW
  | .gt => gtW
  | .ge => geW
  | .is => isR
  | .isnot => isnotR
  | .isin => inR
  | .notin => notinR
def seqAt (xs : List W) (i : Int) : T W := match ixOf xs.length i with
  | some j => T.ofOpt (nth xs j)
  | none => .stk
def idxW (x y : W) : T W := match x with
  | .tup xs => (match y with
    | .int i => seqAt xs i
    | _ => .stk)
  | .lst xs => (match y with
    | .int i => seqAt xs i
    | _ => .stk)
  | .dct kvs => (match keyOf y with
    | some k => T.ofOpt (lookK kvs k)
    | none => .stk)
  | _ => .stk
def sliW : W → Option Int → Option Int → T R
  | .tup xs, lo, hi => fz (.tup (cut xs lo hi))
  | .lst xs, lo, hi => .ok (.lst (cut xs lo hi), true)
  | _, _, _ => .stk
def intsOf : List W → Option (List Int)
  | [] => some []
  | .int i :: r => (intsOf r).map (i :: ·)
  | _ :: _ => none
def insI (x : Int) : List Int → List Int
  | [] => [x]
  | y :: r => if x ≤ y then x :: y :: r else y :: insI x r
def sortI : List Int → List Int
  | [] => []
  | x :: r => insI x (sortI r)
def keysI : List (Ky × W) → Option (List Int)
  | [] => some []
  | (.inl i, _) :: r => (keysI r).map (i :: ·)
  | _ :: _ => none
def pairsOf : List W → Option (List (Ky × W))
  | [] => some []
  | .tup [k, v] :: r => match keyOf k, pairsOf r with
    | some k, some ps => some ((k, v) :: ps)
    | _, _ => none
  | _ :: _ => none
def isInst (t : Bi) : W → T Bool
  | .non => .ok false
  | .bl _ => .ok (match t with | .isInt => true | .isBool => true | _ => false)
  | .int _ => .ok (match t with | .isInt => true | _ => false)
  | .str _ => .ok (match t with | .isStr => true | _ => false)
  | .tup _ => .ok (match t with | .isTuple => true | _ => false)
  | .lst _ => .ok (match t with | .isList => true | _ => false)
  | _ => .stk
def rngL (lo : Int) : Nat → List W
  | 0 => []
  | n + 1 => .int lo :: rngL (lo + 1) n
def sortW (o : Option (List Int)) : T R := match o with
  | some is => T.guard (Nat.ble is.length sizeLine) (.ok (.lst ((sortI is).map .int), true))
  | none => .stk
def lenW (x : W) : T R := match x with
  | .tup xs => fz (.int xs.length)
  | .lst xs => fz (.int xs.length)
  | .dct kvs => fz (.int kvs.length)
  | .scr n => fz (.int n)
  | _ => .stk
def intW (x : W) : T R := match x with
  | .int i => fz (.int i)
  | _ => .stk
def reprW (x : W) : T R := match toD x with
  | some d => T.guard (reprOk d) (fz (.rpr d))
  | none => .stk
def tupleW (x : W) : T R := match x with
  | .lst xs => fz (.tup xs)
  | .tup xs => fz (.tup xs)
  | _ => .stk
def listW (x : W) : T R := match x with
  | .lst xs => .ok (.lst xs, true)
  | .tup xs => .ok (.lst xs, true)
  | _ => .stk
def sumW (x : W) : T R := match x with
  | .lst xs => (match intsOf xs with
    | some is => fz (.int is.sum)
    | none => .stk)
  | _ => .stk
def sortedW (x : W) : T R := match x with
  | .lst xs => sortW (intsOf xs)
  | .tup xs => sortW (intsOf xs)
  | .dct kvs => sortW (keysI kvs)
  | _ => .stk
def dictW (x : W) : T R := match x with
  | .lst xs => (match pairsOf xs with
    | some ps => .ok (.dct (ps.foldl (fun d p => putK d p.1 p.2) []), true)
    | none => .stk)
  | _ => .stk
def absW (x : W) : T R := match x with
  | .int i => fz (.int (if i < 0 then -i else i))
  | _ => .stk
def stk1 (_ : W) : T R := .stk
def stk2 (_ _ : W) : T R := .stk
def isI1 (x : W) : T R := yes (isInst .isInt x)
def isB1 (x : W) : T R := yes (isInst .isBool x)
def isS1 (x : W) : T R := yes (isInst .isStr x)
def isT1 (x : W) : T R := yes (isInst .isTuple x)
def isL1 (x : W) : T R := yes (isInst .isList x)
def isD1 (x : W) : T R := yes (isInst .isDict x)
/-- of one thing -/
def bi1 (b : Bi) : W → T R := match b with
  | .len => lenW
  | .int => intW
  | .repr => reprW
  | .tuple => tupleW
  | .list => listW
  | .sum => sumW
  | .sorted => sortedW
  | .dict => dictW
  | .abs => absW
  | .min2 => stk1
  | .max2 => stk1
  | .isInt => isI1
  | .isBool => isB1
  | .isStr => isS1
  | .isTuple => isT1
  | .isList => isL1
  | .isDict => isD1
def minW (x y : W) : T R := two x y fun i j => fz (.int (if j < i then j else i))
def maxW (x y : W) : T R := two x y fun i j => fz (.int (if j > i then j else i))
/-- of two -/
def bi2 (b : Bi) : W → W → T R := match b with
  | .min2 => minW
  | .max2 => maxW
  | _ => stk2
def biW (b : Bi) (ws : List W) : T R := match ws with
  | [] => .stk
  | x :: r => (match r with
    | [] => bi1 b x
    | y :: r => (match r with
      | [] => bi2 b x y
      | _ :: _ => .stk))
def findF (x : W) : Nat → List W → Option Nat
  | _, [] => none
  | k, y :: r => if eqF y x then some k else findF x (k + 1) r
def findW (x : W) (xs : List W) : T W := T.guard (flatW x && xs.all flatW) (match findF x 0 xs with
  | some k => .ok (.int k)
  | none => .stk)
def strsOf : List W → Option (List Str)
  | [] => some []
  | x :: r => match x with
    | .str z => (strsOf r).map (z :: ·)
    | _ => none
def findS (x : Str) : Nat → List Str → Option Nat
  | _, [] => none
  | k, y :: r => cond (eqS y x) (some k) (findS x (k + 1) r)
def indexT (x y : W) : T W := match x with
  | .tup xs => (match y with
    | .str z => (match strsOf xs with
      | some ys => (match findS z 0 ys with
        | some k => .ok (.int k)
        | none => .stk)
      | none => .stk)
    | _ => .stk)
  | .lst xs => findW y xs
  | _ => .stk
def mtW (m : Mt) (x : W) (ws : List W) : T W := match m with
  | .index => (match ws with
    | [y] => indexT x y
    | _ => .stk)
  | .get2 => .stk

/-! ### slots -/
abbrev Sl := List (Option R)
def rd (sl : Sl) (i : Nat) : T R := @Option.rec (Option R) (fun _ => T R) .stk (fun o => @Option.rec R (fun _ => T R) .stk (fun r => .ok r) o) (nth sl i)
/-- an operand: a value, or the owned thing in a slot -/
inductive Hd where
  | val (w : W) | slot (i : Nat)
def Hd.get (sl : Sl) : Hd → T W
  | .val w => .ok w
  | .slot i => (rd sl i).bind fun r => .ok r.1
mutual
def setG : Tg → W → Bool → Sl → T Sl
  | .nm i, w, fr, sl => .ok (sett sl i (some (w, fr)))
  | .tp ts, .tup ws, _, sl => setGs ts ws sl
  | .tp ts, .lst ws, _, sl => .stk
  | .tp _, _, _, _ => .stk
def setGs : List Tg → List W → Sl → T Sl
  | [], [], sl => .ok sl
  | t :: ts, w :: ws, sl => (setG t w false sl).bind fun sl => setGs ts ws sl
  | _, _, _ => .stk
end
def wipeS (sl : Sl) : List Nat → Sl
  | [] => sl
  | v :: vs => sett (wipeS sl vs) v none

/-- how a def is called: its number, the arguments, each with whether it is handed over to be changed; behind it what became of these -/
abbrev Cl := Nat → List R → T (R × List W)

def boolOf : W → T Bool
  | .bl b => .ok b
  | _ => .stk

def lcGo (turn : W → Sl → T (Option W × Sl)) : List W → List W → Sl → T (List W × Sl)
  | [], acc, sl => .ok (acc.reverse, sl)
  | x :: xs, acc, sl => (turn x sl).bind fun p => match p.1 with
    | some w => T.guard (Nat.blt acc.length sizeLine) (lcGo turn xs (w :: acc) p.2)
    | none => lcGo turn xs acc p.2

def enumL : Nat → List W → List W
  | _, [] => []
  | k, x :: xs => .tup [.int k, x] :: enumL (k + 1) xs
def zipL : List W → List W → List W
  | x :: xs, y :: ys => .tup [x, y] :: zipL xs ys
  | _, _ => []
def seqOf : W → T (List W)
  | .tup xs => .ok xs
  | .lst xs => .ok xs
  | _ => .stk
def fits62 (i : Int) : Bool := decide (-(2 ^ 62) ≤ i) && decide (i < 2 ^ 62)
def dnL (lo : Int) : Nat → List W
  | 0 => []
  | n + 1 => .int lo :: dnL (lo - 1) n

def getAll : List Hd → Sl → T (List W)
  | [], _ => .ok []
  | h :: r, sl => (h.get sl).bind fun w => (getAll r sl).bind fun ws => .ok (w :: ws)
def putBack : List Nat → List W → Sl → T Sl
  | [], [], sl => .ok sl
  | i :: is, w :: ws, sl => putBack is ws (sett sl i (some (w, true)))
  | _, _, _ => .stk
/-! ### what each form does, by what its parts do -/
abbrev Se := Sl → T (R × Sl)
abbrev Sx := Option Nat × Se
/-- an operand that is looked at and not kept: an owned thing stays owned -/
def hd (x : Sx) (sl : Sl) : T (Hd × Sl) := match x.1 with
  | some i => (rd sl i).bind fun r => .ok (cond r.2 (.slot i) (.val r.1), sl)
  | none => (x.2 sl).bind fun p => .ok (.val p.1.1, p.2)
def kVar (i : Nat) : Se := fun sl => (rd sl i).bind fun r => .ok ((r.1, false), sett sl i (some (r.1, false)))
def kCon (w : W) : Se := fun sl => .ok ((w, false), sl)
def lA : List Sx → Sl → T (List W × Sl)
  | [], sl => .ok ([], sl)
  | x :: xs, sl => (x.2 sl).bind fun p => (lA xs p.2).bind fun q => .ok (p.1.1 :: q.1, q.2)
def lH : List Sx → Sl → T (List Hd × Sl)
  | [], sl => .ok ([], sl)
  | x :: xs, sl => (hd x sl).bind fun p => (lH xs p.2).bind fun q => .ok (p.1 :: q.1, q.2)
def lAnd : List Sx → Sl → T (Bool × Sl)
  | [], sl => .ok (true, sl)
  | x :: xs, sl => (x.2 sl).bind fun p => (boolOf p.1.1).bind fun b => cond b (lAnd xs p.2) (.ok (false, p.2))
def lOr : List Sx → Sl → T (Bool × Sl)
  | [], sl => .ok (false, sl)
  | x :: xs, sl => (x.2 sl).bind fun p => (boolOf p.1.1).bind fun b => cond b (.ok (true, p.2)) (lOr xs p.2)
def own (sl : Sl) (i : Nat) : T W := (rd sl i).bind fun r => T.guard r.2 (.ok r.1)
/-- arguments of a def: those handed over must be owned things in slots -/
def lArgs : List Bool → List Sx → Sl → T (List (Nat ⊕ W) × Sl)
  | _, [], sl => .ok ([], sl)
  | bs, x :: xs, sl => cond (bs.headD false)
    (match x.1 with
      | some i => (own sl i).bind fun _ => (lArgs bs.tail xs sl).bind fun q => .ok (.inl i :: q.1, q.2)
      | none => .stk)
    ((x.2 sl).bind fun p => (lArgs bs.tail xs p.2).bind fun q => .ok (.inr p.1.1 :: q.1, q.2))
/-- they leave their slots -/
def ioTake : List (Nat ⊕ W) → Sl → T ((List R × List Nat) × Sl)
  | [], sl => .ok (([], []), sl)
  | y :: r, sl => match y with
    | .inr w => (ioTake r sl).bind fun q => .ok (((w, false) :: q.1.1, q.1.2), q.2)
    | .inl i => (own sl i).bind fun w => (ioTake r (sett sl i none)).bind fun q => .ok (((w, true) :: q.1.1, i :: q.1.2), q.2)
def kTup (es : List Sx) : Se := fun sl => (lA es sl).bind fun p => T.guard (Nat.ble p.1.length sizeLine) (.ok ((.tup p.1, false), p.2))
def kLst (es : List Sx) : Se := fun sl => (lA es sl).bind fun p => T.guard (Nat.ble p.1.length sizeLine) (.ok ((.lst p.1, true), p.2))
def kOp (o : Op2) (a b : Sx) : Se := fun sl => (hd a sl).bind fun p => (hd b p.2).bind fun q => (p.1.get q.2).bind fun x => (q.1.get q.2).bind fun y => (op2 o x y).bind fun r => .ok (r, q.2)
def kChain (o o' : Op2) (a b c : Sx) : Se := fun sl => (hd a sl).bind fun p => (hd b p.2).bind fun q => (p.1.get q.2).bind fun x => (q.1.get q.2).bind fun y => (op2 o x y).bind fun r =>
  (boolOf r.1).bind fun t => cond (!t) (.ok ((.bl false, false), q.2)) ((hd c q.2).bind fun u => (q.1.get u.2).bind fun y => (u.1.get u.2).bind fun z => (op2 o' y z).bind fun r => .ok (r, u.2))
def kNeg (a : Se) : Se := fun sl => (a sl).bind fun p => (match p.1.1 with
  | .int i => .ok ((.int (-i), false), p.2)
  | _ => .stk)
def kNot (a : Se) : Se := fun sl => (a sl).bind fun p => (boolOf p.1.1).bind fun b => .ok ((.bl (!b), false), p.2)
def kAnd (es : List Sx) : Se := fun sl => (lAnd es sl).bind fun p => .ok ((.bl p.1, false), p.2)
def kOr (es : List Sx) : Se := fun sl => (lOr es sl).bind fun p => .ok ((.bl p.1, false), p.2)
def kIte (c a b : Se) : Se := fun sl => (c sl).bind fun p => (boolOf p.1.1).bind fun t => cond t (a p.2) (b p.2)
def kIdx (a i : Sx) : Se := fun sl => (hd a sl).bind fun p => (hd i p.2).bind fun q => (p.1.get q.2).bind fun x => (q.1.get q.2).bind fun y => (idxW x y).bind fun w => .ok ((w, false), q.2)
def oInt (e : Option Se) (sl : Sl) : T (Option Int × Sl) := match e with
  | none => .ok (none, sl)
  | some e => (e sl).bind fun p => (match p.1.1 with
    | .int i => T.guard (fits62 i) (.ok (some i, p.2))
    | _ => .stk)
def kSli (a : Sx) (lo hi : Option Se) : Se := fun sl => (hd a sl).bind fun p => (oInt lo p.2).bind fun q => (oInt hi q.2).bind fun r => (p.1.get r.2).bind fun x => (sliW x q.1 r.1).bind fun w => .ok (w, r.2)
def kCall (cl : Cl) (io : Nat → List Bool) (j : Nat) (es : List Sx) : Se := fun sl => (lArgs (io j) es sl).bind fun p => (ioTake p.1 p.2).bind fun t => (cl j t.1.1).bind fun r => (putBack t.1.2 r.2 t.2).bind fun sl => .ok (r.1, sl)
def kBi (b : Bi) (es : List Sx) : Se := fun sl => (lH es sl).bind fun p => (getAll p.1 p.2).bind fun ws => (biW b ws).bind fun r => .ok (r, p.2)
def recvB (g : Bool) : W → Bool
  | .lst _ => true
  | .tup _ => g
  | _ => false
/-- a method; a tuple only where it is a constant of the module (g) -/
def kMth (m : Mt) (g : Bool) (a : Sx) (es : List Sx) : Se := fun sl => (hd a sl).bind fun p => (p.1.get p.2).bind fun x0 => T.guard (recvB g x0) ((lH es p.2).bind fun q => (p.1.get q.2).bind fun x => (getAll q.1 q.2).bind fun ws => T.guard (recvB g x) ((mtW m x ws).bind fun w => .ok ((w, false), q.2)))
def isG : Ex → Bool
  | .glo _ => true
  | _ => false
def kDraw (m l : Se) : Se := fun sl => (m sl).bind fun p => (l p.2).bind fun q => (match p.1.1 with
  | .orc => (match q.1.1 with
    | .int n => T.guard (decide (0 < n) && decide (n < 1073741824)) (.draw n.toNat fun d => .ok ((.int d, false), q.2))
    | _ => .stk)
  | _ => .stk)
abbrev Si := Sl → T (List W × Sl)
def kConv (tp : Bool) (it : Si) : Se := fun sl => (it sl).bind fun p => T.guard (Nat.ble p.1.length sizeLine) (cond tp (.ok ((.tup p.1, false), p.2)) (.ok ((.lst p.1, true), p.2)))
def kLcT (own : List Nat) (e : Se) (g : Tg) (ifs : List Sx) (x : W) (s : Sl) : T (Option W × Sl) := (setG g x false s).bind fun s => (lAnd ifs s).bind fun q => cond q.1 ((e q.2).bind fun r => .ok (some r.1.1, wipeS r.2 own)) (.ok (none, wipeS q.2 own))
def kLc (own : List Nat) (e : Se) (g : Tg) (it : Si) (ifs : List Sx) : Se := fun sl => (it sl).bind fun p => (lcGo (kLcT own e g ifs) p.1 [] (wipeS p.2 own)).bind fun r => .ok ((.lst r.1, true), r.2)
def iSeq (e : Se) : Si := fun sl => (e sl).bind fun p => (seqOf p.1.1).bind fun xs => .ok (xs, p.2)
def iTxt (e : Se) : Si := fun sl => (e sl).bind fun p => (match p.1.1 with
  | .str x => T.guard (Nat.ble x.length sizeLine) (.ok (x.cps.toList.map fun c => .str ⟨#[c]⟩, p.2))
  | _ => .stk)
def iR1 (a : Se) : Si := fun sl => (a sl).bind fun p => (match p.1.1 with
  | .int j => T.guard (fits62 j) (.ok (rngL 0 j.toNat, p.2))
  | _ => .stk)
def int2 (x y : W) (f : Int → Int → T (List W × Sl)) : T (List W × Sl) := match x with
  | .int i => (match y with
    | .int j => f i j
    | _ => .stk)
  | _ => .stk
def iR2 (a b : Se) : Si := fun sl => (a sl).bind fun p => (b p.2).bind fun q => int2 p.1.1 q.1.1 fun i j => T.guard (fits62 i && fits62 j) (.ok (rngL i (j - i).toNat, q.2))
def iR3 (a b c : Se) : Si := fun sl => (a sl).bind fun p => (b p.2).bind fun q => (c q.2).bind fun r => int2 p.1.1 q.1.1 fun i j => (match r.1.1 with
  | .int k => T.guard (fits62 i && fits62 j && eqI k (-1)) (.ok (dnL i (i - j).toNat, r.2))
  | _ => .stk)
def enOf : W → T (List W)
  | .lst xs => .ok xs
  | .tup xs => .ok xs
  | _ => .stk
def zipOf (x y : W) : T (List W) := match x with
  | .lst xs => (match y with
    | .lst ys => .ok (zipL xs ys)
    | _ => .stk)
  | .tup xs => (match y with
    | .tup ys => .ok (zipL xs ys)
    | _ => .stk)
  | _ => .stk
def iEnum (e : Se) : Si := fun sl => (e sl).bind fun p => (enOf p.1.1).bind fun xs => .ok (enumL 0 xs, p.2)
def iZip (a b : Se) : Si := fun sl => (a sl).bind fun p => (b p.2).bind fun q => (zipOf p.1.1 q.1.1).bind fun xs => .ok (xs, q.2)
def zipTT (x y : W) : T (List W) := match x with
  | .tup xs => (match y with
    | .tup ys => .ok (zipL xs ys)
    | _ => .stk)
  | _ => .stk
def iEnumZip (a b : Se) : Si := fun sl => (a sl).bind fun p => (b p.2).bind fun q => (zipTT p.1.1 q.1.1).bind fun xs => .ok (enumL 0 xs, q.2)
def isV : Ex → Option Nat
  | .var i => some i
  | _ => none
def kBad : Se := fun _ => .stk
section
variable (cl : Cl) (io : Nat → List Bool) (cn : Nat → W)
mutual
def evE : Ex → Se
  | .bad => kBad
  | .var i => kVar i
  | .con w => kCon w
  | .glo k => kCon (cn k)
  | .tup es => kTup (evL es)
  | .lst es => kLst (evL es)
  | .dnew => fun sl => .ok ((.dct [], true), sl)
  | .op o a b => kOp o (isV a, evE a) (isV b, evE b)
  | .chain o o' a b c => kChain o o' (isV a, evE a) (isV b, evE b) (isV c, evE c)
  | .neg a => kNeg (evE a)
  | .not a => kNot (evE a)
  | .and es => kAnd (evL es)
  | .or es => kOr (evL es)
  | .ite c a b => kIte (evE c) (evE a) (evE b)
  | .idx a i => kIdx (isV a, evE a) (isV i, evE i)
  | .sli a lo hi => kSli (isV a, evE a) (evO lo) (evO hi)
  | .call j es => kCall cl io j (evL es)
  | .bi b es => kBi b (evL es)
  | .mth m a es => kMth m (isG a) (isV a, evE a) (evL es)
  | .draw m l => kDraw (evE m) (evE l)
  | .conv tp it => kConv tp (evI it)
  | .lc own e g it ifs => kLc own (evE e) g (evI it) (evL ifs)
def evL : Exs → List Sx
  | .nil => []
  | .cons e es => (isV e, evE e) :: evL es
def evO : Option Ex → Option Se
  | none => none
  | some e => some (evE e)
def evI : It → Si
  | .seq e => iSeq (evE e)
  | .txt e => iTxt (evE e)
  | .rng1 a => iR1 (evE a)
  | .rng2 a b => iR2 (evE a) (evE b)
  | .rng3 a b c => iR3 (evE a) (evE b) (evE c)
  | .enum e => iEnum (evE e)
  | .zip a b => iZip (evE a) (evE b)
  | .enumZip a b => iEnumZip (evE a) (evE b)
end
end
/-! ### statements -/
inductive Fl where
  | nx (sl : Sl) | ret (r : R) (sl : Sl) | brk (sl : Sl) | cont (sl : Sl)
def forGo (turn : W → Sl → T Fl) : List W → Sl → T Fl
  | [], sl => .ok (.nx sl)
  | x :: xs, sl => (turn x sl).bind fun f => match f with
    | .nx sl => forGo turn xs sl
    | .cont sl => forGo turn xs sl
    | .brk sl => .ok (.nx sl)
    | .ret r sl => .ok (.ret r sl)
def putW : W → W → W → T W
  | .lst xs, .int k, v => match ixOf xs.length k with
    | some j => .ok (.lst (sett xs j v))
    | none => .stk
  | .dct kvs, k, v => match keyOf k with
    | some k => T.guard (Nat.blt kvs.length sizeLine) (.ok (.dct (putK kvs k v)))
    | none => .stk
  | _, _, _ => .stk
def appW : W → W → T W
  | .lst xs, v => T.guard (Nat.blt xs.length sizeLine) (.ok (.lst (xs ++ [v])))
  | _, _ => .stk
/-- slots t, t + 1, .. moved to those of gs -/
def moveS : List Nat → Nat → Sl → T Sl
  | [], _, sl => .ok sl
  | g :: gs, t, sl => (rd sl t).bind fun r => moveS gs (t + 1) (sett (sett sl t none) g (some r))
abbrev Sf := Sl → T Fl
def sExp (e : Se) : Sf := fun sl => (e sl).bind fun p => .ok (.nx p.2)
def sAsg (g : Tg) (e : Se) : Sf := fun sl => (e sl).bind fun p => (setG g p.1.1 p.1.2 p.2).bind fun sl => .ok (.nx sl)
/-- values, laid into the slots t, t + 1, .. -/
def lPar : List Sx → Nat → Sl → T Sl
  | [], _, sl => .ok sl
  | x :: xs, t, sl => (x.2 sl).bind fun p => lPar xs (t + 1) (sett p.2 t (some p.1))
def sPar (gs : List Nat) (t : Nat) (es : List Sx) : Sf := fun sl => (lPar es t sl).bind fun sl => (moveS gs t sl).bind fun sl => .ok (.nx sl)
def sPut (i : Nat) (k v : Se) : Sf := fun sl => (v sl).bind fun p => (own p.2 i).bind fun _ => (k p.2).bind fun q => (own q.2 i).bind fun x => (putW x q.1.1 p.1.1).bind fun y => .ok (.nx (sett q.2 i (some (y, true))))
def isLst : W → Bool
  | .lst _ => true
  | _ => false
def sApp (i : Nat) (e : Se) : Sf := fun sl => (own sl i).bind fun x0 => T.guard (isLst x0) <| (e sl).bind fun p => (own p.2 i).bind fun x => (appW x p.1.1).bind fun y => .ok (.nx (sett p.2 i (some (y, true))))
def sRet (e : Se) : Sf := fun sl => (e sl).bind fun p => .ok (.ret p.1 p.2)
def sRetv (i : Nat) : Sf := fun sl => (rd sl i).bind fun r => .ok (.ret r (sett sl i none))
def sIte (c : Se) (a b : Sf) : Sf := fun sl => (c sl).bind fun p => (boolOf p.1.1).bind fun t => cond t (a p.2) (b p.2)
def sTurn (g : Tg) (b : Sf) (x : W) (s : Sl) : T Fl := (setG g x false s).bind fun s => b s
def sFor (g : Tg) (it : Si) (b : Sf) : Sf := fun sl => (it sl).bind fun p => forGo (sTurn g b) p.1 p.2
def sSeq (a b : Sf) : Sf := fun sl => (a sl).bind fun f => (match f with
  | .nx sl => b sl
  | .ret r sl => .ok (.ret r sl)
  | .brk sl => .ok (.brk sl)
  | .cont sl => .ok (.cont sl))
section
variable (cl : Cl) (io : Nat → List Bool) (cn : Nat → W)
mutual
def exS : Sm → Sf
  | .exp e => sExp (evE cl io cn e)
  | .asg g e => sAsg g (evE cl io cn e)
  | .par gs t es => sPar gs t (evL cl io cn es)
  | .put i k v => sPut i (evE cl io cn k) (evE cl io cn v)
  | .app i e => sApp i (evE cl io cn e)
  | .ret e => sRet (evE cl io cn e)
  | .retv i => sRetv i
  | .retN => fun sl => .ok (.ret (.non, false) sl)
  | .ite c a b => sIte (evE cl io cn c) (exSs a) (exSs b)
  | .for_ g it b => sFor g (evI cl io cn it) (exSs b)
  | .pass => fun sl => .ok (.nx sl)
  | .brk => fun sl => .ok (.brk sl)
  | .cont => fun sl => .ok (.cont sl)
  | .never => fun _ => .stk
def exSs : Sms → Sf
  | .nil => fun sl => .ok (.nx sl)
  | .cons s r => sSeq (exS s) (exSs r)
end
end
/-! ### defs -/
structure Fn where
  np : Nat
  ns : Nat
  io : List Bool
  body : Sms
inductive Fk where
  | code (f : Fn) | begun
def outs : List Bool → Sl → T (List W)
  | [], _ => .ok []
  | true :: bs, some (w, true) :: sl => (outs bs sl).bind fun ws => .ok (w :: ws)
  | false :: bs, _ :: sl => outs bs sl
  | _, _ => .stk
def ioOf (fns : List Fk) (j : Nat) : List Bool := match nth fns j with
  | some (.code f) => f.io
  | _ => []
def fin (io : List Bool) : Fl → T (R × List W)
  | .ret r sl => (outs io sl).bind fun ws => .ok (r, ws)
  | .nx sl => (outs io sl).bind fun ws => .ok ((.non, false), ws)
  | _ => .stk
/-- things handed over just where the def changes them -/
def flB : List Bool → List R → Bool
  | [], [] => true
  | b :: bs, r :: rs => (b == r.2) && flB bs rs
  | _, _ => false
def callN (fns : List Fk) (cn : Nat → W) : Nat → Cl
  | 0, _, _ => .stk
  | n + 1, j, args => match nth fns j with
    | some (.code f) => T.guard (flB f.io args && Nat.beq args.length f.np) ((exSs (callN fns cn n) (ioOf fns) cn f.body (args.map some ++ List.replicate (f.ns - f.np) none)).bind (fin f.io))
    | some .begun => .stk
    | none => .stk
end Ev
end
end
section
set_option Elab.async false
set_option linter.all false
set_option maxRecDepth 100000
set_option maxHeartbeats 2000000
/-! EvRel: how the evaluator's values and slots lie in the hand layer's heap. -/
namespace Ev
open PySem L2
set_option autoImplicit false

/-- what is known and never changes: a part F of the heap; the drawing state's three objects -/
structure Gh where
  F : Hp
  D : Option (Addr × Addr × Addr)
def Gh.le (g g' : Gh) : Prop := Same g.F g'.F ∧ ∀ d, g.D = some d → g'.D = some d
theorem Gh.le.refl (g : Gh) : g.le g := ⟨Same.refl _, fun _ h => h⟩
theorem Gh.le.trans {g g' g'' : Gh} (a : g.le g') (b : g'.le g'') : g.le g'' := ⟨a.1.trans b.1, fun d h => b.2 d (a.2 d h)⟩
def dAdr : Option (Addr × Addr × Addr) → List Addr
  | some (m, c, g) => [m, c, g]
  | none => []

section
variable (K : PySem.W.Frag) (G : Nat → Option Addr)
mutual
inductive RV (g : Gh) : W → V → Prop
  | non : RV g .non .non
  | bl (b : Bool) : RV g (.bl b) (.bl b)
  | int (i : Int) : RV g (.int i) (.int i)
  | str (x : Str) : RV g (.str x) (.str x)
  | rpr (d : PyData) : RV g (.rpr d) (.str d.shown)
  | tup {a : Addr} {vs : List V} {ws : List W} : SqT K g.F a vs → RVs g ws vs → RV g (.tup ws) (.ref a)
  | lst {a : Addr} {vs : List V} {ws : List W} : g.F a = some (.lst vs) → RVs g ws vs → RV g (.lst ws) (.ref a)
  | dct {a : Addr} {vs : List (Key × V)} {ws : List (Ky × W)} : g.F a = some (.dK vs) → RVk g ws vs → RV g (.dct ws) (.ref a)
  | fn {j : Nat} {a : Addr} : G j = some a → RV g (.fn j) (.ref a)
  | orc {m c l : Addr} : g.D = some (m, c, l) → RV g .orc (.ref m)
  | scr {a : Addr} {ns : List Int} {n : Nat} : SqL K g.F a (ns.map V.int) → ns.length = n → RV g (.scr n) (.ref a)
inductive RVs (g : Gh) : List W → List V → Prop
  | nil : RVs g [] []
  | cons {w : W} {v : V} {ws : List W} {vs : List V} : RV g w v → RVs g ws vs → RVs g (w :: ws) (v :: vs)
inductive RVk (g : Gh) : List (Ky × W) → List (Key × V) → Prop
  | nil : RVk g [] []
  | cons {k : Ky} {w : W} {v : V} {ws : List (Ky × W)} {vs : List (Key × V)} : RV g w v → RVk g ws vs → RVk g ((k, w) :: ws) ((k, v) :: vs)
end
end

theorem SqL.le {K : PySem.W.Frag} {H H' : Hp} {a : Addr} {xs : List V} (e : Same H H') (h : SqL K H a xs) : SqL K H' a xs := e.seq h
theorem Rd.le {H H' : Hp} {a : Addr} {u : HO} (e : Same H H') (h : Rd H a u) : Rd H' a u := by
  rcases h with h | ⟨o, h⟩
  · exact .inl (e a _ h)
  · exact .inr ⟨o, e a _ h⟩
theorem SqT.le {K : PySem.W.Frag} {H H' : Hp} {a : Addr} {xs : List V} (e : Same H H') (h : SqT K H a xs) : SqT K H' a xs := by
  rcases h with h | h
  · exact .inl (Rd.le e h)
  · exact .inr h

section
variable {K : PySem.W.Frag} {G : Nat → Option Addr}
mutual
theorem RV.le {g g' : Gh} (l : g.le g') : ∀ {w : W} {v : V}, RV K G g w v → RV K G g' w v
  | _, _, .non => .non
  | _, _, .bl b => .bl b
  | _, _, .int i => .int i
  | _, _, .str x => .str x
  | _, _, .rpr d => .rpr d
  | _, _, .tup h r => .tup (SqT.le l.1 h) (RVs.le l r)
  | _, _, .lst h r => .lst (l.1 _ _ h) (RVs.le l r)
  | _, _, .scr h e => .scr (SqL.le l.1 h) e
  | _, _, .dct h r => .dct (l.1 _ _ h) (RVk.le l r)
  | _, _, .fn h => .fn h
  | _, _, .orc h => .orc (l.2 _ h)
theorem RVs.le {g g' : Gh} (l : g.le g') : ∀ {w : List W} {v : List V}, RVs K G g w v → RVs K G g' w v
  | _, _, .nil => .nil
  | _, _, .cons a b => .cons (RV.le l a) (RVs.le l b)
theorem RVk.le {g g' : Gh} (l : g.le g') : ∀ {w : List (Ky × W)} {v : List (Key × V)}, RVk K G g w v → RVk K G g' w v
  | _, _, .nil => .nil
  | _, _, .cons a b => .cons (RV.le l a) (RVk.le l b)
end
theorem RVs.len {g : Gh} : ∀ {ws : List W} {vs : List V}, RVs K G g ws vs → ws.length = vs.length
  | _, _, .nil => rfl
  | _, _, .cons _ b => congrArg (· + 1) b.len
theorem RVk.len {g : Gh} : ∀ {ws : List (Ky × W)} {vs : List (Key × V)}, RVk K G g ws vs → ws.length = vs.length
  | _, _, .nil => rfl
  | _, _, .cons _ b => congrArg (· + 1) b.len
theorem RVs.get {g : Gh} : ∀ {ws : List W} {vs : List V} {i : Nat} {w : W}, RVs K G g ws vs → ws[i]? = some w → ∃ v, vs[i]? = some v ∧ RV K G g w v
  | _, _, _, _, .nil, e => by simp at e
  | _, _, 0, _, .cons a _, e => by
    simp at e
    subst e
    exact ⟨_, rfl, a⟩
  | _, _, i + 1, w, .cons _ b, e => by
    obtain ⟨v, h1, h2⟩ := RVs.get (i := i) b (by simpa using e)
    exact ⟨v, by simpa using h1, h2⟩
theorem RVs.append {g : Gh} : ∀ {ws us : List W} {vs xs : List V}, RVs K G g ws vs → RVs K G g us xs → RVs K G g (ws ++ us) (vs ++ xs)
  | _, _, _, _, .nil, s => s
  | _, _, _, _, .cons a b, s => .cons a (b.append s)
theorem RVs.take {g : Gh} : ∀ {ws : List W} {vs : List V} (n : Nat), RVs K G g ws vs → RVs K G g (ws.take n) (vs.take n)
  | _, _, 0, _ => by rw [List.take_zero, List.take_zero]; exact .nil
  | _, _, _ + 1, .nil => .nil
  | _, _, n + 1, .cons a b => .cons a (b.take n)
theorem RVs.drop {g : Gh} : ∀ {ws : List W} {vs : List V} (n : Nat), RVs K G g ws vs → RVs K G g (ws.drop n) (vs.drop n)
  | _, _, 0, r => r
  | _, _, _ + 1, .nil => .nil
  | _, _, n + 1, .cons _ b => b.drop n
theorem RVs.set {g : Gh} {w : W} {v : V} (r : RV K G g w v) : ∀ {ws : List W} {vs : List V} (i : Nat), RVs K G g ws vs → RVs K G g (ws.set i w) (vs.set i v)
  | _, _, _, .nil => .nil
  | _, _, 0, .cons _ b => .cons r b
  | _, _, i + 1, .cons a b => .cons a (b.set r i)
theorem RVs.flat {g : Gh} {ws : List W} {vs : List V} (r : RVs K G g ws vs) : ∀ n : Nat, RVs K G g (List.replicate n ws).flatten (List.replicate n vs).flatten
  | 0 => .nil
  | n + 1 => by
    rw [List.replicate_succ, List.replicate_succ, List.flatten_cons, List.flatten_cons]
    exact r.append (r.flat n)
end

/-! ### the drawing state -/
def BIG : Nat := 2 ^ 40
def sCells : Str := "cells"
def sGreat : Str := "great"
def sSpot : Str := "spot"
/-- the drawing state, from which b more numbers may be drawn -/
structure OrcAt (b : Nat) (d : Addr × Addr × Addr) (H : Hp) : Prop where
  ex : ∃ (cs gs : List Int) (n : Nat), H d.1 = some (.dK [(Sum.inr sCells, .ref d.2.1), (Sum.inr sGreat, .ref d.2.2), (Sum.inr sSpot, .int n)]) ∧
    H d.2.1 = some (.lst (cs.map V.int)) ∧ H d.2.2 = some (.lst (gs.map V.int)) ∧ cs.length = 64 ∧ (∀ x ∈ cs, 0 ≤ x ∧ x < 2147483647) ∧ gs.length ≤ 63 ∧ (∀ x ∈ gs, 0 ≤ x) ∧ n + b ≤ BIG
theorem OrcAt.le {b b' : Nat} {d : Addr × Addr × Addr} {H H' : Hp} (o : OrcAt b d H) (h : b' ≤ b) (e : ∀ a ∈ dAdr (some d), ∀ x, H a = some x → H' a = some x) : OrcAt b' d H' := by
  obtain ⟨cs, gs, n, h1, h2, h3, h4, h5, h6, h7, h8⟩ := o.ex
  obtain ⟨m, c, l⟩ := d
  exact ⟨cs, gs, n, e m (by simp [dAdr]) _ h1, e c (by simp [dAdr]) _ h2, e l (by simp [dAdr]) _ h3, h4, h5, h6, h7, by omega⟩

/-! ### a frame -/
/-- what is fixed while a def runs: the written part, the defs' places, the heap and the known part at the entry, the things handed over -/
structure Fm where
  K : PySem.W.Frag
  G : Nat → Option Addr
  H0 : Hp
  g0 : Gh
  IO : List Addr
  nod : Bool
/-- an owned thing -/
def OA (K : PySem.W.Frag) (G : Nat → Option Addr) (g : Gh) (H : Hp) (w : W) (a : Addr) : Prop := match w with
  | .lst ws => ∃ vs, H a = some (.lst vs) ∧ RVs K G g ws vs
  | .dct ws => ∃ vs, H a = some (.dK vs) ∧ RVk K G g ws vs
  | _ => False
theorem OA.le {K : PySem.W.Frag} {G : Nat → Option Addr} {g g' : Gh} {H H' : Hp} {w : W} {a : Addr} (l : g.le g') (e : ∀ o, H a = some o → H' a = some o) (h : OA K G g H w a) : OA K G g' H' w a := by
  cases w <;> first
    | exact h.elim
    | (obtain ⟨vs, h1, h2⟩ := h; exact ⟨vs, e _ h1, h2.le l⟩)
theorem OA.some {K : PySem.W.Frag} {G : Nat → Option Addr} {g : Gh} {H : Hp} {w : W} {a : Addr} (h : OA K G g H w a) : ∃ o, H a = some o := by
  cases w <;> first
    | exact h.elim
    | (obtain ⟨vs, h1, _⟩ := h; exact ⟨_, h1⟩)

structure Rl (f : Fm) (g : Gh) (b : Nat) (sl : Sl) (σ : St) (H : Hp) : Prop where
  sub : Same g.F H
  kee : ∀ a o, f.H0 a = some o → a ∉ f.IO → a ∉ dAdr g.D → H a = some o
  new : ∀ a o, g.F a = some o → f.g0.F a = some o ∨ f.H0 a = none ∨ a ∈ f.IO
  dF : ∀ a ∈ dAdr g.D, g.F a = none
  orc : ∀ d, g.D = some d → OrcAt b d H
  d0 : ∀ a ∈ dAdr g.D, a ∈ dAdr f.g0.D ∨ f.H0 a = none
  dn : f.nod = true → g.D = none
  ioS : ∀ a ∈ f.IO, ∃ o, H a = some o
  len : sl.length = σ.length
  frz : ∀ (i : Nat) w, sl[i]? = some (some (w, false)) → ∃ v, σ[i]? = some (some v) ∧ RV f.K f.G g w v
  own : ∀ (i : Nat) w, sl[i]? = some (some (w, true)) → ∃ a, σ[i]? = some (some (.ref a)) ∧ OA f.K f.G g H w a ∧ g.F a = none ∧ a ∉ dAdr g.D ∧ (f.H0 a = none ∨ a ∈ f.IO)
  inj : ∀ (i j : Nat) w w' a, sl[i]? = some (some (w, true)) → sl[j]? = some (some (w', true)) → σ[i]? = some (some (.ref a)) → σ[j]? = some (some (.ref a)) → i = j
/-- a result: known, or new and nobody else's -/
def Vl (f : Fm) (g : Gh) (H : Hp) (sl : Sl) (σ : St) (r : R) (v : V) : Prop := match r.2 with
  | false => RV f.K f.G g r.1 v
  | true => ∃ a, v = .ref a ∧ OA f.K f.G g H r.1 a ∧ g.F a = none ∧ a ∉ dAdr g.D ∧ f.H0 a = none ∧ ∀ (i : Nat) w, sl[i]? = some (some (w, true)) → σ[i]? ≠ some (some (.ref a))

section
variable {f : Fm} {g g' : Gh} {b b' : Nat} {sl : Sl} {σ : St} {H H' : Hp}
/-- the heap grows -/
theorem Rl.mono (R : Rl f g b sl σ H) (e : Same H H') : Rl f g b sl σ H' where
  sub := R.sub.trans e
  kee := fun a o h1 h2 h3 => e a o (R.kee a o h1 h2 h3)
  new := R.new
  dF := R.dF
  orc := fun d hd => (R.orc d hd).le (Nat.le_refl _) fun a _ x hx => e a x hx
  d0 := R.d0
  dn := R.dn
  ioS := fun a h => let ⟨o, q⟩ := R.ioS a h; ⟨o, e a o q⟩
  len := R.len
  frz := R.frz
  own := fun i w h => by
    obtain ⟨a, h1, h2, h3⟩ := R.own i w h
    exact ⟨a, h1, h2.le (Gh.le.refl g) fun o ho => e a o ho, h3⟩
  inj := R.inj
/-- one thing more is known -/
def Gh.add (g : Gh) (a : Addr) (o : HO) : Gh := ⟨upd g.F a o, g.D⟩
theorem Gh.le_add {a : Addr} {o : HO} (h : g.F a = none) : g.le (g.add a o) :=
  ⟨fun c u e => by
    show upd g.F a o c = some u
    rw [upd_ne (ne_of_none e h)]
    exact e, fun _ h => h⟩
theorem Rl.add {a : Addr} {o : HO} (R : Rl f g b sl σ H) (hF : g.F a = none) (hH : H a = some o) (hD : a ∉ dAdr g.D) (h0 : f.H0 a = none ∨ a ∈ f.IO) (hs : ∀ (i : Nat) w, sl[i]? = some (some (w, true)) → σ[i]? ≠ some (some (.ref a))) : Rl f (g.add a o) b sl σ H where
  sub := fun c u e => by
    by_cases hc : c = a
    · subst hc
      have e' : upd g.F c o c = some u := e
      rw [upd_same] at e'
      cases e'
      exact hH
    · have e' : upd g.F a o c = some u := e
      rw [upd_ne hc] at e'
      exact R.sub c u e'
  kee := R.kee
  new := fun c u e => by
    by_cases hc : c = a
    · subst hc
      exact .inr h0
    · have e' : upd g.F a o c = some u := e
      rw [upd_ne hc] at e'
      exact R.new c u e'
  dF := fun c hc => by
    show upd g.F a o c = none
    have hca : c ≠ a := fun e => by
      subst e
      exact hD hc
    rw [upd_ne hca]
    exact R.dF c hc
  orc := R.orc
  d0 := R.d0
  dn := R.dn
  ioS := R.ioS
  len := R.len
  frz := fun i w h => by
    obtain ⟨v, h1, h2⟩ := R.frz i w h
    exact ⟨v, h1, h2.le (Gh.le_add hF)⟩
  own := fun i w h => by
    obtain ⟨c, h1, h2, h3, h4⟩ := R.own i w h
    refine ⟨c, h1, h2.le (Gh.le_add hF) fun _ z => z, ?_, h4⟩
    show upd g.F a o c = none
    have hca : c ≠ a := fun e => by
      subst e
      exact hs i w h h1
    rw [upd_ne hca]
    exact h3
  inj := R.inj
/-- a new result becomes known -/
theorem Rl.freeze {r : R} {v : V} (R : Rl f g b sl σ H) (h : Vl f g H sl σ r v) : ∃ g', g.le g' ∧ Rl f g' b sl σ H ∧ RV f.K f.G g' r.1 v := by
  obtain ⟨w, fr⟩ := r
  cases fr with
  | false => exact ⟨g, Gh.le.refl g, R, h⟩
  | true =>
    obtain ⟨a, rfl, ho, hF, hD, h0, hs⟩ := h
    obtain ⟨o, e⟩ := ho.some
    refine ⟨g.add a o, Gh.le_add hF, R.add hF e hD (.inl h0) hs, ?_⟩
    have hF' : (g.add a o).F a = some o := upd_same
    cases w <;> first
      | exact ho.elim
      | (obtain ⟨vs, h1, h2⟩ := ho
         rw [e] at h1; cases h1
         first
           | exact .lst hF' (h2.le (Gh.le_add hF))
           | exact .dct hF' (h2.le (Gh.le_add hF)))
theorem sl_set {α : Type} {xs : List α} {i j : Nat} {x y : α} (h : (xs.set i x)[j]? = some y) : (i = j ∧ y = x) ∨ (i ≠ j ∧ xs[j]? = some y) := by
  by_cases e : i = j
  · subst e
    rw [List.getElem?_set_self'] at h
    cases q : xs[i]? with
    | none => rw [q] at h; cases h
    | some z =>
      rw [q] at h
      exact .inl ⟨rfl, (Option.some.inj h).symm⟩
  · rw [List.getElem?_set_ne e] at h
    exact .inr ⟨e, h⟩
/-- a slot gets a known value (σ too) -/
theorem Rl.setF {i : Nat} {w : W} {v : V} (R : Rl f g b sl σ H) (hv : RV f.K f.G g w v) : Rl f g b (sl.set i (some (w, false))) (σ.set i (some v)) H where
  sub := R.sub
  kee := R.kee
  new := R.new
  dF := R.dF
  orc := R.orc
  d0 := R.d0
  dn := R.dn
  ioS := R.ioS
  len := by rw [List.length_set, List.length_set]; exact R.len
  frz := fun j u h => by
    rcases sl_set h with ⟨e, q⟩ | ⟨e, q⟩
    · subst e
      cases q
      have hi : i < σ.length := by
        rw [← R.len]
        have := (List.getElem?_eq_some_iff.mp h).1
        rw [List.length_set] at this
        exact this
      exact ⟨v, List.getElem?_set_self hi, hv⟩
    · obtain ⟨x, h1, h2⟩ := R.frz j u q
      exact ⟨x, by rw [List.getElem?_set_ne e]; exact h1, h2⟩
  own := fun j u h => by
    rcases sl_set h with ⟨e, q⟩ | ⟨e, q⟩
    · cases q
    · obtain ⟨x, h1, h2⟩ := R.own j u q
      exact ⟨x, by rw [List.getElem?_set_ne e]; exact h1, h2⟩
  inj := fun j k u u' a h1 h2 h3 h4 => by
    rcases sl_set h1 with ⟨e, q⟩ | ⟨e, q⟩
    · cases q
    · rcases sl_set h2 with ⟨e', q'⟩ | ⟨e', q'⟩
      · cases q'
      · rw [List.getElem?_set_ne e] at h3
        rw [List.getElem?_set_ne e'] at h4
        exact R.inj j k u u' a q q' h3 h4
/-- a slot gets a new thing -/
theorem Rl.setO {i : Nat} {w : W} {a : Addr} (R : Rl f g b sl σ H) (ho : OA f.K f.G g H w a) (hF : g.F a = none) (hD : a ∉ dAdr g.D) (h0 : f.H0 a = none ∨ a ∈ f.IO)
    (hs : ∀ (j : Nat) u, j ≠ i → sl[j]? = some (some (u, true)) → σ[j]? ≠ some (some (.ref a))) : Rl f g b (sl.set i (some (w, true))) (σ.set i (some (.ref a))) H where
  sub := R.sub
  kee := R.kee
  new := R.new
  dF := R.dF
  orc := R.orc
  d0 := R.d0
  dn := R.dn
  ioS := R.ioS
  len := by rw [List.length_set, List.length_set]; exact R.len
  frz := fun j u h => by
    rcases sl_set h with ⟨e, q⟩ | ⟨e, q⟩
    · cases q
    · obtain ⟨x, h1, h2⟩ := R.frz j u q
      exact ⟨x, by rw [List.getElem?_set_ne e]; exact h1, h2⟩
  own := fun j u h => by
    rcases sl_set h with ⟨e, q⟩ | ⟨e, q⟩
    · subst e
      cases q
      have hi : i < σ.length := by
        rw [← R.len]
        have := (List.getElem?_eq_some_iff.mp h).1
        rw [List.length_set] at this
        exact this
      exact ⟨a, List.getElem?_set_self hi, ho, hF, hD, h0⟩
    · obtain ⟨x, h1, h2⟩ := R.own j u q
      exact ⟨x, by rw [List.getElem?_set_ne e]; exact h1, h2⟩
  inj := fun j k u u' c h1 h2 h3 h4 => by
    rcases sl_set h1 with ⟨e, q⟩ | ⟨e, q⟩
    · rcases sl_set h2 with ⟨e', q'⟩ | ⟨e', q'⟩
      · exact e.symm.trans e'
      · subst e
        have hi : i < σ.length := by
          rw [← R.len]
          have := (List.getElem?_eq_some_iff.mp h1).1
          rw [List.length_set] at this
          exact this
        rw [List.getElem?_set_self hi] at h3
        rw [List.getElem?_set_ne e'] at h4
        cases h3
        exact (hs k u' (Ne.symm e') q' h4).elim
    · rcases sl_set h2 with ⟨e', q'⟩ | ⟨e', q'⟩
      · subst e'
        have hi : i < σ.length := by
          rw [← R.len]
          have := (List.getElem?_eq_some_iff.mp h2).1
          rw [List.length_set] at this
          exact this
        rw [List.getElem?_set_self hi] at h4
        rw [List.getElem?_set_ne e] at h3
        cases h4
        exact (hs j u (Ne.symm e) q h3).elim
      · rw [List.getElem?_set_ne e] at h3
        rw [List.getElem?_set_ne e'] at h4
        exact R.inj j k u u' c q q' h3 h4
/-- slots forgotten -/
theorem Rl.weak {sl' : Sl} (R : Rl f g b sl σ H) (hl : sl'.length = sl.length) (h : ∀ (i : Nat) r, sl'[i]? = some (some r) → sl[i]? = some (some r)) : Rl f g b sl' σ H where
  sub := R.sub
  kee := R.kee
  new := R.new
  dF := R.dF
  orc := R.orc
  d0 := R.d0
  dn := R.dn
  ioS := R.ioS
  len := hl.trans R.len
  frz := fun i w q => R.frz i w (h i _ q)
  own := fun i w q => R.own i w (h i _ q)
  inj := fun i j w w' a h1 h2 h3 h4 => R.inj i j w w' a (h i _ h1) (h j _ h2) h3 h4
theorem Rl.setN {i : Nat} (R : Rl f g b sl σ H) : Rl f g b (sl.set i none) σ H :=
  R.weak (List.length_set ..) fun j r h => by
    rcases sl_set h with ⟨_, q⟩ | ⟨_, q⟩
    · cases q
    · exact q
/-- the value of a slot becomes known: it is read where it is kept -/
theorem Rl.read {i : Nat} {w : W} {fr : Bool} (R : Rl f g b sl σ H) (h : sl[i]? = some (some (w, fr))) :
    ∃ g' v, g.le g' ∧ σ[i]? = some (some v) ∧ RV f.K f.G g' w v ∧ Rl f g' b (sl.set i (some (w, false))) σ H := by
  have hi : i < sl.length := (List.getElem?_eq_some_iff.mp h).1
  cases fr with
  | false =>
    obtain ⟨v, h1, h2⟩ := R.frz i w h
    refine ⟨g, v, Gh.le.refl g, h1, h2, ?_⟩
    have e : sl.set i (some (w, false)) = sl := by
      refine List.ext_getElem? fun j => ?_
      by_cases hj : i = j
      · subst hj
        rw [List.getElem?_set_self hi, h]
      · rw [List.getElem?_set_ne hj]
    rw [e]
    exact R
  | true =>
    obtain ⟨a, h1, ho, hF, hD, h0⟩ := R.own i w h
    obtain ⟨o, e⟩ := ho.some
    have R1 : Rl f g b (sl.set i none) σ H := R.setN
    have hs : ∀ (j : Nat) u, (sl.set i none)[j]? = some (some (u, true)) → σ[j]? ≠ some (some (.ref a)) := fun j u q z => by
      rcases sl_set q with ⟨_, q'⟩ | ⟨e1, q'⟩
      · cases q'
      · exact e1 (R.inj i j w u a h q' h1 z)
    have R2 := R1.add hF e hD h0 hs
    have hF' : (g.add a o).F a = some o := upd_same
    have rv : RV f.K f.G (g.add a o) w (.ref a) := by
      cases w <;> first
        | exact ho.elim
        | (obtain ⟨vs, q1, q2⟩ := ho
           rw [e] at q1; cases q1
           first
             | exact .lst hF' (q2.le (Gh.le_add hF))
             | exact .dct hF' (q2.le (Gh.le_add hF)))
    refine ⟨g.add a o, .ref a, Gh.le_add hF, h1, rv, ?_⟩
    have R3 := R2.setF (i := i) (v := .ref a) rv
    have e1 : (sl.set i none).set i (some (w, false)) = sl.set i (some (w, false)) := List.set_set ..
    have e2 : σ.set i (some (.ref a)) = σ := by
      refine List.ext_getElem? fun j => ?_
      by_cases hj : i = j
      · subst hj
        rw [List.getElem?_set_self (by rw [← R.len]; exact hi), h1]
      · rw [List.getElem?_set_ne hj]
    rw [e1, e2] at R3
    exact R3
end
end Ev
end
section
set_option Elab.async false
set_option linter.all false
set_option maxRecDepth 100000
set_option maxHeartbeats 2000000
/-! EvOps: operations by values are right over the hand layer. -/
namespace Ev
open PySem L2
set_option autoImplicit false

/-- a value that is looked at: known, or owned by a slot -/
def PV (f : Fm) (g : Gh) (H : Hp) (w : W) (v : V) : Prop := RV f.K f.G g w v ∨ ∃ a, v = .ref a ∧ OA f.K f.G g H w a
section
variable {f : Fm} {g g' : Gh} {b : Nat} {sl : Sl} {σ : St} {H H' : Hp} {v : V}
theorem PV.non (h : PV f g H .non v) : v = .non := by
  rcases h with h | ⟨_, _, h⟩
  · cases h; rfl
  · exact h.elim
theorem PV.bl {c : Bool} (h : PV f g H (.bl c) v) : v = .bl c := by
  rcases h with h | ⟨_, _, h⟩
  · cases h; rfl
  · exact h.elim
theorem PV.int {i : Int} (h : PV f g H (.int i) v) : v = .int i := by
  rcases h with h | ⟨_, _, h⟩
  · cases h; rfl
  · exact h.elim
theorem PV.str {x : Str} (h : PV f g H (.str x) v) : v = .str x := by
  rcases h with h | ⟨_, _, h⟩
  · cases h; rfl
  · exact h.elim
theorem PV.rpr {d : PyData} (h : PV f g H (.rpr d) v) : v = .str d.shown := by
  rcases h with h | ⟨_, _, h⟩
  · cases h; rfl
  · exact h.elim
theorem PV.tup {ws : List W} (e : Same g.F H) (h : PV f g H (.tup ws) v) : ∃ a vs, v = .ref a ∧ SqT f.K H a vs ∧ RVs f.K f.G g ws vs := by
  rcases h with h | ⟨_, _, h⟩
  · cases h with
    | tup q r => exact ⟨_, _, rfl, SqT.le e q, r⟩
  · exact h.elim
theorem PV.lst {ws : List W} (e : Same g.F H) (h : PV f g H (.lst ws) v) : ∃ a vs, v = .ref a ∧ H a = some (.lst vs) ∧ RVs f.K f.G g ws vs := by
  rcases h with h | ⟨a, e1, h⟩
  · cases h with
    | lst q r => exact ⟨_, _, rfl, e _ _ q, r⟩
  · obtain ⟨vs, q, r⟩ := h
    exact ⟨a, vs, e1, q, r⟩
theorem PV.dct {ws : List (Ky × W)} (e : Same g.F H) (h : PV f g H (.dct ws) v) : ∃ a vs, v = .ref a ∧ H a = some (.dK vs) ∧ RVk f.K f.G g ws vs := by
  rcases h with h | ⟨a, e1, h⟩
  · cases h with
    | dct q r => exact ⟨_, _, rfl, e _ _ q, r⟩
  · obtain ⟨vs, q, r⟩ := h
    exact ⟨a, vs, e1, q, r⟩
theorem PV.scr {n : Nat} (e : Same g.F H) (h : PV f g H (.scr n) v) : ∃ (a : Addr) (ns : List Int), v = .ref a ∧ SqL f.K H a (ns.map V.int) ∧ ns.length = n := by
  rcases h with h | ⟨_, _, h⟩
  · cases h with
    | scr q r => exact ⟨_, _, rfl, SqL.le e q, r⟩
  · exact h.elim
theorem PV.le (l : g.le g') (e : Same H H') {w : W} (h : PV f g H w v) : PV f g' H' w v := by
  rcases h with h | ⟨a, e1, h⟩
  · exact .inl (h.le l)
  · exact .inr ⟨a, e1, h.le l fun o q => e a o q⟩

/-! ### what a new object is -/
theorem Rl.freeF (R : Rl f g b sl σ H) {p : Addr} (h : H p = none) : g.F p = none := R.sub.free h
theorem Rl.freeD (R : Rl f g b sl σ H) {p : Addr} (h : H p = none) : p ∉ dAdr g.D := fun hm => by
  cases e : g.D with
  | none => rw [e] at hm; cases hm
  | some d =>
    obtain ⟨cs, gs, n, h1, h2, h3, _⟩ := (R.orc d e).ex
    rw [e] at hm
    obtain ⟨x, y, z⟩ := d
    simp only [dAdr, List.mem_cons, List.not_mem_nil, or_false] at hm
    rcases hm with rfl | rfl | rfl
    · rw [h] at h1; cases h1
    · rw [h] at h2; cases h2
    · rw [h] at h3; cases h3
theorem Rl.free0 (R : Rl f g b sl σ H) {p : Addr} (h : H p = none) : f.H0 p = none := by
  cases e : f.H0 p with
  | none => rfl
  | some o =>
    by_cases hi : p ∈ f.IO
    · obtain ⟨o', q⟩ := R.ioS p hi
      rw [h] at q; cases q
    · have := R.kee p o e hi (R.freeD h)
      rw [h] at this; cases this
theorem Rl.freeS (R : Rl f g b sl σ H) {p : Addr} (h : H p = none) : ∀ (i : Nat) w, sl[i]? = some (some (w, true)) → σ[i]? ≠ some (some (.ref p)) := fun i w q z => by
  obtain ⟨a, h1, h2, _⟩ := R.own i w q
  rw [z] at h1
  cases h1
  obtain ⟨o, e⟩ := h2.some
  rw [h] at e; cases e
theorem same_upd {p : Addr} {o : HO} (h : H p = none) : Same H (upd H p o) := fun c u e => by
  rw [upd_ne (ne_of_none e h)]
  exact e
/-- a new list, owned -/
theorem Rl.newL (R : Rl f g b sl σ H) {p : Addr} {vs : List V} {ws : List W} (h : H p = none) (r : RVs f.K f.G g ws vs) :
    Rl f g b sl σ (upd H p (.lst vs)) ∧ Vl f g (upd H p (.lst vs)) sl σ (.lst ws, true) (.ref p) :=
  ⟨R.mono (same_upd h), p, rfl, ⟨vs, upd_same, r⟩, R.freeF h, R.freeD h, R.free0 h, R.freeS h⟩
theorem Rl.newD (R : Rl f g b sl σ H) {p : Addr} {vs : List (Key × V)} {ws : List (Ky × W)} (h : H p = none) (r : RVk f.K f.G g ws vs) :
    Rl f g b sl σ (upd H p (.dK vs)) ∧ Vl f g (upd H p (.dK vs)) sl σ (.dct ws, true) (.ref p) :=
  ⟨R.mono (same_upd h), p, rfl, ⟨vs, upd_same, r⟩, R.freeF h, R.freeD h, R.free0 h, R.freeS h⟩
/-- a new tuple, known -/
theorem Rl.newT (R : Rl f g b sl σ H) {p : Addr} {vs : List V} {ws : List W} (h : H p = none) (r : RVs f.K f.G g ws vs) :
    ∃ g', g.le g' ∧ Rl f g' b sl σ (upd H p (.tup vs)) ∧ RV f.K f.G g' (.tup ws) (.ref p) := by
  have hF := R.freeF h
  refine ⟨g.add p (.tup vs), Gh.le_add hF, (R.mono (same_upd h)).add hF upd_same (R.freeD h) (.inl (R.free0 h)) (R.freeS h), ?_⟩
  exact .tup (.inl (.inl upd_same)) (r.le (Gh.le_add hF))

/-! ### data -/
mutual
theorem RV.dp : ∀ {w : W} {v : V} {d : PyData}, RV f.K f.G g w v → toD w = some d → Dp f.K g.F v d
  | _, _, _, .non, e => by cases e; exact .non
  | _, _, _, .bl b, e => by cases e; exact .bl b
  | _, _, _, .int i, e => by cases e; exact .int i
  | _, _, _, .str x, e => by cases e; exact .str x
  | _, _, _, .rpr _, e => by cases e
  | _, _, _, .tup (ws := ws) q r, e => by
    simp only [toD] at e
    cases hd : toDs ws with
    | none => rw [hd] at e; cases e
    | some ds =>
      rw [hd] at e
      cases e
      exact .tup q (RVs.dp r hd)
  | _, _, _, .lst (ws := ws) q r, e => by
    simp only [toD] at e
    cases hd : toDs ws with
    | none => rw [hd] at e; cases e
    | some ds =>
      rw [hd] at e
      cases e
      exact .lst (.inl (.inl q)) (RVs.dp r hd)
  | _, _, _, .dct _ _, e => by cases e
  | _, _, _, .fn _, e => by cases e
  | _, _, _, .orc _, e => by cases e
  | _, _, _, .scr _ _, e => by cases e
theorem RVs.dp : ∀ {ws : List W} {vs : List V} {ds : List PyData}, RVs f.K f.G g ws vs → toDs ws = some ds → DpAll f.K g.F vs ds
  | _, _, _, .nil, e => by cases e; exact .nil
  | _, _, _, .cons (w := w) (ws := ws) a r, e => by
    simp only [toDs] at e
    cases h1 : toD w with
    | none => rw [h1] at e; cases e
    | some d =>
      cases h2 : toDs ws with
      | none => rw [h1, h2] at e; cases e
      | some ds =>
        rw [h1, h2] at e
        cases e
        exact .cons (RV.dp a h1) (RVs.dp r h2)
end
mutual
theorem dpLe {K : PySem.W.Frag} (e : Same H H') : ∀ {v : V} {d : PyData}, Dp K H v d → Dp K H' v d
  | _, _, .non => .non
  | _, _, .bl b => .bl b
  | _, _, .int i => .int i
  | _, _, .str x => .str x
  | _, _, .lst q r => .lst (SqL.le e q) (dpAllLe e r)
  | _, _, .tup q r => .tup (SqT.le e q) (dpAllLe e r)
theorem dpAllLe {K : PySem.W.Frag} (e : Same H H') : ∀ {v : List V} {d : List PyData}, DpAll K H v d → DpAll K H' v d
  | _, _, .nil => .nil
  | _, _, .cons a r => .cons (dpLe e a) (dpAllLe e r)
end
theorem PV.dp (e : Same g.F H) {w : W} {d : PyData} (h : PV f g H w v) (hd : toD w = some d) : Dp f.K H v d := by
  rcases h with h | ⟨a, rfl, h⟩
  · exact dpLe e (h.dp hd)
  · cases w <;> first
      | exact h.elim
      | (obtain ⟨vs, h1, h2⟩ := h
         first
           | (cases hd)
           | (rename_i ws
              simp only [toD] at hd
              cases hq : toDs ws with
              | none => rw [hq] at hd; cases hd
              | some ds =>
                rw [hq] at hd
                cases hd
                exact .lst (.inl (.inl h1)) (dpAllLe e (RVs.dp h2 hq))))
end

/-! ### operations -/
/-- a two-place operation is wanted to end in Q -/
def OpW (X : Cx) (fn : Value → Value → Sem Value) (x y : V) (H : Hp) (Q : VK) : Prop :=
  ∀ (pins : List (Addr × Obj)) (s : Shared) (σ : St) (v u : Value), Inv X pins σ H s → RelV x v → RelV y u → wpAny (model X.prog X.w) X.A (fn v u) (EP X pins σ Q) X.xe s
theorem OpW.of {X : Cx} {fn : Value → Value → Sem Value} {r : R2} {x y : V} {H : Hp} {Q : VK} (h : OpR X fn r) (q : r x y H Q) : OpW X fn x y H Q :=
  fun pins s σ v u I rx ry => h pins s σ H x y v u Q I rx ry q
def opF : Op2 → Value → Value → Sem Value
  | .add => binaryOp .Add
  | .sub => binaryOp .Sub
  | .mul => binaryOp .Mult
  | .fdiv => binaryOp .FloorDiv
  | .mod => binaryOp .Mod
  | .pow => binaryOp .Pow
  | .bor => binaryOp .BitOr
  | .band => binaryOp .BitAnd
  | .eq => compareOp .Eq
  | .ne => compareOp .NotEq
  | .lt => compareOp .Lt
  | .le => compareOp .LtE
  | .gt => compareOp .Gt
  | .ge => compareOp .GtE
  | .is => compareOp .Is
  | .isnot => compareOp .IsNot
  | .isin => compareOp .In
  | .notin => compareOp .NotIn

/-- what is wanted of a result -/
def Want (f : Fm) (g : Gh) (sl : Sl) (σ : St) (Q : VK) (r : R) (b' : Nat) : Prop := ∀ g' v H', g.le g' → Rl f g' b' sl σ H' → Vl f g' H' sl σ r v → Q v H'
theorem small_ok {i : Int} (h : small64 i = true) : -(2 ^ 64) < i ∧ i < 2 ^ 64 := by
  unfold small64 at h
  rw [Bool.and_eq_true] at h
  exact ⟨of_decide_eq_true h.1, of_decide_eq_true h.2⟩
section
variable {X : Cx} {f : Fm} {g : Gh} {b : Nat} {sl : Sl} {σ : St} {H : Hp} {Q : VK} {x y : W} {vx vy : V}
theorem two_wb {F : Int → Int → T R} {P : R → Nat → Prop} (h : (two x y F).wb b P) : ∃ i j, x = .int i ∧ y = .int j ∧ (F i j).wb b P := by
  unfold two at h
  cases x <;> first
    | exact h.elim
    | (cases y <;> first
        | exact h.elim
        | exact ⟨_, _, rfl, rfl, h⟩)
/-- a result that is no object -/
theorem wantI (R : Rl f g b sl σ H) {i : Int} (h : (fz (.int i)).wb b (Want f g sl σ Q)) : Q (.int i) H := h g _ H (Gh.le.refl g) R (.int i)
theorem wantB (R : Rl f g b sl σ H) {c : Bool} (h : (fz (.bl c)).wb b (Want f g sl σ Q)) : Q (.bl c) H := h g _ H (Gh.le.refl g) R (.bl c)
theorem add_ok (hK : X.K = f.K) (R : Rl f g b sl σ H) (px : PV f g H x vx) (py : PV f g H y vy) (h : (addW x y).wb b (Want f g sl σ Q)) : OpW X (binaryOp .Add) vx vy H Q := by
  unfold addW at h
  cases x with
  | int i =>
    cases y <;> first
      | exact h.elim
      | skip
    rename_i j
    rw [px.int, py.int]
    exact .of op_add ⟨i, j, rfl, rfl, wantI R h⟩
  | str x =>
    cases y <;> first
      | exact h.elim
      | skip
    rename_i z
    rw [px.str, py.str]
    obtain ⟨c, h⟩ := T.wb_guard h
    exact .of op_add_str ⟨x, z, rfl, rfl, Nat.le_of_ble_eq_true c, h g _ H (Gh.le.refl g) R (.str _)⟩
  | tup xs =>
    cases y <;> first
      | exact h.elim
      | skip
    rename_i ys
    obtain ⟨c, h⟩ := T.wb_guard h
    obtain ⟨a, vs, rfl, q1, r1⟩ := px.tup R.sub
    obtain ⟨a', vs', rfl, q2, r2⟩ := py.tup R.sub
    have hl : vs.length + vs'.length ≤ sizeLine := by rw [← r1.len, ← r2.len]; exact Nat.le_of_ble_eq_true c
    refine .of (op_catA) ⟨a, a', vs, vs', rfl, rfl, by rw [hK]; exact q1, by rw [hK]; exact q2, hl, fun e => ?_, fun e1 e2 => ?_, fun e1 e2 p hp => ?_⟩
    · subst e
      cases r1
      rcases py with py | ⟨_, _, py⟩
      · exact h g _ H (Gh.le.refl g) R py
      · exact py.elim
    · subst e2
      cases r2
      rw [List.append_nil] at h
      rcases px with px | ⟨_, _, px⟩
      · exact h g _ H (Gh.le.refl g) R px
      · exact px.elim
    · obtain ⟨g', l, R', rv⟩ := R.newT hp (r1.append r2)
      exact h g' _ _ l R' rv
  | lst xs =>
    cases y <;> first
      | exact h.elim
      | skip
    rename_i ys
    obtain ⟨c, h⟩ := T.wb_guard h
    obtain ⟨a, vs, rfl, q1, r1⟩ := px.lst R.sub
    obtain ⟨a', vs', rfl, q2, r2⟩ := py.lst R.sub
    refine .of op_cat ⟨a, a', vs, vs', rfl, rfl, q1, q2, by rw [← r1.len, ← r2.len]; exact Nat.le_of_ble_eq_true c, fun p hp => ?_⟩
    obtain ⟨R', w⟩ := R.newL hp (r1.append r2)
    exact h g _ _ (Gh.le.refl g) R' w
  | _ => exact h.elim
theorem mul_ok (hK : X.K = f.K) (R : Rl f g b sl σ H) (px : PV f g H x vx) (py : PV f g H y vy) (h : (mulW x y).wb b (Want f g sl σ Q)) : OpW X (binaryOp .Mult) vx vy H Q := by
  unfold mulW at h
  cases x with
  | int i =>
    cases y <;> first
      | exact h.elim
      | skip
    rename_i j
    rw [px.int, py.int]
    obtain ⟨c, h⟩ := T.wb_guard h
    refine .of op_mul ⟨i, j, rfl, rfl, ?_, wantI R h⟩
    rw [Bool.or_eq_true] at c
    rcases c with c | c
    · exact .inl (small_ok c)
    · exact .inr (small_ok c)
  | lst xs =>
    cases y <;> first
      | exact h.elim
      | skip
    rename_i k
    rw [py.int]
    obtain ⟨c, h⟩ := T.wb_guard h
    simp only [Bool.and_eq_true, decide_eq_true_eq] at c
    obtain ⟨a, vs, rfl, q1, r1⟩ := px.lst R.sub
    refine .of op_rep ⟨a, k, vs, rfl, rfl, q1, c.1.1, c.1.2, by rw [← r1.len]; exact Nat.le_of_ble_eq_true c.2, fun p hp => ?_⟩
    obtain ⟨R', w⟩ := R.newL hp (r1.flat k.toNat)
    exact h g _ _ (Gh.le.refl g) R' w
  | tup xs =>
    cases y <;> first
      | exact h.elim
      | skip
    rename_i k
    rw [py.int]
    obtain ⟨c, h⟩ := T.wb_guard h
    simp only [Bool.and_eq_true, decide_eq_true_eq] at c
    obtain ⟨a, vs, rfl, q1, r1⟩ := px.tup R.sub
    have hl := r1.len
    refine .of op_repT ⟨a, k, vs, rfl, rfl, by rw [hK]; exact q1, ?_, c.1.1.2, c.1.2, by rw [← hl]; exact Nat.le_of_ble_eq_true c.2, fun p hp => ?_⟩
    · intro e
      subst e
      cases r1
      exact absurd c.1.1.1 (by decide)
    · obtain ⟨g', l, R', rv⟩ := R.newT hp (r1.flat k.toNat)
      exact h g' _ _ l R' rv
  | _ => exact h.elim
theorem eqG_ok (hu : X.A.units + 64 < cLine) (hK : X.K = f.K) (R : Rl f g b sl σ H) (px : PV f g H x vx) (py : PV f g H y vy) {P : Bool → Nat → Prop} (h : (eqG x y).wb b P) :
    ∃ c, P c b ∧ ∀ Q : VK, (Q (.bl c) H → OpW X (compareOp .Eq) vx vy H Q) ∧ (Q (.bl (!c)) H → OpW X (compareOp .NotEq) vx vy H Q) := by
  unfold eqG at h
  cases h1 : toD x with
  | none => rw [h1] at h; exact h.elim
  | some d =>
    cases h2 : toD y with
    | none => rw [h1, h2] at h; exact h.elim
    | some e =>
      rw [h1, h2] at h
      obtain ⟨c, h⟩ := T.wb_guard h
      rw [Bool.and_eq_true] at c
      have dx := px.dp R.sub h1
      have dy := py.dp R.sub h2
      rw [← hK] at dx dy
      exact ⟨_, h, fun Q => ⟨fun q => .of (op_eqD hu) ⟨d, e, dx, dy, c.1, c.2, q⟩, fun q => .of (op_neD hu) ⟨d, e, dx, dy, c.1, c.2, q⟩⟩⟩
theorem eqW_ok (hu : X.A.units + 64 < cLine) (hK : X.K = f.K) (R : Rl f g b sl σ H) (px : PV f g H x vx) (py : PV f g H y vy) {P : Bool → Nat → Prop} (h : (eqW x y).wb b P) :
    ∃ c, P c b ∧ ∀ Q : VK, (Q (.bl c) H → OpW X (compareOp .Eq) vx vy H Q) ∧ (Q (.bl (!c)) H → OpW X (compareOp .NotEq) vx vy H Q) := by
  have st : ∀ (s t : Str), ∀ Q : VK, (Q (.bl (decide (s = t))) H → OpW X (compareOp .Eq) (.str s) (.str t) H Q) ∧ (Q (.bl (!decide (s = t))) H → OpW X (compareOp .NotEq) (.str s) (.str t) H Q) := fun s t Q => by
    have e : decide (V.str s = V.str t) = decide (s = t) := by rw [Bool.eq_iff_iff]; simp
    exact ⟨fun q => .of op_eq ⟨rfl, by rw [e]; exact q⟩, fun q => .of op_ne ⟨rfl, by rw [e]; exact q⟩⟩
  unfold eqW at h
  cases x with
  | int i =>
    cases y <;> first
      | exact eqG_ok hu hK R px py h
      | skip
    rename_i j
    have h : P (eqI i j) b := h
    rw [eqI_dec] at h
    rw [px.int, py.int]
    have e : decide (V.int i = V.int j) = decide (i = j) := by rw [Bool.eq_iff_iff]; simp
    exact ⟨_, h, fun Q => ⟨fun q => .of op_eq ⟨rfl, by rw [e]; exact q⟩, fun q => .of op_ne ⟨rfl, by rw [e]; exact q⟩⟩⟩
  | str s =>
    cases y <;> first
      | exact eqG_ok hu hK R px py h
      | skip
    rename_i t
    have h : P (eqS s t) b := h
    rw [eqS_dec] at h
    rw [px.str, py.str]
    exact ⟨_, h, st s t⟩
  | rpr d =>
    cases y <;> first
      | exact h.elim
      | skip
    rename_i e
    have h : P (sameD d e || eqS d.shown e.shown) b := h
    rw [px.rpr, py.rpr]
    have he : (sameD d e || eqS d.shown e.shown) = decide (d.shown = e.shown) := by
      rw [eqS_dec]
      cases hs : sameD d e with
      | false => rfl
      | true =>
        have : d = e := sameD_eq hs
        subst this
        simp
    rw [he] at h
    exact ⟨_, h, st _ _⟩
  | _ => exact eqG_ok hu hK R px py h

/-! ### is, in -/
theorem isW_ok (px : PV f g H x vx) (py : PV f g H y vy) {P : Bool → Nat → Prop} (h : (isW x y).wb b P) :
    ∃ c, P c b ∧ ∀ Q : VK, (Q (.bl c) H → OpW X (compareOp .Is) vx vy H Q) ∧ (Q (.bl (!c)) H → OpW X (compareOp .IsNot) vx vy H Q) := by
  unfold isW at h
  cases y with
  | non =>
    rw [py.non]
    refine ⟨_, h, fun Q => ?_⟩
    have e : isNon x = decide (vx = V.non) := by
      rcases px with px | ⟨a, e, _⟩
      · cases px <;> rfl
      · subst e
        cases x <;> first
          | rfl
          | (rename_i z; exact z.elim)
    rw [e]
    exact ⟨fun q => .of op_isN ⟨rfl, q⟩, fun q => .of op_notN ⟨rfl, q⟩⟩
  | bl c =>
    cases x <;> first
      | exact h.elim
      | skip
    rename_i d
    rw [px.bl, py.bl]
    exact ⟨_, h, fun Q => ⟨fun q => .of op_isBl ⟨d, c, rfl, rfl, q⟩, fun q => .of op_notBl ⟨d, c, rfl, rfl, q⟩⟩⟩
  | _ => exact h.elim
/-- a flat value's own value -/
def flatOf : W → V
  | .non => .non
  | .bl b => .bl b
  | .int i => .int i
  | .str x => .str x
  | _ => .non
theorem flat_rv {w : W} {v : V} (hf : flatW w = true) (r : RV f.K f.G g w v) : v = flatOf w ∧ flatV v = true := by
  cases r <;> first
    | exact ⟨rfl, rfl⟩
    | cases hf
theorem flat_pv {w : W} {v : V} (hf : flatW w = true) (r : PV f g H w v) : v = flatOf w ∧ flatV v = true := by
  rcases r with r | ⟨_, _, r⟩
  · exact flat_rv hf r
  · cases w <;> first
      | exact r.elim
      | cases hf
theorem eqF_V {a c : W} (ha : flatW a = true) (hc : flatW c = true) : eqF a c = eqV (flatOf a) (flatOf c) := by
  cases a <;> cases c <;> first
    | rfl
    | (show eqI _ _ = (_ == _); rw [eqI_dec]; rfl)
    | (show eqS _ _ = (_ == _); rw [eqS_dec]; rfl)
    | (cases hc; done)
    | (cases ha; done)
theorem flat_rvs : ∀ {ws : List W} {vs : List V}, ws.all flatW = true → RVs f.K f.G g ws vs → vs = ws.map flatOf ∧ vs.all flatV = true
  | [], _, _, .nil => ⟨rfl, rfl⟩
  | w :: ws, _, h, .cons a r => by
    rw [List.all_cons, Bool.and_eq_true] at h
    obtain ⟨e1, e2⟩ := flat_rv h.1 a
    obtain ⟨e3, e4⟩ := flat_rvs h.2 r
    refine ⟨by rw [List.map_cons, ← e1, ← e3], ?_⟩
    rw [List.all_cons, e2, e4]
    rfl
theorem hasW_V {w : W} (hw : flatW w = true) : ∀ {ws : List W}, ws.all flatW = true → hasW w ws = inV (flatOf w) (ws.map flatOf)
  | [], _ => rfl
  | u :: ws, h => by
    rw [List.all_cons, Bool.and_eq_true] at h
    have ih := hasW_V hw h.2
    unfold hasW inV at ih ⊢
    rw [List.any_cons, List.map_cons, List.any_cons, eqF_V h.1 hw, ih]
theorem keyOf_V {w : W} {k : Ky} (h : keyOf w = some k) {v : V} (r : PV f g H w v) : v = kV k := by
  cases w with
  | int i => cases h; exact r.int
  | str x => cases h; exact r.str
  | _ => cases h
theorem lookK_some : ∀ {ws : List (Ky × W)} {vs : List (Key × V)} {k : Ky} {w : W}, RVk f.K f.G g ws vs → lookK ws k = some w → ∃ v, valV vs k = some v ∧ RV f.K f.G g w v
  | _, _, _, _, .nil, h => by cases h
  | _, _, k, w, .cons (k := k') (ws := ws) (vs := vs) a r, h => by
    unfold lookK at h
    rw [eqK_dec] at h
    by_cases e : k' = k
    · rw [decide_eq_true e] at h
      cases h
      exact ⟨_, valV_pos (p := (k', _)) e, a⟩
    · rw [decide_eq_false e] at h
      obtain ⟨v, h1, h2⟩ := lookK_some r h
      exact ⟨v, by rw [valV_neg (p := (k', _)) e]; exact h1, h2⟩
theorem lookK_none : ∀ {ws : List (Ky × W)} {vs : List (Key × V)} {k : Ky}, RVk f.K f.G g ws vs → lookK ws k = none → valV vs k = none
  | _, _, _, .nil, _ => rfl
  | _, _, k, .cons (k := k') (ws := ws) (vs := vs) a r, h => by
    unfold lookK at h
    rw [eqK_dec] at h
    by_cases e : k' = k
    · rw [decide_eq_true e] at h
      cases h
    · rw [decide_eq_false e] at h
      rw [valV_neg (p := (k', _)) e]
      exact lookK_none r h
theorem lookK_is {ws : List (Ky × W)} {vs : List (Key × V)} {k : Ky} (r : RVk f.K f.G g ws vs) : (lookK ws k).isSome = (valV vs k).isSome := by
  cases h : lookK ws k with
  | none => rw [lookK_none r h]; rfl
  | some w =>
    obtain ⟨v, h1, _⟩ := lookK_some r h
    rw [h1]; rfl
theorem RVk.app1 {k : Ky} {w : W} {v : V} (a : RV f.K f.G g w v) : ∀ {ws : List (Ky × W)} {vs : List (Key × V)}, RVk f.K f.G g ws vs → RVk f.K f.G g (ws ++ [(k, w)]) (vs ++ [(k, v)])
  | _, _, .nil => .cons a .nil
  | _, _, .cons c r => .cons c (RVk.app1 a r)
theorem hasK_V : ∀ {ws : List (Ky × W)} {vs : List (Key × V)} {k : Ky}, RVk f.K f.G g ws vs → hasK ws k = vs.any fun kv => decide (kv.1 = k)
  | _, _, _, .nil => rfl
  | _, _, k, .cons (k := k') a r => by
    unfold hasK
    rw [List.any_cons, eqK_dec, hasK_V r]
    by_cases e : k' = k
    · rw [decide_eq_true e]; simp [e]
    · rw [decide_eq_false e]; simp [e]
theorem mapK_V {k : Ky} {w : W} {v : V} (a : RV f.K f.G g w v) : ∀ {ws : List (Ky × W)} {vs : List (Key × V)}, RVk f.K f.G g ws vs → RVk f.K f.G g (mapK ws k w) (vs.map fun kv => if kv.1 = k then (kv.1, v) else kv)
  | _, _, .nil => .nil
  | _, _, .cons (k := k') (w := w') (v := v') c r => by
    unfold mapK
    rw [List.map_cons, eqK_dec]
    by_cases e : k' = k
    · rw [decide_eq_true e, if_pos e]
      exact .cons a (mapK_V a r)
    · rw [decide_eq_false e, if_neg e]
      exact .cons c (mapK_V a r)
theorem putK_V {k : Ky} {w : W} {v : V} (a : RV f.K f.G g w v) {ws : List (Ky × W)} {vs : List (Key × V)} (r : RVk f.K f.G g ws vs) : RVk f.K f.G g (Ev.putK ws k w) (L2.putK vs k v) := by
  unfold Ev.putK L2.putK
  rw [hasK_V r]
  cases e : vs.any fun kv => decide (kv.1 = k) with
  | true =>
    rw [if_pos rfl]
    exact mapK_V a r
  | false =>
    rw [if_neg (by decide)]
    exact RVk.app1 a r
theorem inW_ok (hu : X.A.units + 64 < cLine) (hK : X.K = f.K) (R : Rl f g b sl σ H) (px : PV f g H x vx) (py : PV f g H y vy) {P : Bool → Nat → Prop} (h : (inW x y).wb b P) :
    ∃ c, P c b ∧ ∀ Q : VK, (Q (.bl c) H → OpW X (compareOp .In) vx vy H Q) ∧ (Q (.bl (!c)) H → OpW X (compareOp .NotIn) vx vy H Q) := by
  cases y with
  | tup xs =>
    obtain ⟨c, h⟩ := T.wb_guard (show (T.guard (flatW x && xs.all flatW) (.ok (hasW x xs))).wb b P from h)
    rw [Bool.and_eq_true] at c
    obtain ⟨a, vs, rfl, q, r⟩ := py.tup R.sub
    obtain ⟨e1, e2⟩ := flat_pv c.1 px
    obtain ⟨e3, e4⟩ := flat_rvs c.2 r
    refine ⟨_, h, fun Q => ?_⟩
    rw [hasW_V c.1 c.2, ← e1, ← e3]
    rw [← hK] at q
    exact ⟨fun z => .of op_in_seq ⟨a, vs, rfl, .inr q, e2, e4, z⟩, fun z => .of op_notIn_seq ⟨a, vs, rfl, .inr q, e2, e4, z⟩⟩
  | lst xs =>
    obtain ⟨c, h⟩ := T.wb_guard (show (T.guard (flatW x && xs.all flatW) (.ok (hasW x xs))).wb b P from h)
    rw [Bool.and_eq_true] at c
    obtain ⟨a, vs, rfl, q, r⟩ := py.lst R.sub
    obtain ⟨e1, e2⟩ := flat_pv c.1 px
    obtain ⟨e3, e4⟩ := flat_rvs c.2 r
    refine ⟨_, h, fun Q => ?_⟩
    rw [hasW_V c.1 c.2, ← e1, ← e3]
    exact ⟨fun z => .of op_in_seq ⟨a, vs, rfl, .inl (.inl (.inl q)), e2, e4, z⟩, fun z => .of op_notIn_seq ⟨a, vs, rfl, .inl (.inl (.inl q)), e2, e4, z⟩⟩
  | dct kvs =>
    have h : (match keyOf x with | some k => T.ok (lookK kvs k).isSome | none => T.stk).wb b P := h
    cases hk : keyOf x with
    | none => rw [hk] at h; exact h.elim
    | some k =>
      rw [hk] at h
      obtain ⟨a, vs, rfl, q, r⟩ := py.dct R.sub
      have e1 := keyOf_V hk px
      have g0 : DGet H a vx (valV vs k) := .inl ⟨vs, k, .inl q, e1, rfl⟩
      refine ⟨_, h, fun Q => ?_⟩
      rw [lookK_is r]
      refine ⟨fun z => fun pins s σ' v u I rx ry => ?_, fun z => fun pins s σ' v u I rx ry => ?_⟩
      · obtain rfl : u = Value.ref a := ry
        exact d_in (by omega) I g0 rx fun s3 I3 => ⟨.bl _, H, I3, rfl, z⟩
      · obtain rfl : u = Value.ref a := ry
        exact d_notIn (by omega) I g0 rx fun s3 I3 => ⟨.bl _, H, I3, rfl, z⟩
  | _ => exact h.elim
theorem yes_wb {t : T Bool} {P : R → Nat → Prop} (h : (yes t).wb b P) : t.wb b fun c b' => P (.bl c, false) b' := T.wb_bind.mp h
theorem nay_wb {t : T Bool} {P : R → Nat → Prop} (h : (nay t).wb b P) : t.wb b fun c b' => P (.bl (!c), false) b' := T.wb_bind.mp h
theorem op2_ok (o : Op2) (hu : X.A.units + 64 < cLine) (hK : X.K = f.K) (R : Rl f g b sl σ H) (px : PV f g H x vx) (py : PV f g H y vy) (h : (op2 o x y).wb b (Want f g sl σ Q)) : OpW X (opF o) vx vy H Q := by
  have wB : ∀ {c : Bool}, Want f g sl σ Q (.bl c, false) b → Q (.bl c) H := fun {c} z => wantB R (c := c) z
  cases o with
  | add => exact add_ok hK R px py h
  | sub =>
    obtain ⟨i, j, rfl, rfl, h⟩ := two_wb h
    rw [px.int, py.int]
    exact .of op_sub ⟨i, j, rfl, rfl, wantI R h⟩
  | mul => exact mul_ok hK R px py h
  | fdiv =>
    obtain ⟨i, j, rfl, rfl, h⟩ := two_wb h
    rw [px.int, py.int]
    obtain ⟨c, h⟩ := T.wb_guard h
    rw [Bool.and_eq_true, decide_eq_true_eq, decide_eq_true_eq] at c
    exact .of op_fdiv ⟨i, j, rfl, rfl, c, wantI R h⟩
  | mod =>
    obtain ⟨i, j, rfl, rfl, h⟩ := two_wb h
    rw [px.int, py.int]
    obtain ⟨c, h⟩ := T.wb_guard h
    rw [decide_eq_true_eq] at c
    exact .of op_mod ⟨i, j, rfl, rfl, c, wantI R h⟩
  | pow =>
    obtain ⟨i, j, rfl, rfl, h⟩ := two_wb h
    rw [px.int, py.int]
    obtain ⟨c, h⟩ := T.wb_guard h
    simp only [Bool.and_eq_true, decide_eq_true_eq] at c
    exact .of op_pow ⟨i, j, rfl, rfl, ⟨c.1.1, c.1.2, c.2⟩, wantI R h⟩
  | bor =>
    obtain ⟨i, j, rfl, rfl, h⟩ := two_wb h
    rw [px.int, py.int]
    exact .of op_or ⟨i, j, rfl, rfl, wantI R h⟩
  | band =>
    obtain ⟨i, j, rfl, rfl, h⟩ := two_wb h
    rw [px.int, py.int]
    exact .of op_and ⟨i, j, rfl, rfl, wantI R h⟩
  | eq =>
    obtain ⟨c, z, q⟩ := eqW_ok hu hK R px py (yes_wb h)
    exact (q Q).1 (wB z)
  | ne =>
    obtain ⟨c, z, q⟩ := eqW_ok hu hK R px py (nay_wb h)
    exact (q Q).2 (wB z)
  | lt =>
    obtain ⟨i, j, rfl, rfl, h⟩ := two_wb h
    rw [px.int, py.int]
    exact .of op_lt ⟨i, j, rfl, rfl, wantB R h⟩
  | le =>
    obtain ⟨i, j, rfl, rfl, h⟩ := two_wb h
    rw [px.int, py.int]
    exact .of op_le ⟨i, j, rfl, rfl, wantB R h⟩
  | gt =>
    obtain ⟨i, j, rfl, rfl, h⟩ := two_wb h
    rw [px.int, py.int]
    exact .of op_gt ⟨i, j, rfl, rfl, wantB R h⟩
  | ge =>
    obtain ⟨i, j, rfl, rfl, h⟩ := two_wb h
    rw [px.int, py.int]
    exact .of op_ge ⟨i, j, rfl, rfl, wantB R h⟩
  | is =>
    obtain ⟨c, z, q⟩ := isW_ok (X := X) px py (yes_wb h)
    exact (q Q).1 (wB z)
  | isnot =>
    obtain ⟨c, z, q⟩ := isW_ok (X := X) px py (nay_wb h)
    exact (q Q).2 (wB z)
  | isin =>
    obtain ⟨c, z, q⟩ := inW_ok hu hK R px py (yes_wb h)
    exact (q Q).1 (wB z)
  | notin =>
    obtain ⟨c, z, q⟩ := inW_ok hu hK R px py (nay_wb h)
    exact (q Q).2 (wB z)
end
end Ev
end
section
set_option Elab.async false
set_option linter.all false
set_option maxRecDepth 100000
set_option maxHeartbeats 2000000
/-! EvBi: subscripts, slices, built-in functions and methods by values. -/
namespace Ev
open PySem L2
open PyProof.Rows (tail_any subscriptTail)
set_option autoImplicit false

def CallW (X : Cx) (fv : Value) (vs : List V) (H : Hp) (Q : VK) : Prop :=
  ∀ (pins : List (Addr × Obj)) (s : Shared) (σ : St) (us : List Value), Inv X pins σ H s → Vals vs us → wpAny (model X.prog X.w) X.A (call fv us) (EP X pins σ Q) X.xe s
theorem CallW.of {X : Cx} {fv : Value} {r : List V → Hp → VK → Prop} {vs : List V} {H : Hp} {Q : VK} (h : CallR X fv r) (q : r vs H Q) : CallW X fv vs H Q :=
  fun pins s σ us I rv => h pins s σ H vs us Q I rv q
def MtWt (X : Cx) (id : String) (x : V) (vs : List V) (H : Hp) (Q : VK) : Prop :=
  ∀ (pins : List (Addr × Obj)) (s : Shared) (σ : St) (v : Value) (us : List Value), Inv X pins σ H s → RelV x v → Vals vs us → wpAny (model X.prog X.w) X.A (call (.builtin id) (v :: us)) (EP X pins σ Q) X.xe s
def IxW (X : Cx) (x y : V) (H : Hp) (Q : VK) : Prop :=
  ∀ (value slice : Expr) (pins : List (Addr × Obj)) (s : Shared) (σ : St) (v u : Value), Inv X pins σ H s → RelV x v → RelV y u →
    subscripted slice false v u = operate [v, u] (getItem v u) → wpAny (model X.prog X.w) X.A (subscriptTail value slice v u) (EP X pins σ Q) X.xe s
theorem IxW.of {X : Cx} {r : R2} {x y : V} {H : Hp} {Q : VK} (h : IxR X r) (q : r x y H Q) : IxW X x y H Q :=
  fun value slice pins s σ v u I rx ry hs => h value slice pins s σ H x y v u Q I rx ry q hs

theorem ixOf_N (n : Nat) (i : Int) : ixOf n i = ixN n i := rfl
theorem cut_ix (n d : Nat) (o : Option Int) : cutIx n d o = HT.sIx n d o := by cases o <;> rfl

section
variable {X : Cx} {f : Fm} {g : Gh} {b : Nat} {sl : Sl} {σ : St} {H : Hp} {Q : VK} {x y : W} {vx vy : V}
/-- an item -/
theorem seqAt_ok {xs : List W} {vs : List V} {i : Int} {P : W → Nat → Prop} (r : RVs f.K f.G g xs vs) (h : (seqAt xs i).wb b P) : ∃ w v, P w b ∧ atI vs i = some v ∧ RV f.K f.G g w v := by
  unfold seqAt at h
  cases e : ixOf xs.length i with
  | none => rw [e] at h; exact h.elim
  | some j =>
    rw [e] at h
    obtain ⟨w, h1, h2⟩ := T.wb_opt h
    rw [nth_eq] at h1
    obtain ⟨v, h3, h4⟩ := r.get h1
    refine ⟨w, v, h2, ?_, h4⟩
    unfold atI
    rw [← r.len, ← ixOf_N, e]
    exact h3
theorem idx_ok (hu : X.A.units + 64 < cLine) (hK : X.K = f.K) (R : Rl f g b sl σ H) (px : PV f g H x vx) (py : PV f g H y vy) {P : W → Nat → Prop} (h : (idxW x y).wb b P)
    (hP : ∀ w v, P w b → RV f.K f.G g w v → Q v H) : IxW X vx vy H Q := by
  unfold idxW at h
  cases x with
  | tup xs =>
    cases y <;> first
      | exact h.elim
      | skip
    rename_i i
    rw [py.int]
    obtain ⟨a, vs, rfl, q, r⟩ := px.tup R.sub
    obtain ⟨w, v, h1, h2, h3⟩ := seqAt_ok r h
    rw [← hK] at q
    exact .of ix_tup ⟨a, vs, i, v, rfl, rfl, q, h2, hP w v h1 h3⟩
  | lst xs =>
    cases y <;> first
      | exact h.elim
      | skip
    rename_i i
    rw [py.int]
    obtain ⟨a, vs, rfl, q, r⟩ := px.lst R.sub
    obtain ⟨w, v, h1, h2, h3⟩ := seqAt_ok r h
    exact .of ix_list ⟨a, vs, i, v, rfl, rfl, .inl (.inl q), h2, hP w v h1 h3⟩
  | dct kvs =>
    have h : (match keyOf y with | some k => T.ofOpt (lookK kvs k) | none => T.stk).wb b P := h
    cases hk : keyOf y with
    | none => rw [hk] at h; exact h.elim
    | some k =>
      rw [hk] at h
      obtain ⟨a, vs, rfl, q, r⟩ := px.dct R.sub
      obtain ⟨w, h1, h2⟩ := T.wb_opt h
      obtain ⟨v, h3, h4⟩ := lookK_some r h1
      have g0 : DGet H a vy (some v) := .inl ⟨vs, k, .inl q, keyOf_V hk py, h3.symm⟩
      intro value slice pins s σ' vv u I rx ry hs
      obtain rfl : vv = Value.ref a := rx
      exact tail_any (dict_typeIs I g0) PySem.F.slot_dict_getitem.lookup (d_getItem (by omega) I g0 ry fun w' s3 I3 rw' => ⟨v, H, I3, rw', hP w v h2 h4⟩) hs
  | _ => exact h.elim
/-- slices -/
theorem cut_ok {xs : List W} {vs : List V} {lo hi : Option Int} (r : RVs f.K f.G g xs vs) : RVs f.K f.G g (cut xs lo hi) (cutV vs lo hi) := by
  unfold cut cutV
  rw [cut_ix, cut_ix, r.len]
  exact (r.drop _).take _
theorem sli_ok (hK : X.K = f.K) (R : Rl f g b sl σ H) (px : PV f g H x vx) {lo hi : Option Int} (h : (sliW x lo hi).wb b (Want f g sl σ Q)) :
    rSlA X.K vx lo hi H Q ∨ rSlL X.K vx lo hi H Q := by
  unfold sliW at h
  cases x with
  | tup xs =>
    obtain ⟨a, vs, rfl, q, r⟩ := px.tup R.sub
    have hw : Want f g sl σ Q (.tup (cut xs lo hi), false) b := h
    rw [← hK] at q
    refine .inl ⟨a, vs, rfl, q, fun e => ?_, fun e p hp => ?_⟩
    · have e' : cut xs lo hi = xs := by
        unfold cut
        rw [cut_ix, cut_ix, r.len, e.1, e.2, List.drop_zero, Nat.sub_zero, ← r.len, List.take_length]
      rw [e'] at hw
      rcases px with px | ⟨_, _, px⟩
      · exact hw g _ H (Gh.le.refl g) R px
      · exact px.elim
    · obtain ⟨g', l, R', rv⟩ := R.newT hp (cut_ok (lo := lo) (hi := hi) r)
      exact hw g' _ _ l R' rv
  | lst xs =>
    obtain ⟨a, vs, rfl, q, r⟩ := px.lst R.sub
    have hw : Want f g sl σ Q (.lst (cut xs lo hi), true) b := h
    refine .inr ⟨a, vs, rfl, .inl (.inl q), fun p hp => ?_⟩
    obtain ⟨R', w⟩ := R.newL hp (cut_ok (lo := lo) (hi := hi) r)
    exact hw g _ _ (Gh.le.refl g) R' w
  | _ => exact h.elim

/-! ### sorting -/
theorem insI_perm (x : Int) : ∀ l : List Int, (insI x l).Perm (x :: l)
  | [] => List.Perm.refl _
  | y :: r => by
    unfold insI
    split
    · exact List.Perm.refl _
    · exact ((insI_perm x r).cons y).trans (List.Perm.swap x y r)
theorem sortI_perm : ∀ l : List Int, (sortI l).Perm l
  | [] => List.Perm.refl _
  | x :: r => (insI_perm x (sortI r)).trans ((sortI_perm r).cons x)
theorem insI_sorted (x : Int) : ∀ l : List Int, l.Pairwise (· ≤ ·) → (insI x l).Pairwise (· ≤ ·)
  | [], _ => by simp [insI]
  | y :: r, h => by
    unfold insI
    split
    · rename_i hxy
      rw [List.pairwise_cons] at h ⊢
      refine ⟨fun z hz => ?_, ?_⟩
      · rcases List.mem_cons.mp hz with rfl | hz
        · exact hxy
        · have := h.1 z hz
          omega
      · rw [List.pairwise_cons]
        exact h
    · rename_i hxy
      rw [List.pairwise_cons] at h ⊢
      refine ⟨fun z hz => ?_, insI_sorted x r h.2⟩
      rcases List.mem_cons.mp ((insI_perm x r).mem_iff.mp hz) with rfl | hz
      · omega
      · exact h.1 z hz
theorem sortI_sorted : ∀ l : List Int, (sortI l).Pairwise (· ≤ ·)
  | [] => List.Pairwise.nil
  | x :: r => insI_sorted x _ (sortI_sorted r)
theorem sorted_one : ∀ {a c : List Int}, a.Perm c → a.Pairwise (· ≤ ·) → c.Pairwise (· ≤ ·) → a = c := fun h1 h2 h3 =>
  List.Perm.eq_of_pairwise (fun _ _ _ _ h h' => Int.le_antisymm h h') h2 h3 h1
theorem intsOf_some : ∀ {xs : List W} {is : List Int}, intsOf xs = some is → xs = is.map W.int
  | [], _, h => by cases h; rfl
  | x :: r, is, h => by
    cases x with
    | int i =>
      have h : (intsOf r).map (i :: ·) = some is := h
      cases e : intsOf r with
      | none => rw [e] at h; cases h
      | some js =>
        rw [e] at h
        cases h
        rw [intsOf_some e]
        rfl
    | _ => cases h
theorem rvs_ints : ∀ {is : List Int} {vs : List V}, RVs f.K f.G g (is.map W.int) vs → vs = is.map V.int
  | [], _, .nil => rfl
  | i :: is, _, .cons a r => by
    cases a
    rw [rvs_ints r]
    rfl
theorem ints_rvs : ∀ (is : List Int), RVs f.K f.G g (is.map W.int) (is.map V.int)
  | [] => .nil
  | i :: is => .cons (.int i) (ints_rvs is)
theorem rvk_keys : ∀ {kvs : List (Ky × W)} {vs : List (Key × V)}, RVk f.K f.G g kvs vs → vs.map (·.1) = kvs.map (·.1)
  | _, _, .nil => rfl
  | _, _, .cons (k := k) a r => by
    rw [List.map_cons, List.map_cons, rvk_keys r]
theorem keysI_some : ∀ {kvs : List (Ky × W)} {is : List Int}, keysI kvs = some is → kvs.map (·.1) = is.map Sum.inl
  | [], _, h => by cases h; rfl
  | (k, w) :: r, is, h => by
    cases k with
    | inl i =>
      have h : (keysI r).map (i :: ·) = some is := h
      cases e : keysI r with
      | none => rw [e] at h; cases h
      | some js =>
        rw [e] at h
        cases h
        rw [List.map_cons, keysI_some e]
        rfl
    | inr _ => cases h
/-- sorted of what collects to ints -/
theorem sorted_by {v : Value} {ns : List Int} (hn : ns.length ≤ sizeLine) {pins : List (Addr × Obj)} {s : Shared} {σ' : St} (I : Inv X pins σ' H s)
    (hc : ∀ {A : Around} {R : List Value → Shared → Prop} {E : Value → Shared → Prop}, A.handled = none → (∀ h' tk vs, (∀ a o, s.heap.get? a = some o → h'.get? a = some o) → PyProof.Rows.IntsAre vs ns → R vs { s with heap := h', toks := tk }) → wpAny (model X.prog X.w) A (collect v) R E s)
    (hh : X.A.handled = none) (q : ∀ p, H p = none → Q (.ref p) (upd H p (.lst ((sortI ns).map V.int)))) : wpAny (model X.prog X.w) X.A (call (.builtin "sorted") [v]) (EP X pins σ' Q) X.xe s := by
  refine Calls.call_function_entry PyProof.Rows.kind_sorted PyProof.Rows.plain_sorted PyProof.Rows.entry_sorted (PyProof.Rows.args_sorted1 _) ?_
  unfold Builtin.«sorted»
  refine wpAny_bind (m := checkCount "sorted" 1 1 _) (wpAny_pure (wpAny_bind (hc (A := X.A.in1) hh fun h' tk vs hk hi => ?_)))
  have I1 : Inv X pins σ' H { s with heap := h', toks := tk } := I.kept hk
  have hl : vs.length ≤ sizeLine := by rw [hi.length]; exact hn
  refine wpAny_bind (wpAny_newList ?_ hl)
  have hob : (h'.push (PyProof.Rows.seqObj "list" vs.toArray 0)).get? h'.objs.size = some (PyProof.Rows.seqObj "list" vs.toArray 0) := Heap.get?_push_size _ rfl
  show wpAny _ _ _ _ _ { s with heap := h'.push (PyProof.Rows.seqObj "list" vs.toArray 0), toks := tk }
  refine wpAny_bind (wpAny_holding (wpAny_call_entry PyProof.Rows.slot_list_sort ⟨_, hob, rfl⟩ PyProof.Rows.entry_list_sort
    (PyProof.Rows.list_sort_treeAny (s := { s with heap := h'.push (PyProof.Rows.seqObj "list" vs.toArray 0), toks := tk }) hob hi hl fun out ys g1 g2 g3 => ⟨_, rfl, ?_⟩) (PyProof.Rows.args_list_sort _)))
  have ey : ys = sortI ns := sorted_one (g2.trans (sortI_perm ns).symm) g3 (sortI_sorted ns)
  subst ey
  obtain ⟨ep, hep⟩ := PyProof.Rows.sortedHeap_at (vs := vs) (out := out) hob
  have hz : ((sortI ns).map V.int).length ≤ sizeLine := by rw [List.length_map, (sortI_perm ns).length_eq]; exact hn
  refine wpAny_pure ⟨_, rfl, .ref h'.objs.size, upd H h'.objs.size (.lst ((sortI ns).map V.int)), I1.laid (t' := tk) (fun c u e => ?_) (Nat.le_refl _)
    (show ObjOk X.prog X.w _ _ _ (.lst ((sortI ns).map V.int)) from ⟨hz, out.toList, ep, vals_of_ints g1, by rw [Array.toArray_toList]; exact hep⟩), rfl, q _ (I1.hok.fresh (Nat.le_refl _))⟩
  have hlt : c < h'.objs.size := Heap.lt_size e
  rw [PyProof.Rows.sortedHeap_old (Nat.ne_of_lt hlt) (by rw [PyProof.Rows.size_push']; exact Nat.lt_succ_of_lt hlt)]
  exact Heap.get?_push_of_some _ e

/-! ### built-in functions -/
def biV : Bi → Value
  | .len => .builtin "len"
  | .int => .type "int"
  | .repr => .builtin "repr"
  | .tuple => .type "tuple"
  | .list => .type "list"
  | .sum => .builtin "sum"
  | .sorted => .builtin "sorted"
  | .dict => .type "dict"
  | .min2 => .builtin "min"
  | .max2 => .builtin "max"
  | .abs => .builtin "abs"
  | _ => .builtin "isinstance"
/-- the class that isinstance is asked of -/
def biT : Bi → Option String
  | .isInt => some "int"
  | .isBool => some "bool"
  | .isStr => some "str"
  | .isTuple => some "tuple"
  | .isList => some "list"
  | .isDict => some "dict"
  | _ => none
def biX (b : Bi) : List V := match biT b with
  | some t => [.ty t]
  | none => []
theorem tup_ty {a : Addr} {vs : List V} {K : PySem.W.Frag} {o : HO} (q : SqT K H a vs) : TyX K H (.ref a) (.type "tuple") := by
  rcases q with q | ⟨o, its, n, h1, h2, _⟩
  · rcases q with q | ⟨o, q⟩
    · exact .base (.tup q)
    · exact .fTuple q
  · exact .kTuple h1 h2
theorem isi_ok (hK : X.K = f.K) (R : Rl f g b sl σ H) (px : PV f g H x vx) {t : Bi} {n : String} (hn : biT t = some n) {P : Bool → Nat → Prop} (h : (isInst t x).wb b P) :
    ∃ c, P c b ∧ ∀ Q : VK, Q (.bl c) H → CallW X (.builtin "isinstance") [vx, .ty n] H Q := by
  have go : ∀ {ty : String} {c : Bool}, TyX X.K H vx (.type ty) → kitB ty n = some c → ∀ Q : VK, Q (.bl c) H → CallW X (.builtin "isinstance") [vx, .ty n] H Q := fun {ty c} h1 h2 Q q =>
    .of call_isi ⟨vx, .ty n, .type ty, .type n, c, rfl, .ty n, h1, kit_ty h2, q⟩
  cases x with
  | non =>
    rw [px.non] at go ⊢
    refine ⟨_, h, go (.base .non) ?_⟩
    cases t <;> first | (cases hn; done) | (cases hn; decide +kernel)
  | bl c =>
    rw [px.bl] at go ⊢
    refine ⟨_, h, go (.base (.bl c)) ?_⟩
    cases t <;> first | (cases hn; done) | (cases hn; decide +kernel)
  | int i =>
    rw [px.int] at go ⊢
    refine ⟨_, h, go (.base (.int i)) ?_⟩
    cases t <;> first | (cases hn; done) | (cases hn; decide +kernel)
  | str z =>
    rw [px.str] at go ⊢
    refine ⟨_, h, go (.base (.str z)) ?_⟩
    cases t <;> first | (cases hn; done) | (cases hn; decide +kernel)
  | tup xs =>
    obtain ⟨a, vs, rfl, q, r⟩ := px.tup R.sub
    rw [← hK] at q
    refine ⟨_, h, go (tup_ty (o := .tup []) q) ?_⟩
    cases t <;> first | (cases hn; done) | (cases hn; decide +kernel)
  | lst xs =>
    obtain ⟨a, vs, rfl, q, r⟩ := px.lst R.sub
    refine ⟨_, h, go (.base (.lst q)) ?_⟩
    cases t <;> first | (cases hn; done) | (cases hn; decide +kernel)
  | _ => exact h.elim

/-! ### repr -/
mutual
theorem shown_room : ∀ (d : PyData), d.hasDict = false → d.shown.length ≤ roomD d
  | .none, _ => by decide +kernel
  | .bool true, _ => by decide +kernel
  | .bool false, _ => by decide +kernel
  | .int i, _ => by
    have h : (toString i).length ≤ (i.natAbs.log2 + 1) + 1 := int_text_length_le (Nat.succ_pos _) (Nat.lt_succ_self _)
    show (Str.ofString (toString i)).length ≤ i.natAbs.log2 + 3
    rw [ofString_length]
    omega
  | .str x, _ => Nat.le_refl _
  | .list xs, h => by
    have e := listText_len_le (PyData.shownAll xs)
    have e2 := shown_rooms xs h
    show (listText (PyData.shownAll xs)).length ≤ roomDs xs + 3
    rw [PyData.shownAll_length] at e
    omega
  | .tuple xs, h => by
    have e := tupleText_len_le (PyData.shownAll xs)
    have e2 := shown_rooms xs h
    show (tupleText (PyData.shownAll xs)).length ≤ roomDs xs + 3
    rw [PyData.shownAll_length] at e
    omega
  | .dict _, h => by cases h
theorem shown_rooms : ∀ (ds : List PyData), PyData.hasDictAll ds = false → ((PyData.shownAll ds).map (·.length)).sum + 2 * ds.length ≤ roomDs ds
  | [], _ => Nat.le_refl _
  | d :: ds, h => by
    have h : (d.hasDict || PyData.hasDictAll ds) = false := h
    rw [Bool.or_eq_false_iff] at h
    have e1 := shown_room d h.1
    have e2 := shown_rooms ds h.2
    show ((d.shown :: PyData.shownAll ds).map (·.length)).sum + 2 * (ds.length + 1) ≤ roomD d + 2 + roomDs ds
    rw [List.map_cons, List.sum_cons]
    omega
end
theorem repr_ok (hu : X.A.units + 70 < cLine) (hg : X.A.guards = some []) {v : V} {d : PyData} (hd : Dp X.K H v d) (ho : reprOk d = true) (q : Q (.str d.shown) H) : CallW X (.builtin "repr") [v] H Q := by
  unfold reprOk at ho
  simp only [Bool.and_eq_true, decide_eq_true_eq, Bool.not_eq_true'] at ho
  obtain ⟨h1, ⟨h2, h3⟩, h4⟩ := ho
  have hz : d.shown.length ≤ sizeLine := Nat.le_trans (shown_room d h3) h2
  intro pins s σ' us I rv
  obtain ⟨u, rfl, ru⟩ := vals1 rv
  obtain ⟨as, r⟩ := Dp.reads I d v u hd ru
  have old : ∀ a, u = .ref a → wpAny (model X.prog X.w) X.A (call (.builtin "repr") [u]) (EP X pins σ' Q) X.xe s := fun a e => by
    subst e
    refine repr_of_reads' r h1 (fun z => by rw [h3] at z; cases z) hg (by omega) (fun _ _ z => z) (fun h' t tk hk => ?_) hz
    exact ⟨.str d.shown, H, I.kept hk, ⟨t, rfl⟩, q⟩
  cases hd with
  | non => cases ru; exact P.repr_of_none ⟨.str _, H, I.tok _, ⟨_, rfl⟩, q⟩
  | bl c => cases ru; exact P.repr_of_bool ⟨.str _, H, I.tok _, ⟨_, by cases c <;> rfl⟩, q⟩
  | int i =>
    obtain ⟨t, rfl⟩ := ru
    exact P.repr_of_int (of_decide_eq_true h1) ⟨.str _, H, I.tok _, ⟨_, rfl⟩, q⟩
  | str x =>
    obtain ⟨t, rfl⟩ := ru
    exact P.repr_of_str ⟨.str _, H, I.tok _, ⟨_, rfl⟩, q⟩ hz
  | lst _ _ => exact old _ ru
  | tup _ _ => exact old _ ru

/-! ### dict(pairs) -/
theorem pairs_ok {K : PySem.W.Frag} (e : Same g.F H) (hK : K = f.K) : ∀ {xs : List W} {vs : List V} {ps : List (Ky × W)}, pairsOf xs = some ps → RVs f.K f.G g xs vs → ∃ (as : List Addr) (kvs : List (Key × V)), vs = as.map V.ref ∧ Paired (fun p kv => SqT K H p [kV kv.1, kv.2]) as kvs ∧ RVk f.K f.G g ps kvs
  | [], _, _, h, .nil => by
    cases h
    exact ⟨[], [], rfl, .nil, .nil⟩
  | x :: xs, _, ps, h, .cons a r => by
    cases a with
    | tup q rr =>
      rename_i p vs' ws
      cases ws with
      | nil => cases h
      | cons k ws =>
        cases ws with
        | nil => cases h
        | cons w ws =>
          cases ws with
          | cons _ _ => cases h
          | nil =>
            have h : (match keyOf k, pairsOf xs with | some k, some ps => some ((k, w) :: ps) | _, _ => none) = some ps := h
            cases hk : keyOf k with
            | none => rw [hk] at h; cases h
            | some k' =>
              cases hp : pairsOf xs with
              | none => rw [hk, hp] at h; cases h
              | some ps' =>
                rw [hk, hp] at h
                cases h
                cases rr with
                | @cons _ vk _ _ rk rr =>
                  cases rr with
                  | @cons _ vw _ _ rw' rr =>
                    cases rr
                    obtain ⟨as, kvs, e1, e2, e3⟩ := pairs_ok e hK hp r
                    have ek : vk = kV k' := keyOf_V (H := H) hk (.inl rk)
                    subst ek
                    refine ⟨p :: as, (k', vw) :: kvs, by rw [e1]; rfl, .cons ?_ e2, .cons rw' e3⟩
                    rw [hK]
                    exact SqT.le e q
    | _ => cases h
theorem merge_ok : ∀ {ps : List (Ky × W)} {kvs : List (Key × V)}, RVk f.K f.G g ps kvs → ∀ {acc : List (Ky × W)} {acc' : List (Key × V)}, RVk f.K f.G g acc acc' → RVk f.K f.G g (ps.foldl (fun d p => Ev.putK d p.1 p.2) acc) (mergeK acc' kvs)
  | _, _, .nil, _, _, ra => ra
  | _, _, .cons (ws := ws) (vs := vs) a r, _, _, ra => merge_ok (ps := ws) (kvs := vs) r (putK_V a ra)

theorem intsEach : ∀ {ks : List Int} {us : List Value}, us.length = ks.length → (∀ (j : Nat) u, us[j]? = some u → ∃ x t, ks[j]? = some x ∧ u = .int x t) → PyProof.Rows.IntsAre us ks
  | [], [], _, _ => .nil
  | [], _ :: _, h, _ => by cases h
  | _ :: _, [], h, _ => by cases h
  | k :: ks, u :: us, h, e => by
    obtain ⟨x, t, e1, rfl⟩ := e 0 u rfl
    cases e1
    refine .cons _ _ (intsEach (Nat.succ.inj h) fun j v ev => ?_)
    obtain ⟨y, s, e2, e3⟩ := e (j + 1) v ev
    exact ⟨y, s, e2, e3⟩
/-! ### all built-ins -/
structure Bx (X : Cx) (f : Fm) : Prop where
  hK : X.K = f.K
  hu : X.A.units + 70 < cLine
  hg : X.A.guards = some []
  calm : X.calm = true
theorem Bx.u64 (B : Bx X f) : X.A.units + 64 < cLine := by have := B.hu; omega
theorem bi1_ok (B : Bx X f) (hh : X.A.handled = none) (R : Rl f g b sl σ H) (px : PV f g H x vx) (t : Bi) (h : (bi1 t x).wb b (Want f g sl σ Q)) : CallW X (biV t) (vx :: biX t) H Q := by
  have isi : ∀ {t : Bi} {n : String}, biT t = some n → (yes (isInst t x)).wb b (Want f g sl σ Q) → CallW X (.builtin "isinstance") [vx, .ty n] H Q := fun {t n} hn z => by
    obtain ⟨c, z, q⟩ := isi_ok (X := X) B.hK R px hn (yes_wb z)
    exact q Q (wantB R z)
  have srt : ∀ {ns : List Int} {P : Prop}, (T.guard (Nat.ble ns.length sizeLine) (.ok (.lst ((sortI ns).map .int), true)) : T Ev.R).wb b (Want f g sl σ Q) → ns.length ≤ sizeLine ∧ ∀ p, H p = none → Q (.ref p) (upd H p (.lst ((sortI ns).map V.int))) := fun {ns _} z => by
    obtain ⟨c, z⟩ := T.wb_guard z
    refine ⟨Nat.le_of_ble_eq_true c, fun p hp => ?_⟩
    obtain ⟨R', w⟩ := R.newL hp (ints_rvs (f := f) (g := g) (sortI ns))
    exact z g _ _ (Gh.le.refl g) R' w
  cases t with
  | len =>
    have h : (lenW x).wb b (Want f g sl σ Q) := h
    unfold lenW at h
    cases x with
    | tup xs =>
      obtain ⟨a, vs, rfl, q, r⟩ := px.tup R.sub
      rw [← B.hK] at q
      have z := wantI R h
      rw [r.len] at z
      exact .of call_len ⟨_, _, rfl, .inr ⟨vs, q, rfl⟩, z⟩
    | lst xs =>
      obtain ⟨a, vs, rfl, q, r⟩ := px.lst R.sub
      have z := wantI R h
      rw [r.len] at z
      exact .of call_len ⟨_, _, rfl, .inl ⟨vs, .inl (.inl q), rfl⟩, z⟩
    | scr n =>
      obtain ⟨a, ns, rfl, q, r⟩ := px.scr R.sub
      have z := wantI R h
      rw [← B.hK] at q
      exact .of call_len ⟨_, n, rfl, .inl ⟨_, q, by rw [List.length_map, r]⟩, z⟩
    | dct kvs =>
      obtain ⟨a, vs, rfl, q, r⟩ := px.dct R.sub
      have z := wantI R h
      rw [r.len] at z
      exact .of call_lenD ⟨a, vs, rfl, q, z⟩
    | _ => exact h.elim
  | int =>
    have h : (intW x).wb b (Want f g sl σ Q) := h
    unfold intW at h
    obtain ⟨i, rfl⟩ : ∃ i, x = .int i := by
      cases x <;> first
        | exact ⟨_, rfl⟩
        | exact h.elim
    rw [px.int]
    exact .of call_int1 (.inl ⟨i, rfl, wantI R h⟩)
  | repr =>
    have h : (reprW x).wb b (Want f g sl σ Q) := h
    unfold reprW at h
    cases e : toD x with
    | none => rw [e] at h; exact h.elim
    | some d =>
      rw [e] at h
      obtain ⟨c, h⟩ := T.wb_guard h
      have dp := px.dp R.sub e
      rw [← B.hK] at dp
      exact repr_ok B.hu B.hg dp c (h g _ H (Gh.le.refl g) R (.rpr d))
  | tuple =>
    have h : (tupleW x).wb b (Want f g sl σ Q) := h
    unfold tupleW at h
    cases x with
    | lst xs =>
      obtain ⟨a, vs, rfl, q, r⟩ := px.lst R.sub
      refine .of call_tuple_of ⟨a, vs, rfl, .inl ⟨.inl (.inl q), fun p hp => ?_⟩⟩
      obtain ⟨g', l, R', rv⟩ := R.newT hp r
      exact h g' _ _ l R' rv
    | tup xs =>
      obtain ⟨a, vs, rfl, q, r⟩ := px.tup R.sub
      rw [← B.hK] at q
      refine .of call_tuple_of ⟨a, vs, rfl, .inr ⟨q, ?_⟩⟩
      rcases px with px | ⟨_, _, px⟩
      · exact h g _ H (Gh.le.refl g) R px
      · exact px.elim
    | _ => exact h.elim
  | list =>
    have h : (listW x).wb b (Want f g sl σ Q) := h
    unfold listW at h
    cases x with
    | lst xs =>
      obtain ⟨a, vs, rfl, q, r⟩ := px.lst R.sub
      refine .of call_list_of ⟨a, vs, rfl, .inl (.inl (.inl q)), fun p hp => ?_⟩
      obtain ⟨R', w⟩ := R.newL hp r
      exact h g _ _ (Gh.le.refl g) R' w
    | tup xs =>
      obtain ⟨a, vs, rfl, q, r⟩ := px.tup R.sub
      rw [← B.hK] at q
      refine .of call_list_of ⟨a, vs, rfl, .inr q, fun p hp => ?_⟩
      obtain ⟨R', w⟩ := R.newL hp r
      exact h g _ _ (Gh.le.refl g) R' w
    | _ => exact h.elim
  | sum =>
    have h : (sumW x).wb b (Want f g sl σ Q) := h
    unfold sumW at h
    cases x with
    | lst xs =>
      dsimp only at h
      cases e : intsOf xs with
      | none => rw [e] at h; exact h.elim
      | some is =>
        rw [e] at h
        have z := wantI R h
        have e2 := intsOf_some e
        subst e2
        obtain ⟨a, vs, rfl, q, r⟩ := px.lst R.sub
        have e3 := rvs_ints r
        subst e3
        exact .of (cr_sum B.calm) ⟨a, is, rfl, .inl (.inl q), z⟩
    | _ => exact h.elim
  | sorted =>
    have h : (sortedW x).wb b (Want f g sl σ Q) := h
    unfold sortedW at h
    cases x with
    | lst xs =>
      dsimp only at h
      cases e : intsOf xs with
      | none => rw [e] at h; exact h.elim
      | some is =>
        rw [e] at h
        obtain ⟨z1, z2⟩ := srt (P := True) h
        have e2 := intsOf_some e
        subst e2
        obtain ⟨a, vs, rfl, q, r⟩ := px.lst R.sub
        have e3 := rvs_ints r
        subst e3
        intro pins s σ' us I rv
        obtain ⟨u, rfl, ru⟩ := vals1 rv
        cases ru
        have sq : SqL X.K H a (is.map V.int) := .inl (.inl q)
        obtain ⟨its, rvs, hl, hz⟩ := I.list sq
        obtain ⟨o, ho, hc, n, hd⟩ := hl.isList
        refine sorted_by z1 I (fun {A R' E} _ k => ?_) hh z2
        refine wpAny_collect_seq a (.inl rfl) ho hc hd (fun h' hk => ?_) (by rw [List.size_toArray, ← rvs.length]; exact hz)
        exact k h' s.toks _ hk rvs.ints
    | tup xs =>
      dsimp only at h
      cases e : intsOf xs with
      | none => rw [e] at h; exact h.elim
      | some is =>
        rw [e] at h
        obtain ⟨z1, z2⟩ := srt (P := True) h
        have e2 := intsOf_some e
        subst e2
        obtain ⟨a, vs, rfl, q, r⟩ := px.tup R.sub
        have e3 := rvs_ints r
        subst e3
        rw [← B.hK] at q
        intro pins s σ' us I rv
        obtain ⟨u, rfl, ru⟩ := vals1 rv
        cases ru
        obtain ⟨its, rvs, hl, hz⟩ := I.tuple q
        obtain ⟨o, ho, hc, n, hd⟩ := hl
        refine sorted_by z1 I (fun {A R' E} _ k => ?_) hh z2
        refine wpAny_collect_seq a (.inr rfl) ho hc hd (fun h' hk => ?_) (by rw [List.size_toArray, ← rvs.length]; exact hz)
        exact k h' s.toks _ hk rvs.ints
    | dct kvs =>
      dsimp only at h
      cases e : keysI kvs with
      | none => rw [e] at h; exact h.elim
      | some is =>
        rw [e] at h
        obtain ⟨z1, z2⟩ := srt (P := True) h
        obtain ⟨a, vs, rfl, q, r⟩ := px.dct R.sub
        have hkey : vs.map (·.1) = is.map Sum.inl := (rvk_keys r).trans (keysI_some e)
        intro pins s σ' us I rv
        obtain ⟨u, rfl, ru⟩ := vals1 rv
        cases ru
        refine sorted_by z1 I (fun {A R' E} hA k => ?_) hh z2
        obtain ⟨hz, hlo, ents, hrel, hdo⟩ := dk_rd I.hok (Or.inl q)
        obtain ⟨epo, hdat⟩ := hdo.dictAt
        have hek : ents.map (·.1) = is.map Sum.inl := hrel.keys.symm.trans hkey
        have hlen : ents.length = is.length := by
          have hq := congrArg List.length hek
          rw [List.length_map, List.length_map] at hq
          exact hq
        have src := PySem.W.kdl_dict (prog := X.prog) (w := X.w) (knd := mixKind X.prog X.w) (kvs := ents) (ep := epo) hlo
        refine PySem.W.kdu_collect (A := A) src hA hdat (by rw [hlen]; exact z1) fun h' tk acc hk hacc => k h' tk _ hk ?_
        have hal : acc.toList.length = is.length := by rw [Array.length_toList, hacc.1, hlen]
        refine intsEach hal fun j w ej => ?_
        obtain ⟨ky, y, e1, e2⟩ := hacc.2 j w (by rw [← Array.getElem?_toList]; exact ej)
        have e3 : (is.map Sum.inl)[j]? = some ky := by
          rw [← hek, List.getElem?_map, e1]
          rfl
        rw [List.getElem?_map] at e3
        cases e4 : is[j]? with
        | none => rw [e4] at e3; cases e3
        | some z =>
          rw [e4] at e3
          obtain rfl : Sum.inl z = ky := Option.some.inj e3
          rcases keyIs_shape (show keyIs (Sum.inl z) w = true from e2) with ⟨i, t, ek, ev⟩ | ⟨_, _, ek, _⟩
          · cases ek
            exact ⟨z, t, rfl, ev⟩
          · cases ek
    | _ => exact h.elim
  | dict =>
    have h : (dictW x).wb b (Want f g sl σ Q) := h
    unfold dictW at h
    cases x with
    | lst xs =>
      dsimp only at h
      cases e : pairsOf xs with
      | none => rw [e] at h; exact h.elim
      | some ps =>
        rw [e] at h
        obtain ⟨a, vs, rfl, q, r⟩ := px.lst R.sub
        obtain ⟨as, kvs, rfl, hp, rk⟩ := pairs_ok R.sub B.hK e r
        refine .of (call_dictP B.calm) ⟨a, as, kvs, rfl, .inl (.inl q), hp, fun p hp => ?_⟩
        obtain ⟨R', w⟩ := R.newD hp (merge_ok rk (acc := []) (acc' := []) .nil)
        exact h g _ _ (Gh.le.refl g) R' w
    | _ => exact h.elim
  | min2 => exact h.elim
  | max2 => exact h.elim
  | abs =>
    have h : (absW x).wb b (Want f g sl σ Q) := h
    unfold absW at h
    obtain ⟨i, rfl⟩ : ∃ i, x = .int i := by
      cases x <;> first
        | exact ⟨_, rfl⟩
        | exact h.elim
    rw [px.int]
    exact .of call_abs ⟨i, rfl, wantI R h⟩
  | isInt => exact isi rfl h
  | isBool => exact isi rfl h
  | isStr => exact isi rfl h
  | isTuple => exact isi rfl h
  | isList => exact isi rfl h
  | isDict => exact isi rfl h

inductive PVs (f : Fm) (g : Gh) (H : Hp) : List W → List V → Prop
  | nil : PVs f g H [] []
  | cons {w : W} {v : V} {ws : List W} {vs : List V} : PV f g H w v → PVs f g H ws vs → PVs f g H (w :: ws) (v :: vs)
theorem bi_ok (B : Bx X f) (hh : X.A.handled = none) (R : Rl f g b sl σ H) {ws : List W} {vs : List V} (ps : PVs f g H ws vs) (t : Bi) (h : (biW t ws).wb b (Want f g sl σ Q)) : CallW X (biV t) (vs ++ biX t) H Q := by
  cases ps with
  | nil => exact h.elim
  | cons p ps =>
    cases ps with
    | nil => exact bi1_ok B hh R p t h
    | cons p' ps =>
      cases ps with
      | cons _ _ => exact h.elim
      | nil =>
        cases t <;> first
          | exact h.elim
          | skip
        · obtain ⟨i, j, rfl, rfl, h⟩ := two_wb h
          rw [p.int, p'.int]
          exact .of (call_min2 B.calm) ⟨i, j, rfl, wantI R h⟩
        · obtain ⟨i, j, rfl, rfl, h⟩ := two_wb h
          rw [p.int, p'.int]
          exact .of (call_max2 B.calm) ⟨i, j, rfl, wantI R h⟩
/-! ### index -/
theorem strsOf_some : ∀ {xs : List W} {ys : List Str}, strsOf xs = some ys → xs = ys.map W.str
  | [], _, h => by cases h; rfl
  | x :: r, ys, h => by
    cases x with
    | str z =>
      have h : (strsOf r).map (z :: ·) = some ys := h
      cases e : strsOf r with
      | none => rw [e] at h; cases h
      | some zs =>
        rw [e] at h
        cases h
        rw [strsOf_some e]
        rfl
    | _ => cases h
theorem rvs_strs : ∀ {ys : List Str} {vs : List V}, RVs f.K f.G g (ys.map W.str) vs → vs = ys.map V.str
  | [], _, .nil => rfl
  | y :: ys, _, .cons a r => by
    cases a
    rw [rvs_strs r]
    rfl
theorem findS_ok {x : Str} : ∀ {ys : List Str} {k n : Nat}, findS x k ys = some n → ∃ j, n = k + j ∧ ys[j]? = some x ∧ ∀ m, m < j → ys[m]? ≠ some x
  | [], _, _, h => by cases h
  | y :: r, k, n, h => by
    unfold findS at h
    cases e : eqS y x with
    | true =>
      rw [e] at h
      cases h
      exact ⟨0, rfl, by rw [eqS_iff.mp e]; rfl, fun m hm => absurd hm (Nat.not_lt_zero m)⟩
    | false =>
      rw [e] at h
      obtain ⟨j, e1, e2, e3⟩ := findS_ok h
      refine ⟨j + 1, by omega, e2, fun m hm => ?_⟩
      cases m with
      | zero =>
        intro z
        have : y = x := Option.some.inj z
        rw [eqS_iff.mpr this] at e
        cases e
      | succ m => exact e3 m (by omega)
theorem findF_ok {x : W} : ∀ {ys : List W} {k n : Nat}, findF x k ys = some n → ∃ j z, n = k + j ∧ ys[j]? = some z ∧ eqF z x = true ∧ ∀ m z', m < j → ys[m]? = some z' → eqF z' x = false
  | [], _, _, h => by cases h
  | y :: r, k, n, h => by
    unfold findF at h
    by_cases e : eqF y x = true
    · rw [if_pos e] at h
      cases h
      exact ⟨0, y, rfl, rfl, e, fun m _ hm => absurd hm (Nat.not_lt_zero m)⟩
    · rw [if_neg e] at h
      obtain ⟨j, z, e1, e2, e3, e4⟩ := findF_ok h
      refine ⟨j + 1, z, by omega, e2, e3, fun m z' hm hz => ?_⟩
      cases m with
      | zero =>
        cases hz
        cases q : eqF y x with
        | true => exact absurd q e
        | false => rfl
      | succ m => exact e4 m z' (by omega) hz
/-- which built-in method a receiver's index is -/
def ixId : W → String
  | .tup _ => "tuple.index"
  | _ => "list.index"
theorem index_ok (hK : X.K = f.K) (R : Rl f g b sl σ H) (px : PV f g H x vx) (py : PV f g H y vy) {P : W → Nat → Prop} (h : (indexT x y).wb b P) (hP : ∀ w v, P w b → RV f.K f.G g w v → Q v H) :
    ((∃ xs, x = .tup xs) ∧ MtWt X "tuple.index" vx [vy] H Q) ∨ ((∃ xs, x = .lst xs) ∧ MtWt X "list.index" vx [vy] H Q) := by
  unfold indexT at h
  cases x with
  | tup xs =>
    refine .inl ⟨⟨xs, rfl⟩, ?_⟩
    dsimp only at h
    obtain ⟨z, rfl⟩ : ∃ z, y = .str z := by
      cases y <;> first
        | exact ⟨_, rfl⟩
        | exact h.elim
    dsimp only at h
    cases e : strsOf xs with
    | none => rw [e] at h; exact h.elim
    | some ys =>
      rw [e] at h
      dsimp only at h
      cases e2 : findS z 0 ys with
      | none => rw [e2] at h; exact h.elim
      | some n =>
        rw [e2] at h
        have h : P (.int n) b := h
        have e3 := strsOf_some e
        subst e3
        obtain ⟨a, vs, rfl, q, r⟩ := px.tup R.sub
        have e4 := rvs_strs r
        subst e4
        obtain ⟨j, e5, e6, e7⟩ := findS_ok e2
        rw [← hK] at q
        rw [py.str]
        have e8 : n = j := by omega
        subst e8
        exact fun pins s σ' v us I rx rv => mt_tup_index pins s σ' H _ _ v us Q I rx rv ⟨a, ys, z, n, rfl, rfl, q, e6, e7, hP _ _ h (.int _)⟩
  | lst xs =>
    refine .inr ⟨⟨xs, rfl⟩, ?_⟩
    have h : (findW y xs).wb b P := h
    unfold findW at h
    obtain ⟨c, h⟩ := T.wb_guard h
    rw [Bool.and_eq_true] at c
    cases e2 : findF y 0 xs with
    | none => rw [e2] at h; exact h.elim
    | some n =>
      rw [e2] at h
      have h : P (.int n) b := h
      obtain ⟨a, vs, rfl, q, r⟩ := px.lst R.sub
      obtain ⟨e1, f1⟩ := flat_pv c.1 py
      obtain ⟨e3, f3⟩ := flat_rvs c.2 r
      obtain ⟨j, z, e5, e6, e7, e8⟩ := findF_ok e2
      have e9 : n = j := by omega
      subst e9
      have fz : ∀ {m : Nat} {w : W}, xs[m]? = some w → flatW w = true := fun {m w} hm => List.all_eq_true.mp c.2 w (List.mem_of_getElem? hm)
      have v6 : vs[n]? = some (flatOf z) := by rw [e3, List.getElem?_map, e6]; rfl
      refine fun pins s σ' v us I rx rv => mt_index pins s σ' H _ _ v us Q I rx rv ⟨a, vs, vy, n, flatOf z, rfl, rfl, .inl (.inl q), f1, f3, v6, ?_, fun m z' hm hz => ?_, hP _ _ h (.int _)⟩
      · rw [e1, ← eqF_V (fz e6) c.1]
        exact e7
      · rw [e3, List.getElem?_map] at hz
        cases hw : xs[m]? with
        | none => rw [hw] at hz; cases hz
        | some w =>
          rw [hw] at hz
          have : flatOf w = z' := Option.some.inj hz
          rw [← this, e1, ← eqF_V (fz hw) c.1]
          exact e8 m w hm hw
  | _ => exact h.elim
end
end Ev
end
section
set_option Elab.async false
set_option linter.all false
set_option maxRecDepth 100000
set_option maxHeartbeats 2000000
/-! EvSnd: the evaluator is right over the hand layer. First: what is wanted of a piece of syntax, at its weakest. -/
namespace Ev
open PySem L2
set_option autoImplicit false

/-! ### the weakest readings -/
def tW (X : Cx) (e : Expr) : TE := fun σ H Q => ∀ (pins : List (Addr × Obj)) (s : Shared), Inv X pins σ H s → wpAny (model X.prog X.w) X.A (eval e X.env) (EP X pins σ Q) X.xe s
def tWT (X : Cx) (e : Expr) : TT := fun σ H Q => ∀ (pins : List (Addr × Obj)) (s : Shared), Inv X pins σ H s → wpAny (model X.prog X.w) X.A (isTrue e X.env (eval e X.env)) (TP X pins σ Q) X.xe s
def tWA (X : Cx) (es : List Expr) : TA := fun σ H Q => ∀ (pos : Pos) (pins : List (Addr × Obj)) (s : Shared), Inv X pins σ H s → wpAny (model X.prog X.w) X.A (spliced (backTo pos (starEach es X.env))) (AP X pins σ Q) X.xe s
def tWS (X : Cx) (st : Stmt) : TS := fun D σ H => ∀ (pins : List (Addr × Obj)) (s : Shared), Inv X pins σ H s → wpAny (model X.prog X.w) X.A (exec st X.env) (SP X pins D) X.xe s
def tWSs (X : Cx) (st : List Stmt) : TS := fun D σ H => ∀ (pins : List (Addr × Obj)) (s : Shared), Inv X pins σ H s → wpAny (model X.prog X.w) X.A (execs st X.env) (SP X pins D) X.xe s
section
variable {X : Cx} {e a c d : Expr} {es : List Expr} {σ : St} {H : Hp} {Q Q' : VK} {pos : Pos}
theorem pe_w : PE X e (tW X e) := ⟨fun pins s _ _ _ I h => h pins s I⟩
theorem pt_w : PT X e (tWT X e) := ⟨fun pins s _ _ _ I h => h pins s I⟩
theorem pa_w : PA X es (tWA X es) := ⟨fun pos pins s _ _ _ I h => h pos pins s I⟩
theorem ps_w {st : Stmt} : PS X st (tWS X st) := ⟨fun pins s _ _ _ I h => h pins s I⟩
theorem pss_w {st : List Stmt} : PSs X st (tWSs X st) := ⟨fun pins s _ _ _ I h => h pins s I⟩
theorem of_pe {t : TE} (h : PE X e t) (q : t σ H Q) : tW X e σ H Q := fun pins s I => h.run pins s σ H Q I q
theorem of_pt {t : TT} {Q : Bool → Hp → Prop} (h : PT X e t) (q : t σ H Q) : tWT X e σ H Q := fun pins s I => h.run pins s σ H Q I q
theorem of_pa {t : TA} {Q : List V → Hp → Prop} (h : PA X es t) (q : t σ H Q) : tWA X es σ H Q := fun pos pins s I => h.run pos pins s σ H Q I q
theorem of_ps {st : Stmt} {t : TS} {D : Ends} (h : PS X st t) (q : t D σ H) : tWS X st D σ H := fun pins s I => h.run pins s σ H D I q
theorem of_pss {st : List Stmt} {t : TS} {D : Ends} (h : PSs X st t) (q : t D σ H) : tWSs X st D σ H := fun pins s I => h.run pins s σ H D I q
theorem tW.mono (h : tW X e σ H Q) (m : ∀ v H', Q v H' → Q' v H') : tW X e σ H Q' := fun pins s I => thn (h pins s I) fun _ _ ⟨v, H', I', r, q⟩ => ⟨v, H', I', r, m v H' q⟩
theorem tWT.mono {Q Q' : Bool → Hp → Prop} (h : tWT X e σ H Q) (m : ∀ v H', Q v H' → Q' v H') : tWT X e σ H Q' := fun pins s I => thn (h pins s I) fun _ _ ⟨H', I', q⟩ => ⟨H', I', m _ H' q⟩
theorem tWA.mono {Q Q' : List V → Hp → Prop} (h : tWA X es σ H Q) (m : ∀ v H', Q v H' → Q' v H') : tWA X es σ H Q' := fun pos pins s I => thn (h pos pins s I) fun _ _ ⟨v, H', I', r, q⟩ => ⟨v, H', I', r, m v H' q⟩
/-! ### forms -/
def starB : Expr → Bool
  | .Starred .. => true
  | _ => false
theorem star_cons (h : starB e = false) : starEach (e :: es) X.env = (false, eval e X.env) :: starEach es X.env := by
  cases e <;> first
    | rfl
    | cases h
theorem star_any : ∀ {es : List Expr}, es.all (fun e => !starB e) = true → (backTo pos (starEach es X.env)).any (·.1) = false
  | [], _ => rfl
  | e :: es, h => by
    rw [List.all_cons, Bool.and_eq_true] at h
    have h1 : starB e = false := by
      cases q : starB e with
      | false => rfl
      | true => rw [q] at h; cases h.1
    rw [star_cons h1]
    show (false || (backTo pos (starEach es X.env)).any (·.1)) = false
    rw [star_any h.2]
    rfl
theorem w_nil {Q : List V → Hp → Prop} (h : Q [] H) : tWA X [] σ H Q := of_pa pa_nil h
theorem w_cons {Q : List V → Hp → Prop} (hs : starB e = false) (h : tW X e σ H fun v H1 => tWA X es σ H1 fun vs H2 => Q (v :: vs) H2) : tWA X (e :: es) σ H Q := of_pa (pa_cons pe_w pa_w (star_cons hs)) h
theorem w_var {i : Nat} {x : Str} {v : V} (hN : X.N[i]? = some x) (hv : Vis X.env.scope x) (hd : (x == ("__debug__" : Str)) = false) (hc : (x == ("__classdict__" : Str)) = false) (hs : σ[i]? = some (some v)) (h : Q v H) : tW X (.Name x pos) σ H Q :=
  of_pe (pe_var hN hv hd hc) ⟨v, hs, h⟩
theorem w_tup {k : Nat} (h : tWA X es σ H fun vs H1 => vs.length ≤ sizeLine ∧ ∀ p, H1 p = none → Q (.ref p) (upd H1 p (.tup vs))) : tW X (.Tuple es k pos) σ H Q := of_pe (pe_tup pa_w) h
theorem w_lst (h : tWA X es σ H fun vs H1 => vs.length ≤ sizeLine ∧ ∀ p, H1 p = none → Q (.ref p) (upd H1 p (.lst vs))) : tW X (.List es pos) σ H Q := of_pe (pe_lst pa_w) h
theorem w_dnew (h : ∀ p, H p = none → Q (.ref p) (upd H p (.dK []))) : tW X (.Dict [] [] pos) σ H Q := of_pe pe_dnewK h
theorem opr_w {fn : Value → Value → Sem Value} : OpR X fn (fun x y H Q => OpW X fn x y H Q) := fun pins s σ H x y v u Q I rx ry h => h pins s σ v u I rx ry
theorem w_bin {op : Operator} (h : tW X a σ H fun x H1 => tW X c σ H1 fun y H2 => OpW X (binaryOp op) x y H2 Q) : tW X (.BinOp a op c pos) σ H Q := of_pe (pe_op opr_w pe_w pe_w) h
theorem w_cmp {op : CmpOp} (hm : behindInMarks op c = false) (h : tW X a σ H fun x H1 => tW X c σ H1 fun y H2 => OpW X (compareOp op) x y H2 Q) : tW X (.Compare a [op] [c] pos) σ H Q := of_pe (pe_cmpR opr_w pe_w pe_w hm) h
theorem w_cmpT {op : CmpOp} {Q : Bool → Hp → Prop} (hm : behindInMarks op c = false) (h : tW X a σ H fun x H1 => tW X c σ H1 fun y H2 => OpW X (compareOp op) x y H2 fun z H3 => ∃ k, z = .bl k ∧ Q k H3) : tWT X (.Compare a [op] [c] pos) σ H Q := of_pt (pt_cmpR opr_w pe_w pe_w hm) h
theorem w_chain {op op' : CmpOp} (hm : behindInMarks op' d = false)
    (h : tW X a σ H fun x H1 => tW X c σ H1 fun y H2 => OpW X (compareOp op) x y H2 fun z H3 => ∃ k, z = .bl k ∧ (if k = true then tW X d σ H3 fun w' H4 => OpW X (compareOp op') y w' H4 Q else Q (.bl false) H3)) : tW X (.Compare a [op, op'] [c, d] pos) σ H Q :=
  of_pe (pe_chain opr_w opr_w pe_w pe_w pe_w hm) h
theorem w_chainT {op op' : CmpOp} {Q : Bool → Hp → Prop} (hm : behindInMarks op' d = false)
    (h : tW X a σ H fun x H1 => tW X c σ H1 fun y H2 => OpW X (compareOp op) x y H2 fun z H3 => ∃ k, z = .bl k ∧ (if k = true then tW X d σ H3 fun w' H4 => OpW X (compareOp op') y w' H4 (fun z H5 => ∃ k, z = .bl k ∧ Q k H5) else (∃ k, (V.bl false) = .bl k ∧ Q k H3))) : tWT X (.Compare a [op, op'] [c, d] pos) σ H Q :=
  of_pt (pt_chain opr_w opr_w pe_w pe_w pe_w hm) h
theorem w_neg (h : tW X a σ H fun x H1 => ∃ i, x = .int i ∧ Q (.int (-i)) H1) : tW X (.UnaryOp .USub a pos) σ H Q := of_pe (pe_un un_neg pe_w) h
theorem w_not (h : tW X a σ H fun x H1 => ∃ c, x = .bl c ∧ Q (.bl (!c)) H1) : tW X (.UnaryOp .Not a pos) σ H Q := of_pe (pe_not pe_w) h
theorem w_notT {Q : Bool → Hp → Prop} (h : tWT X a σ H fun c H1 => Q (!c) H1) : tWT X (.UnaryOp .Not a pos) σ H Q := of_pt (pt_not pt_w) h
theorem w_ite (h : tWT X a σ H fun t H1 => if t = true then tW X c σ H1 Q else tW X d σ H1 Q) : tW X (.IfExp a c d pos) σ H Q := of_pe (pe_ifExp pt_w pe_w pe_w) h
theorem w_one {op : BoolOp} (h : tW X a σ H Q) : tW X (.BoolOp op [a] pos) σ H Q := of_pe (pe_one pe_w) h
theorem w_and (h : tW X a σ H fun x H1 => ∃ k, x = .bl k ∧ if k = true then tW X (.BoolOp .And (c :: es) pos) σ H1 Q else Q (.bl false) H1) : tW X (.BoolOp .And (a :: c :: es) pos) σ H Q := of_pe (pe_and pe_w pe_w) h
theorem w_or (h : tW X a σ H fun x H1 => ∃ k, x = .bl k ∧ if k = true then Q (.bl true) H1 else tW X (.BoolOp .Or (c :: es) pos) σ H1 Q) : tW X (.BoolOp .Or (a :: c :: es) pos) σ H Q := of_pe (pe_or pe_w pe_w) h
/-- and, or as tests, whatever the whole is -/
def tWW (X : Cx) (e : Expr) : TT := fun σ H Q => ∀ (whole : Sem Value) (pins : List (Addr × Obj)) (s : Shared), Inv X pins σ H s → wpAny (model X.prog X.w) X.A (isTrue e X.env whole) (TP X pins σ Q) X.xe s
theorem pw_w : PW X e (tWW X e) := ⟨fun wh pins s _ _ _ I h => h wh pins s I⟩
theorem of_pw {t : TT} {Q : Bool → Hp → Prop} (h : PW X e t) (q : t σ H Q) : tWW X e σ H Q := fun wh pins s I => h.run wh pins s σ H Q I q
theorem w_oneW1 {Q : Bool → Hp → Prop} (h : tWT X a σ H Q) : tWW X (.BoolOp .And [a] pos) σ H Q := of_pw (pw_and1 pt_w) h
theorem w_oneW2 {Q : Bool → Hp → Prop} (h : tWT X a σ H Q) : tWW X (.BoolOp .Or [a] pos) σ H Q := of_pw (pw_or1 pt_w) h
theorem w_andW {Q : Bool → Hp → Prop} (h : tWT X a σ H fun k H1 => if k = true then tWW X (.BoolOp .And (c :: es) pos) σ H1 Q else Q false H1) : tWW X (.BoolOp .And (a :: c :: es) pos) σ H Q := of_pw (pw_and pt_w pw_w) h
theorem w_orW {Q : Bool → Hp → Prop} (h : tWT X a σ H fun k H1 => if k = true then Q true H1 else tWW X (.BoolOp .Or (c :: es) pos) σ H1 Q) : tWW X (.BoolOp .Or (a :: c :: es) pos) σ H Q := of_pw (pw_or pt_w pw_w) h
theorem tWW.t {Q : Bool → Hp → Prop} (h : tWW X e σ H Q) : tWT X e σ H Q := fun pins s I => h _ pins s I
/-- a form whose truth is its value's -/
def plainT : Expr → Bool
  | .UnaryOp .Not _ _ | .BoolOp .. | .IfExp .. | .Compare .. => false
  | _ => true
theorem plainT_ok (h : plainT e = true) (whole : Sem Value) : isTrue e X.env whole = (do let v ← whole; standAt e.pos; holding [v] (truthy v)) := by
  cases e <;> first
    | rfl
    | (cases h; done)
    | (rename_i op _ _; cases op <;> first | rfl | (cases h; done))
theorem w_valT {Q : Bool → Hp → Prop} (hp : plainT e = true) (h : tW X e σ H fun x H1 => ∃ k, x = .bl k ∧ Q k H1) : tWT X e σ H Q := of_pt (pt_val pe_w (plainT_ok hp)) h
theorem w_idx (hs : PlainIx c) (h : tW X a σ H fun x H1 => tW X c σ H1 fun y H2 => IxW X x y H2 Q) : tW X (.Subscript a c pos) σ H Q :=
  of_pe (pe_ix (r := fun x y H Q => IxW X x y H Q) (fun value slice pins s σ H x y v u Q I rx ry h hs => h value slice pins s σ v u I rx ry hs) pe_w pe_w hs) h
def sliceB : Expr → Bool
  | .Slice .. => true
  | _ => false
theorem plainIx (h : sliceB c = false) : PlainIx c := fun o i => by
  cases c <;> first
    | rfl
    | cases h

/-! ### calls -/
theorem callr_w {fv : Value} : CallR X fv (fun vs H Q => CallW X fv vs H Q) := fun pins s σ H xs us Q I r h => h pins s σ us I r
variable {x : Str} {p : Pos}
theorem w_callB {id : String} (hg : Gl X x) (hm : X.mg x = none) (hv : bootBuiltins x = some (.builtin id)) (hn : x ≠ "__name__") (hd : (x == ("__debug__" : Str)) = false) (hs : (e :: es).all (fun e => !starB e) = true)
    (h : tWA X (e :: es) σ H fun vs H1 => CallW X (.builtin id) vs H1 Q) : tW X (.Call (.Name x p) (e :: es) [] pos) σ H Q := by
  rw [List.all_cons, Bool.and_eq_true] at hs
  have h1 : starB e = false := by
    cases q : starB e with
    | false => rfl
    | true => rw [q] at hs; cases hs.1
  exact of_pe (pe_callB callr_w hg hm hv pa_w hn hd (star_cons h1) (star_any hs.2)) h
theorem w_callTy {T : String} (hg : Gl X x) (hm : X.mg x = none) (hv : bootBuiltins x = some (.type T)) (hn : x ≠ "__name__") (hd : (x == ("__debug__" : Str)) = false) (hs : (e :: es).all (fun e => !starB e) = true)
    (h : tWA X (e :: es) σ H fun vs H1 => CallW X (.type T) vs H1 Q) : tW X (.Call (.Name x p) (e :: es) [] pos) σ H Q := by
  rw [List.all_cons, Bool.and_eq_true] at hs
  have h1 : starB e = false := by
    cases q : starB e with
    | false => rfl
    | true => rw [q] at hs; cases hs.1
  exact of_pe (pe_callTy callr_w hg hm hv pa_w hn hd (star_cons h1) (star_any hs.2)) h
/-- a call of a def of the text -/
theorem w_callF {fa : Addr} (hg : Gl X x) (hm : X.mg x = some (.ref fa)) (hk : PySem.W.keepIn X.K (.ref fa) = true) (hd : (x == ("__debug__" : Str)) = false) (hs : (e :: es).all (fun e => !starB e) = true)
    (h : tWA X (e :: es) σ H fun vs H1 => CallW X (.ref fa) vs H1 Q) : tW X (.Call (.Name x p) (e :: es) [] pos) σ H Q := by
  rw [List.all_cons, Bool.and_eq_true] at hs
  have h1 : starB e = false := by
    cases q : starB e with
    | false => rfl
    | true => rw [q] at hs; cases hs.1
  intro pins s I
  refine wpAny_Call_Name_kw (ld_glob I hg hm (PySem.W.callWith_K (h₀ := X.base) I.ok.mod.kin hk (thn (h pos pins s I) fun us s1 hq => ?_) (star_cons h1) (star_any hs.2)) hd)
  obtain ⟨vs, H1, I1, r, q⟩ := hq
  exact ⟨I1.kIn, q pins s1 σ us I1 r⟩
theorem w_callF0 {fa : Addr} (hg : Gl X x) (hm : X.mg x = some (.ref fa)) (hk : PySem.W.keepIn X.K (.ref fa) = true) (hd : (x == ("__debug__" : Str)) = false)
    (h : CallW X (.ref fa) [] H Q) : tW X (.Call (.Name x p) [] [] pos) σ H Q := fun pins s I =>
  wpAny_Call_Name_kw (ld_glob I hg hm (PySem.W.callWith_K0 I.kIn hk (h pins s σ [] I .nil)) hd)
/-! ### slices -/
def tWO (X : Cx) (e : Option Expr) : TO := match e with
  | none => tNoPart
  | some e => tPart (tW X e)
theorem po_w {o : Option Expr} : PO X o (tWO X o) := by
  cases o with
  | none => exact po_none
  | some e => exact po_some pe_w
theorem w_sli {lo hi : Option Expr} {p2 : Pos} (h : tW X a σ H fun x H1 => tWO X lo σ H1 fun l H2 => tWO X hi σ H2 fun u H3 => rSlA X.K x l u H3 Q ∨ rSlL X.K x l u H3 Q) : tW X (.Subscript a (.Slice lo hi none p2) pos) σ H Q :=
  of_pe (pe_slice (SlR.or sl_tupA sl_list) pe_w po_w po_w) h
/-! ### list(range(..)), tuple(range(..)) -/
theorem w_rg1 {tp : Bool} {p1 p2 pos1 : Pos} (hc : X.calm = true) (hr : Gl X "range") (hrm : X.mg "range" = none) (hs : starB a = false) (hg : Gl X (if tp = true then "tuple" else "list")) (hm : X.mg (if tp = true then "tuple" else "list") = none)
    (h : tW X a σ H fun x H1 => ∃ n, x = .int n ∧ RgOk 0 n ∧ ∀ q, H1 q = none → Q (.ref q) (upd H1 q (if tp = true then .tup (rgV 0 n) else .lst (rgV 0 n)))) :
    tW X (.Call (.Name (if tp = true then "tuple" else "list") p2) [.Call (.Name "range" p1) [a] [] pos1] [] pos) σ H Q := by
  cases tp with
  | true => exact of_pe (pe_tupRg hc hg hm (prg_1 hr hrm pe_w (star_cons hs))) h
  | false => exact of_pe (pe_listRg hc hg hm (prg_1 hr hrm pe_w (star_cons hs))) h
theorem w_rg2 {tp : Bool} {p1 p2 pos1 : Pos} (hcm : X.calm = true) (hr : Gl X "range") (hrm : X.mg "range" = none) (hs : starB a = false) (hs' : starB c = false) (hg : Gl X (if tp = true then "tuple" else "list")) (hm : X.mg (if tp = true then "tuple" else "list") = none)
    (h : tW X a σ H fun x H1 => tW X c σ H1 fun y H2 => ∃ i j, x = .int i ∧ y = .int j ∧ RgOk i j ∧ ∀ q, H2 q = none → Q (.ref q) (upd H2 q (if tp = true then .tup (rgV i j) else .lst (rgV i j)))) :
    tW X (.Call (.Name (if tp = true then "tuple" else "list") p2) [.Call (.Name "range" p1) [a, c] [] pos1] [] pos) σ H Q := by
  have ha : (backTo pos1 (starEach [c] X.env)).any (·.1) = false := star_any (by rw [List.all_cons, hs']; rfl)
  cases tp with
  | true => exact of_pe (pe_tupRg hcm hg hm (prg_2 hr hrm pe_w pe_w (star_cons hs) (star_cons hs') ha)) h
  | false => exact of_pe (pe_listRg hcm hg hm (prg_2 hr hrm pe_w pe_w (star_cons hs) (star_cons hs') ha)) h
end
end Ev
end
section
set_option Elab.async false
set_option linter.all false
set_option maxRecDepth 100000
set_option maxHeartbeats 2000000
/-! EvChk: when a term of the small language is a piece of Python's syntax; what a context must give. -/
noncomputable section
namespace Ev
open PySem L2
set_option autoImplicit false

def visB (sc : Scope) (x : Str) : Bool := match sc.names.lookup x with
  | some .local | some .cell | some .free => true
  | _ => false
def locB (sc : Scope) (x : Str) : Bool := match sc.names.lookup x with
  | some .local | some .cell => true
  | _ => false
def gloB (sc : Scope) (x : Str) : Bool := match sc.names.lookup x with
  | some .globalImplicit => true
  | _ => false
def okN (x : Str) : Bool := !(x == ("__debug__" : Str)) && (!(x == ("__classdict__" : Str)) && !(x == ("__name__" : Str)))
/-- the names of defs and constants by number; the names that are built-in -/
structure Tb where
  fnm : List Str
  cnm : List Str
def atB (l : List Str) (i : Nat) (x : Str) : Bool := match nth l i with
  | some y => eqS y x
  | none => false
theorem atB_ok {l : List Str} {i : Nat} {x : Str} (h : atB l i x = true) : l[i]? = some x := by
  unfold atB at h
  rw [nth_eq] at h
  cases e : l[i]? with
  | none => rw [e] at h; cases h
  | some y =>
    rw [e] at h
    rw [eqS_iff.mp h]
def conB (w : W) (c : Const) : Bool := match w with
  | .non => (match c with
    | .none => true
    | _ => false)
  | .bl b => (match c with
    | .bool d => b == d
    | _ => false)
  | .int i => (match c with
    | .int j => eqI i j
    | _ => false)
  | .str x => (match c with
    | .str y => eqS x y
    | _ => false)
  | _ => false
def opB (o : Op2) (p : Operator) : Bool := match o, p with
  | .add, .Add | .sub, .Sub | .mul, .Mult | .fdiv, .FloorDiv | .mod, .Mod | .pow, .Pow | .bor, .BitOr | .band, .BitAnd => true
  | _, _ => false
theorem opB_ok {o : Op2} {p : Operator} (h : opB o p = true) : opF o = binaryOp p := by
  unfold opB at h
  split at h <;> first
    | rfl
    | cases h
def cmB (o : Op2) (p : CmpOp) : Bool := match o, p with
  | .eq, .Eq | .ne, .NotEq | .lt, .Lt | .le, .LtE | .gt, .Gt | .ge, .GtE | .is, .Is | .isnot, .IsNot | .isin, .In | .notin, .NotIn => true
  | _, _ => false
theorem cmB_ok {o : Op2} {p : CmpOp} (h : cmB o p = true) : opF o = compareOp p := by
  unfold cmB at h
  split at h <;> first
    | rfl
    | cases h
/-- the name of a built-in -/
def biN : Bi → Str
  | .len => "len"
  | .int => "int"
  | .repr => "repr"
  | .tuple => "tuple"
  | .list => "list"
  | .sum => "sum"
  | .sorted => "sorted"
  | .dict => "dict"
  | .min2 => "min"
  | .max2 => "max"
  | .abs => "abs"
  | _ => "isinstance"
def allBi : List Str := ["len", "int", "repr", "tuple", "list", "sum", "sorted", "dict", "min", "max", "abs", "isinstance", "range", "enumerate", "zip", "bool", "str"]
def tyN (t : String) : Str := Str.ofString t
/-! ### pieces of syntax, taken apart -/
def asName : Expr → Option Str
  | .Name x _ => some x
  | _ => none
theorem asName_ok {e : Expr} {x : Str} (h : asName e = some x) : ∃ p, e = .Name x p := by
  unfold asName at h
  split at h
  · cases h; exact ⟨_, rfl⟩
  · cases h
def asCon : Expr → Option Const
  | .Constant c _ _ => some c
  | _ => none
theorem asCon_ok {e : Expr} {x : Const} (h : asCon e = some x) : ∃ p q, e = .Constant x p q := by
  unfold asCon at h
  split at h
  · cases h; exact ⟨_, _, rfl⟩
  · cases h
def asTup : Expr → Option (List Expr)
  | .Tuple es _ _ => some es
  | _ => none
theorem asTup_ok {e : Expr} {x : List Expr} (h : asTup e = some x) : ∃ p q, e = .Tuple x p q := by
  unfold asTup at h
  split at h
  · cases h; exact ⟨_, _, rfl⟩
  · cases h
def asLst : Expr → Option (List Expr)
  | .List es _ => some es
  | _ => none
theorem asLst_ok {e : Expr} {x : List Expr} (h : asLst e = some x) : ∃ p, e = .List x p := by
  unfold asLst at h
  split at h
  · cases h; exact ⟨_, rfl⟩
  · cases h
def asDct : Expr → Option (List (Option Expr) × List Expr)
  | .Dict ks vs _ => some (ks, vs)
  | _ => none
theorem asDct_ok {e : Expr} {x : List (Option Expr) × List Expr} (h : asDct e = some x) : ∃ p, e = .Dict x.1 x.2 p := by
  unfold asDct at h
  split at h
  · cases h; exact ⟨_, rfl⟩
  · cases h
def asBin : Expr → Option (Expr × Operator × Expr)
  | .BinOp a o b _ => some (a, o, b)
  | _ => none
theorem asBin_ok {e : Expr} {x : Expr × Operator × Expr} (h : asBin e = some x) : ∃ p, e = .BinOp x.1 x.2.1 x.2.2 p := by
  unfold asBin at h
  split at h
  · cases h; exact ⟨_, rfl⟩
  · cases h
def asCmp : Expr → Option (Expr × List CmpOp × List Expr)
  | .Compare a o b _ => some (a, o, b)
  | _ => none
theorem asCmp_ok {e : Expr} {x : Expr × List CmpOp × List Expr} (h : asCmp e = some x) : ∃ p, e = .Compare x.1 x.2.1 x.2.2 p := by
  unfold asCmp at h
  split at h
  · cases h; exact ⟨_, rfl⟩
  · cases h
def asUn : Expr → Option (UnaryOp × Expr)
  | .UnaryOp o a _ => some (o, a)
  | _ => none
theorem asUn_ok {e : Expr} {x : UnaryOp × Expr} (h : asUn e = some x) : ∃ p, e = .UnaryOp x.1 x.2 p := by
  unfold asUn at h
  split at h
  · cases h; exact ⟨_, rfl⟩
  · cases h
def asBool : Expr → Option (BoolOp × List Expr)
  | .BoolOp o a _ => some (o, a)
  | _ => none
theorem asBool_ok {e : Expr} {x : BoolOp × List Expr} (h : asBool e = some x) : ∃ p, e = .BoolOp x.1 x.2 p := by
  unfold asBool at h
  split at h
  · cases h; exact ⟨_, rfl⟩
  · cases h
def asIf : Expr → Option (Expr × Expr × Expr)
  | .IfExp c a b _ => some (c, a, b)
  | _ => none
theorem asIf_ok {e : Expr} {x : Expr × Expr × Expr} (h : asIf e = some x) : ∃ p, e = .IfExp x.1 x.2.1 x.2.2 p := by
  unfold asIf at h
  split at h
  · cases h; exact ⟨_, rfl⟩
  · cases h
def asSub : Expr → Option (Expr × Expr)
  | .Subscript a b _ => some (a, b)
  | _ => none
theorem asSub_ok {e : Expr} {x : Expr × Expr} (h : asSub e = some x) : ∃ p, e = .Subscript x.1 x.2 p := by
  unfold asSub at h
  split at h
  · cases h; exact ⟨_, rfl⟩
  · cases h
def asSli : Expr → Option (Option Expr × Option Expr × Option Expr)
  | .Slice a b c _ => some (a, b, c)
  | _ => none
theorem asSli_ok {e : Expr} {x : Option Expr × Option Expr × Option Expr} (h : asSli e = some x) : ∃ p, e = .Slice x.1 x.2.1 x.2.2 p := by
  unfold asSli at h
  split at h
  · cases h; exact ⟨_, rfl⟩
  · cases h
/-- a call of a name, without keywords -/
def asCall : Expr → Option (Str × List Expr)
  | .Call f as ks _ => (match asName f with
    | some x => (match ks with
      | [] => some (x, as)
      | _ => none)
    | none => none)
  | _ => none
theorem asCall_ok {e : Expr} {x : Str × List Expr} (h : asCall e = some x) : ∃ p q, e = .Call (.Name x.1 p) x.2 [] q := by
  cases e with
  | Call f as ks pos =>
    unfold asCall at h
    dsimp only at h
    cases hf : asName f with
    | none => rw [hf] at h; cases h
    | some y =>
      rw [hf] at h
      obtain ⟨p, rfl⟩ := asName_ok hf
      cases ks with
      | nil => cases h; exact ⟨_, _, rfl⟩
      | cons _ _ => cases h
  | _ => cases h
/-- x.n(e) -/
def asMeth : Expr → Option (Expr × Str × Expr)
  | .Call (.Attribute (.Name x p) n ap) [e] [] cp => cond (ap.endLine == cp.line) (some (.Name x p, n, e)) none
  | _ => none
theorem asMeth_ok {e : Expr} {y : Expr × Str × Expr} (h : asMeth e = some y) : ∃ x p ap cp, e = .Call (.Attribute (.Name x p) y.2.1 ap) [y.2.2] [] cp ∧ y.1 = .Name x p ∧ (ap.endLine == cp.line) = true := by
  unfold asMeth at h
  split at h
  · rename_i x p n ap a cp
    cases hb : (ap.endLine == cp.line) with
    | false => rw [hb] at h; cases h
    | true =>
      rw [hb] at h
      cases h
      exact ⟨x, p, ap, cp, rfl, rfl, hb⟩
  · cases h
def asLc : Expr → Option (Expr × List Comprehension × Scope)
  | .ListComp e gs sc _ => some (e, gs, sc)
  | _ => none
theorem asLc_ok {e : Expr} {x : Expr × List Comprehension × Scope} (h : asLc e = some x) : ∃ p, e = .ListComp x.1 x.2.1 x.2.2 p := by
  unfold asLc at h
  split at h
  · cases h; exact ⟨_, rfl⟩
  · cases h
def setB : Expr → Bool
  | .Set .. => true
  | _ => false
def tupB : Expr → Bool
  | .Tuple .. => true
  | _ => false
/-- a call of a built-in name with arguments -/
def calls (sc : Scope) (n : Str) (e : Expr) : Option (List Expr) := match asCall e with
  | some (x, as) => cond (eqS x n && gloB sc x) (some as) none
  | none => none
theorem calls_ok {sc : Scope} {n : Str} {e : Expr} {as : List Expr} (h : calls sc n e = some as) : ∃ p q, e = .Call (.Name n p) as [] q ∧ gloB sc n = true := by
  unfold calls at h
  cases hc : asCall e with
  | none => rw [hc] at h; cases h
  | some y =>
    rw [hc] at h
    obtain ⟨x, bs⟩ := y
    dsimp only at h
    cases hb : eqS x n && gloB sc x with
    | false => rw [hb] at h; cases h
    | true =>
      rw [hb] at h
      cases h
      rw [Bool.and_eq_true] at hb
      obtain ⟨p, q, e1⟩ := asCall_ok hc
      have e2 := eqS_iff.mp hb.1
      subst e2
      exact ⟨p, q, e1, hb.2⟩

mutual
def chkG (N : List Str) (sc : Scope) (t : Tg) (e : Expr) : Bool := match t with
  | .nm i => (match asName e with
    | some x => atB N i x && locB sc x
    | none => false)
  | .tp ts => (match asTup e with
    | some es => chkGs N sc ts es
    | none => false)
def chkGs (N : List Str) (sc : Scope) (ts : List Tg) (es : List Expr) : Bool := match ts with
  | [] => es.isEmpty
  | t :: ts => (match es with
    | [] => false
    | e :: es => !starB e && (chkG N sc t e && chkGs N sc ts es))
end
def oneB : Exs → Bool
  | .nil => true
  | .cons _ .nil => true
  | _ => false
/-- the row of slots of a comprehension's own names -/
def ownOf (N : List Str) (own : List Nat) : List (Str × Nat) := own.filterMap fun i => (nth N i).map fun x => (x, i)
section
variable (tb : Tb) (N : List Str)
mutual
def chkE (sc : Scope) (x : Ex) (e : Expr) : Bool := match x with
  | .bad => true
  | .var i => (match asName e with
    | some x => atB N i x && (visB sc x && okN x)
    | none => false)
  | .con w => (match asCon e with
    | some c => conB w c
    | none => false)
  | .glo k => (match asName e with
    | some x => atB tb.cnm k x && (gloB sc x && okN x)
    | none => false)
  | .tup es => (match asTup e with
    | some fs => chkL sc es fs
    | none => false)
  | .lst es => (match asLst e with
    | some fs => chkL sc es fs
    | none => false)
  | .dnew => (match asDct e with
    | some ([], []) => true
    | _ => false)
  | .op o a b => (match asBin e with
    | some (a', p, b') => opB o p && (chkE sc a a' && chkE sc b b')
    | none => (match asCmp e with
      | some (a', [p], [b']) => cmB o p && (!behindInMarks p b' && (chkE sc a a' && chkE sc b b'))
      | _ => false))
  | .chain o o' a b c => (match asCmp e with
    | some (a', [p, p'], [b', c']) => cmB o p && (cmB o' p' && (!behindInMarks p' c' && (chkE sc a a' && (chkE sc b b' && chkE sc c c'))))
    | _ => false)
  | .neg a => (match asUn e with
    | some (.USub, a') => chkE sc a a'
    | _ => false)
  | .not a => (match asUn e with
    | some (.Not, a') => chkE sc a a'
    | _ => false)
  | .and es => (match asBool e with
    | some (.And, f :: fs) => chkL sc es (f :: fs)
    | _ => false)
  | .or es => (match asBool e with
    | some (.Or, f :: fs) => chkL sc es (f :: fs)
    | _ => false)
  | .ite c a b => (match asIf e with
    | some (c', a', b') => chkE sc c c' && (chkE sc a a' && chkE sc b b')
    | none => false)
  | .sli a lo hi => (match asSub e with
    | some (a', s) => (match asSli s with
      | some (lo', hi', none) => chkE sc a a' && (chkO sc lo lo' && chkO sc hi hi')
      | _ => false)
    | none => false)
  | .idx a i => (match asSub e with
    | some (a', i') => !sliceB i' && (chkE sc a a' && chkE sc i i')
    | none => false)
  | .call j es => (match asCall e with
    | some (x, fs) => atB tb.fnm j x && (gloB sc x && (okN x && chkL sc es fs))
    | none => false)
  | .bi t es => (match calls sc (biN t) e with
    | some fs => (match biT t with
      | none => chkL sc es fs
      | some n => (match fs with
        | [f, u] => chkL sc es [f] && (match asName u with
          | some x => eqS x (tyN n) && gloB sc x
          | none => false)
        | _ => false))
    | none => false)
  | .mth m a es => (match asMeth e with
    | some (o, n, x) => eqS n "index" && ((match m with
      | .index => true
      | _ => false) && ((match a with
      | .glo _ => true
      | .var _ => true
      | _ => false) && (!starB x && (chkE sc a o && chkL sc es [x]))))
    | none => false)
  | .draw m l => (match calls sc "_law_draw" e with
    | some [m', l'] => !starB m' && (!starB l' && (chkE sc m m' && chkE sc l l'))
    | _ => false)
  | .conv tp it => (match calls sc (if tp = true then "tuple" else "list") e with
    | some [f] => (match calls sc "range" f with
      | some fs => chkR sc it fs
      | none => false)
    | _ => false)
  | .lc own e1 g it ifs => (match asLc e with
    | some (e', [⟨g', it', ifs', 0⟩], scope) => blkC N sc scope (ownOf N own) && (chkE scope e1 e' && (chkG N scope g g' && (chkI sc g' it it' && (chkL scope ifs ifs' && oneB ifs))))
    | _ => false)
def chkL (sc : Scope) (es : Exs) (fs : List Expr) : Bool := match es with
  | .nil => fs.isEmpty
  | .cons e es => (match fs with
    | [] => false
    | f :: fs => !starB f && (chkE sc e f && chkL sc es fs))
def chkO (sc : Scope) (o : Option Ex) (p : Option Expr) : Bool := match o with
  | none => p.isNone
  | some e => (match p with
    | some f => chkE sc e f
    | none => false)
/-- the arguments of range -/
def chkR (sc : Scope) (it : It) (fs : List Expr) : Bool := match it with
  | .rng1 a => (match fs with
    | [a'] => !starB a' && chkE sc a a'
    | _ => false)
  | .rng2 a b => (match fs with
    | [a', b'] => !starB a' && (!starB b' && (chkE sc a a' && chkE sc b b'))
    | _ => false)
  | _ => false
def chkI (sc : Scope) (tg : Expr) (it : It) (e : Expr) : Bool := !setB e && (match it with
  | .seq x => chkE sc x e
  | .txt x => chkE sc x e
  | .rng1 a => (match calls sc "range" e with
    | some [a'] => !starB a' && chkE sc a a'
    | _ => false)
  | .rng2 a b => (match calls sc "range" e with
    | some [a', b'] => !starB a' && (!starB b' && (chkE sc a a' && chkE sc b b'))
    | _ => false)
  | .rng3 a b c => (match calls sc "range" e with
    | some [a', b', c'] => !starB a' && (!starB b' && (!starB c' && (chkE sc a a' && (chkE sc b b' && chkE sc c c'))))
    | _ => false)
  | .enum x => tupB tg && (match calls sc "enumerate" e with
    | some [a'] => !starB a' && chkE sc x a'
    | _ => false)
  | .zip a b => tupB tg && (match calls sc "zip" e with
    | some [a', b'] => !starB a' && (!starB b' && (chkE sc a a' && chkE sc b b'))
    | _ => false)
  | .enumZip a b => tupB tg && (match calls sc "enumerate" e with
    | some [z] => (match calls sc "zip" z with
      | some [a', b'] => !starB a' && (!starB b' && (chkE sc a a' && chkE sc b b'))
      | _ => false)
    | _ => false))
end
end

/-! ### contexts -/
theorem lookup_free {sc : Scope} : ∀ {names : List (Str × NameKind)} {x : Str}, names.lookup x = some .free →
    (names.map fun (n, k) => if (k == NameKind.free && sc.kind == .function && sc.names.lookup n == some .cell) then (n, NameKind.cell) else (n, k)).lookup x = some .free ∨
    (names.map fun (n, k) => if (k == NameKind.free && sc.kind == .function && sc.names.lookup n == some .cell) then (n, NameKind.cell) else (n, k)).lookup x = some .cell
  | [], _, h => by simp at h
  | (n, k) :: r, x, h => by
    have ih := @lookup_free sc r x
    rw [List.map_cons]
    cases hx : x == n with
    | true =>
      simp only [List.lookup_cons, hx] at h
      cases h
      dsimp only
      split
      · exact .inr (by simp [List.lookup_cons, hx])
      · exact .inl (by simp [List.lookup_cons, hx])
    | false =>
      simp only [List.lookup_cons, hx] at h
      dsimp only
      split
      · rw [List.lookup_cons, hx]; exact ih h
      · rw [List.lookup_cons, hx]; exact ih h
/-- arguments at a call: known values, and things handed over, which no slot owns for the while -/
inductive ArgsR (f : Fm) (g : Gh) (H : Hp) (sl : Sl) (σ : St) : List R → List V → List Addr → Prop
  | nil : ArgsR f g H sl σ [] [] []
  | frz {w : W} {v : V} {rs : List R} {vs : List V} {as : List Addr} : RV f.K f.G g w v → ArgsR f g H sl σ rs vs as → ArgsR f g H sl σ ((w, false) :: rs) (v :: vs) as
  | own {w : W} {a : Addr} {rs : List R} {vs : List V} {as : List Addr} : OA f.K f.G g H w a → g.F a = none → a ∉ dAdr g.D → (f.H0 a = none ∨ a ∈ f.IO) → (∀ (i : Nat) u, sl[i]? = some (some (u, true)) → σ[i]? ≠ some (some (.ref a))) → a ∉ as →
      ArgsR f g H sl σ rs vs as → ArgsR f g H sl σ ((w, true) :: rs) (.ref a :: vs) (a :: as)
/-- what became of the things handed over -/
inductive TmR (f : Fm) (g : Gh) (H : Hp) : List Addr → List W → Prop
  | nil : TmR f g H [] []
  | cons {a : Addr} {w : W} {as : List Addr} {ws : List W} : OA f.K f.G g H w a → g.F a = none → a ∉ dAdr g.D → TmR f g H as ws → TmR f g H (a :: as) (w :: ws)
/-- a constant tuple of the module is a plain one -/
def TupC (K : PySem.W.Frag) (w : W) (v : V) : Prop := ∀ ws, w = .tup ws → ∃ a o, v = .ref a ∧ K.lookup a = some o ∧ o.cls = .type "tuple" ∧ o.dict = none
/-- contexts of one program, one place -/
structure Sib (X X' : Cx) : Prop where
  prog : X'.prog = X.prog
  w : X'.w = X.w
  K : X'.K = X.K
  mg : X'.mg = X.mg
  base : X'.base = X.base
  A : X'.A = X.A
  calm : X'.calm = X.calm
theorem Sib.refl (X : Cx) : Sib X X := ⟨rfl, rfl, rfl, rfl, rfl, rfl, rfl⟩
theorem Sib.trans {X Y Z : Cx} (a : Sib X Y) (b : Sib Y Z) : Sib X Z := ⟨b.prog.trans a.prog, b.w.trans a.w, b.K.trans a.K, b.mg.trans a.mg, b.base.trans a.base, b.A.trans a.A, b.calm.trans a.calm⟩
/-- what holds of the whole law: the module's facts, the defs' promises -/
structure Xok (tb : Tb) (N : List Str) (cl : Cl) (io : Nat → List Bool) (cn : Nat → W) (f : Fm) (X : Cx) (sc : Scope) : Prop where
  bx : Bx X f
  hh : X.A.handled = none
  hN : X.N = N
  nd : N.Nodup
  vis : ∀ x, visB sc x = true → Vis X.env.scope x
  glo : ∀ x, gloB sc x = true → Gl X x
  loc : ∀ x, locB sc x = true → Loc X.env.scope x ∧ (X.fn x = true ∨ X.env.scope.names.lookup x = some .local)
  cf : ∀ x, (sc.names.lookup x = some .cell ∨ sc.names.lookup x = some .free) → (X.env.scope.names.lookup x = some .cell ∨ X.env.scope.names.lookup x = some .free)
  ll : ∀ x, sc.names.lookup x = some .local → X.env.scope.names.lookup x = some .local
  knd : X.env.scope.kind = .function
  bi : ∀ x ∈ allBi, X.mg x = none
  con : ∀ (k : Nat) x, tb.cnm[k]? = some x → ∃ v u, X.mg x = some u ∧ RelV v u ∧ (∀ g : Gh, RV f.K f.G g (cn k) v) ∧ TupC X.K (cn k) v
  fn : ∀ (j : Nat) x, tb.fnm[j]? = some x → ∃ a, X.mg x = some (.ref a) ∧ PySem.W.keepIn X.K (.ref a) = true ∧
    ∀ X' f', Sib X X' → f'.K = f.K → f'.G = f.G → ∀ g b sl σ H (args : List R) (vs : List V) (as : List Addr) (Q : VK), Rl f' g b sl σ H → ArgsR f' g H sl σ args vs as →
      (cl j args).wb b (fun r b' => ∀ g' v H', g.le g' → Rl f' g' b' sl σ H' → TmR f' g' H' as r.2 → Vl f' g' H' sl σ r.1 v → (r.1.2 = true → ∀ a ∈ as, v ≠ .ref a) → Q v H') → CallW X' (.ref a) vs H Q
  drw : ∃ a, X.mg "_law_draw" = some (.ref a) ∧ PySem.W.keepIn X.K (.ref a) = true ∧
    ∀ X' f', Sib X X' → f'.K = f.K → f'.G = f.G → ∀ g b sl σ H v (n : Int) (Q : VK), Rl f' g (b + 1) sl σ H → RV f'.K f'.G g .orc v → 0 < n → n < 1073741824 →
      (∀ d, d < n.toNat → ∀ g' H', g.le g' → Rl f' g' b sl σ H' → Q (.int d) H') → CallW X' (.ref a) [v, .int n] H Q
section
variable {tb : Tb} {N : List Str} {cl : Cl} {io : Nat → List Bool} {cn : Nat → W} {f f' : Fm} {X : Cx} {sc : Scope}
/-- another frame of the same program -/
theorem Xok.frame (o : Xok tb N cl io cn f X sc) (hK : f'.K = f.K) (hG : f'.G = f.G) : Xok tb N cl io cn f' X sc :=
  { o with
    bx := ⟨o.bx.hK.trans hK.symm, o.bx.hu, o.bx.hg, o.bx.calm⟩
    con := fun k x h => by
      obtain ⟨v, u, h1, h2, h3, h4⟩ := o.con k x h
      exact ⟨v, u, h1, h2, fun g => by rw [hK, hG]; exact h3 g, h4⟩
    fn := fun j x h => by
      obtain ⟨a, h1, h2, h3⟩ := o.fn j x h
      exact ⟨a, h1, h2, fun X' f'' s k g => h3 X' f'' s (k.trans hK) (g.trans hG)⟩
    drw := by
      obtain ⟨a, h1, h2, h3⟩ := o.drw
      exact ⟨a, h1, h2, fun X' f'' s k g => h3 X' f'' s (k.trans hK) (g.trans hG)⟩ }
theorem relS_eq (scope : Scope) (env : Env) : relabel scope env = relS scope env.scope := rfl
/-- within a comprehension -/
theorem Xok.blk (o : Xok tb N cl io cn f X sc) {scope : Scope} (hk : scope.kind = .function) (s : Shared) (H : Hp) (C : Addr) (l : List (Str × Addr)) (fp : List Addr) : Xok tb N cl io cn f (X.blk s H scope (compEnvC scope l C X.env) fp) scope where
  bx := ⟨o.bx.hK, o.bx.hu, o.bx.hg, o.bx.calm⟩
  hh := o.hh
  hN := o.hN
  nd := o.nd
  vis := fun x h => by
    show Vis (relS scope X.env.scope) x
    unfold visB at h
    cases e : scope.names.lookup x with
    | none => rw [e] at h; cases h
    | some k =>
      rw [e] at h
      cases k <;> first
        | (cases h; done)
        | exact .inl (lookup_relS_keep (by decide) e)
        | exact .inr (.inl (lookup_relS_keep (by decide) e))
        | skip
      -- a free name stays free or becomes the def's cell
      rcases lookup_free e (sc := X.env.scope) with z | z
      · exact .inr (.inr z)
      · exact .inr (.inl z)
  glo := fun x h => by
    unfold gloB at h
    cases e : scope.names.lookup x with
    | none => rw [e] at h; cases h
    | some k =>
      rw [e] at h
      cases k <;> first
        | (cases h; done)
        | exact lookup_relS_keep (by decide) e
  loc := fun x h => by
    unfold locB at h
    cases e : scope.names.lookup x with
    | none => rw [e] at h; cases h
    | some k =>
      rw [e] at h
      cases k <;> first
        | (cases h; done)
        | (have z := lookup_relS_keep (sc := X.env.scope) (by decide) e; exact ⟨.inl z, .inr z⟩)
        | (have z := lookup_relS_keep (sc := X.env.scope) (by decide) e; exact ⟨.inr z, .inl (by show (scope.names.lookup x == some NameKind.cell) = true; rw [e]; rfl)⟩)
  cf := fun x h => by
    rcases h with e | e
    · exact .inl (lookup_relS_keep (by decide) e)
    · exact (lookup_free e (sc := X.env.scope)).symm
  ll := fun x e => lookup_relS_keep (by decide) e
  knd := hk
  bi := o.bi
  con := o.con
  fn := fun j x h => by
    obtain ⟨a, h1, h2, h3⟩ := o.fn j x h
    exact ⟨a, h1, h2, fun X' f'' s => h3 X' f'' ⟨s.prog, s.w, s.K, s.mg, s.base, s.A, s.calm⟩⟩
  drw := by
    obtain ⟨a, h1, h2, h3⟩ := o.drw
    exact ⟨a, h1, h2, fun X' f'' s => h3 X' f'' ⟨s.prog, s.w, s.K, s.mg, s.base, s.A, s.calm⟩⟩
end
end Ev
end
end
section
set_option Elab.async false
set_option linter.all false
set_option maxRecDepth 100000
set_option maxHeartbeats 2000000
/-! EvExp: the evaluator's expressions are right. -/
noncomputable section
namespace Ev
open PySem L2
set_option autoImplicit false

section
variable {f : Fm} {g g' : Gh} {b : Nat} {sl : Sl} {σ : St} {H H' : Hp} {v : V}
theorem boolOf_wb {w : W} {P : Bool → Nat → Prop} (h : (boolOf w).wb b P) : ∃ t, w = .bl t ∧ P t b := by
  cases w <;> first
    | exact ⟨_, rfl, h⟩
    | exact h.elim
theorem rd_wb {i : Nat} {P : R → Nat → Prop} (h : (rd sl i).wb b P) : ∃ r, sl[i]? = some (some r) ∧ P r b := by
  unfold rd at h
  rw [nth_eq] at h
  cases e : sl[i]? with
  | none => rw [e] at h; exact h.elim
  | some o =>
    rw [e] at h
    cases o with
    | none => exact h.elim
    | some r => exact ⟨r, rfl, h⟩
theorem own_wb {i : Nat} {P : W → Nat → Prop} (h : (own sl i).wb b P) : ∃ w, sl[i]? = some (some (w, true)) ∧ P w b := by
  obtain ⟨⟨w, fr⟩, e, h⟩ := rd_wb (T.wb_bind.mp h)
  obtain ⟨c, h⟩ := T.wb_guard h
  have c : fr = true := c
  subst c
  exact ⟨w, e, h⟩
/-- an operand's handle -/
def HV (f : Fm) (g : Gh) (σ : St) (h : Hd) (v : V) : Prop := match h with
  | .val w => RV f.K f.G g w v
  | .slot i => σ[i]? = some (some v)
theorem HV.le {h : Hd} (l : g.le g') (z : HV f g σ h v) : HV f g' σ h v := by
  cases h with
  | val w => exact RV.le l z
  | slot i => exact z
theorem HV.get {h : Hd} (R : Rl f g b sl σ H) (z : HV f g σ h v) {P : W → Nat → Prop} (k : (h.get sl).wb b P) : ∃ w, P w b ∧ PV f g H w v := by
  cases h with
  | val w => exact ⟨w, k, .inl z⟩
  | slot i =>
    obtain ⟨⟨w, fr⟩, e, k⟩ := rd_wb (T.wb_bind.mp k)
    refine ⟨w, k, ?_⟩
    have z : σ[i]? = some (some v) := z
    cases fr with
    | false =>
      obtain ⟨u, h1, h2⟩ := R.frz i w e
      rw [z] at h1
      cases h1
      exact .inl h2
    | true =>
      obtain ⟨a, h1, h2, _⟩ := R.own i w e
      rw [z] at h1
      cases h1
      exact .inr ⟨a, rfl, h2⟩
inductive HVs (f : Fm) (g : Gh) (σ : St) : List Hd → List V → Prop
  | nil : HVs f g σ [] []
  | cons {h : Hd} {v : V} {hs : List Hd} {vs : List V} : HV f g σ h v → HVs f g σ hs vs → HVs f g σ (h :: hs) (v :: vs)
theorem HVs.get : ∀ {hs : List Hd} {vs : List V}, Rl f g b sl σ H → HVs f g σ hs vs → ∀ {P : List W → Nat → Prop}, (getAll hs sl).wb b P → ∃ ws, P ws b ∧ PVs f g H ws vs
  | _, _, _, .nil, _, k => ⟨[], k, .nil⟩
  | _, _, R, .cons a r, _, k => by
    obtain ⟨w, k, p⟩ := HV.get R a (T.wb_bind.mp k)
    obtain ⟨ws, k, ps⟩ := HVs.get R r (T.wb_bind.mp k)
    exact ⟨w :: ws, k, .cons p ps⟩
end

section
variable {tb : Tb} {N : List Str} {cl : Cl} {io : Nat → List Bool} {cn : Nat → W} {f : Fm}
/-- a value of an expression is right -/
structure SE (tb : Tb) (N : List Str) (cl : Cl) (io : Nat → List Bool) (cn : Nat → W) (f : Fm) (x : Ex) : Prop where
  run : ∀ {X : Cx} {sc : Scope} {e : Expr}, Xok tb N cl io cn f X sc → chkE tb N sc x e = true → ∀ {sl : Sl} {σ : St} {H : Hp} {g : Gh} {b : Nat} {Q : VK}, Rl f g b sl σ H →
    (evE cl io cn x sl).wb b (fun r b' => ∀ g' v H', g.le g' → Rl f g' b' r.2 σ H' → Vl f g' H' r.2 σ r.1 v → Q v H') → tW X e σ H Q
/-- .. as a test -/
structure ST (tb : Tb) (N : List Str) (cl : Cl) (io : Nat → List Bool) (cn : Nat → W) (f : Fm) (x : Ex) : Prop where
  run : ∀ {X : Cx} {sc : Scope} {e : Expr}, Xok tb N cl io cn f X sc → chkE tb N sc x e = true → ∀ {sl : Sl} {σ : St} {H : Hp} {g : Gh} {b : Nat} {Q : Bool → Hp → Prop}, Rl f g b sl σ H →
    (evE cl io cn x sl).wb b (fun r b' => ∃ t, r.1.1 = .bl t ∧ ∀ g' H', g.le g' → Rl f g' b' r.2 σ H' → Q t H') → tWT X e σ H Q
def AllX (P : Ex → Prop) : Exs → Prop
  | .nil => True
  | .cons e es => P e ∧ AllX P es
variable {X : Cx} {sc : Scope} {e : Expr} {sl : Sl} {σ : St} {H : Hp} {g : Gh} {b : Nat} {Q : VK}
/-- a result, made known -/
theorem SE.kn {x : Ex} (S : SE tb N cl io cn f x) (o : Xok tb N cl io cn f X sc) (c : chkE tb N sc x e = true) (R : Rl f g b sl σ H)
    (h : (evE cl io cn x sl).wb b (fun r b' => ∀ g' v H', g.le g' → Rl f g' b' r.2 σ H' → RV f.K f.G g' r.1.1 v → Q v H')) : tW X e σ H Q := by
  refine S.run o c R (T.wb_mono (fun r b' k g' v H' l R' w => ?_) h)
  obtain ⟨g2, l2, R2, rv⟩ := R'.freeze w
  exact k g2 v H' (l.trans l2) R2 rv
/-- a value that is a bool -/
theorem SE.bool {x : Ex} (S : SE tb N cl io cn f x) (o : Xok tb N cl io cn f X sc) (c : chkE tb N sc x e = true) (R : Rl f g b sl σ H) {P : Bool → Hp → Prop}
    (h : (evE cl io cn x sl).wb b (fun r b' => ∃ t, r.1.1 = .bl t ∧ ∀ g' H', g.le g' → Rl f g' b' r.2 σ H' → P t H')) : tW X e σ H fun y H1 => ∃ t, y = .bl t ∧ P t H1 := by
  refine S.kn o c R (T.wb_mono (fun r b' k g' v H' l R' rv => ?_) h)
  obtain ⟨t, e1, k⟩ := k
  rw [e1] at rv
  cases rv
  exact ⟨t, rfl, k g' H' l R'⟩
/-- an int -/
theorem SE.int {x : Ex} (S : SE tb N cl io cn f x) (o : Xok tb N cl io cn f X sc) (c : chkE tb N sc x e = true) (R : Rl f g b sl σ H) {P : Int → Hp → Prop}
    (h : (evE cl io cn x sl).wb b (fun r b' => ∃ i, r.1.1 = .int i ∧ ∀ g' H', g.le g' → Rl f g' b' r.2 σ H' → P i H')) : tW X e σ H fun y H1 => ∃ i, y = .int i ∧ P i H1 := by
  refine S.kn o c R (T.wb_mono (fun r b' k g' v H' l R' rv => ?_) h)
  obtain ⟨t, e1, k⟩ := k
  rw [e1] at rv
  cases rv
  exact ⟨t, rfl, k g' H' l R'⟩
/-- an operand -/
theorem SE.hd {x : Ex} (S : SE tb N cl io cn f x) (o : Xok tb N cl io cn f X sc) (c : chkE tb N sc x e = true) (R : Rl f g b sl σ H)
    (h : (Ev.hd (isV x, evE cl io cn x) sl).wb b (fun p b' => ∀ g' v H', g.le g' → Rl f g' b' p.2 σ H' → HV f g' σ p.1 v → Q v H')) : tW X e σ H Q := by
  have gen : isV x = none → tW X e σ H Q := fun hv => by
    unfold Ev.hd at h
    rw [hv] at h
    refine S.kn o c R (T.wb_mono (fun r b' k => ?_) (T.wb_bind.mp h))
    exact k
  cases x with
  | var i =>
    unfold Ev.hd at h
    obtain ⟨⟨w, fr⟩, e1, h⟩ := rd_wb (T.wb_bind.mp (show ((rd sl i).bind fun r => .ok (cond r.2 (Hd.slot i) (.val r.1), sl)).wb b _ from h))
    unfold chkE at c
    cases hn : asName e with
    | none => rw [hn] at c; cases c
    | some y =>
      rw [hn] at c
      obtain ⟨p, rfl⟩ := asName_ok hn
      simp only [Bool.and_eq_true, okN, Bool.not_eq_true'] at c
      obtain ⟨c1, c2, c3, c4, _⟩ := c
      have hN : X.N[i]? = some y := by rw [o.hN]; exact atB_ok c1
      cases fr with
      | true =>
        obtain ⟨a, s1, _⟩ := R.own i w e1
        exact w_var hN (o.vis y c2) c3 c4 s1 (h g _ H (Gh.le.refl g) R s1)
      | false =>
        obtain ⟨v, s1, rv⟩ := R.frz i w e1
        exact w_var hN (o.vis y c2) c3 c4 s1 (h g _ H (Gh.le.refl g) R rv)
  | _ => exact gen rfl
/-- rows of expressions -/
theorem lA_ok : ∀ {es : Exs} {fs : List Expr}, AllX (SE tb N cl io cn f) es → Xok tb N cl io cn f X sc → chkL tb N sc es fs = true → ∀ {sl : Sl} {H : Hp} {g : Gh} {b : Nat} {Q : List V → Hp → Prop}, Rl f g b sl σ H →
    (lA (evL cl io cn es) sl).wb b (fun p b' => ∀ g' vs H', g.le g' → Rl f g' b' p.2 σ H' → RVs f.K f.G g' p.1 vs → Q vs H') → tWA X fs σ H Q
  | .nil, fs, _, o, c, sl, H, g, b, Q, R, h => by
    have c : fs.isEmpty = true := c
    rw [List.isEmpty_iff] at c
    subst c
    exact w_nil (h g [] H (Gh.le.refl g) R .nil)
  | .cons x es, fs, S, o, c, sl, H, g, b, Q, R, h => by
    cases fs with
    | nil => cases c
    | cons e fs =>
      have c : (!starB e && (chkE tb N sc x e && chkL tb N sc es fs)) = true := c
      simp only [Bool.and_eq_true, Bool.not_eq_true'] at c
      refine w_cons c.1 (S.1.kn o c.2.1 R (T.wb_mono (fun r b' k g' v H' l R' rv => ?_) (T.wb_bind.mp h)))
      refine lA_ok S.2 o c.2.2 R' (T.wb_mono (fun p b2 k2 g2 vs H2 l2 R2 rvs => ?_) (T.wb_bind.mp k))
      exact k2 g2 (v :: vs) H2 (l.trans l2) R2 (.cons (rv.le l2) rvs)
theorem lH_ok : ∀ {es : Exs} {fs : List Expr}, AllX (SE tb N cl io cn f) es → Xok tb N cl io cn f X sc → chkL tb N sc es fs = true → ∀ {sl : Sl} {H : Hp} {g : Gh} {b : Nat} {Q : List V → Hp → Prop}, Rl f g b sl σ H →
    (lH (evL cl io cn es) sl).wb b (fun p b' => ∀ g' vs H', g.le g' → Rl f g' b' p.2 σ H' → HVs f g' σ p.1 vs → Q vs H') → tWA X fs σ H Q
  | .nil, fs, _, o, c, sl, H, g, b, Q, R, h => by
    have c : fs.isEmpty = true := c
    rw [List.isEmpty_iff] at c
    subst c
    exact w_nil (h g [] H (Gh.le.refl g) R .nil)
  | .cons x es, fs, S, o, c, sl, H, g, b, Q, R, h => by
    cases fs with
    | nil => cases c
    | cons e fs =>
      have c : (!starB e && (chkE tb N sc x e && chkL tb N sc es fs)) = true := c
      simp only [Bool.and_eq_true, Bool.not_eq_true'] at c
      refine w_cons c.1 (S.1.hd o c.2.1 R (T.wb_mono (fun r b' k g' v H' l R' rv => ?_) (T.wb_bind.mp h)))
      refine lH_ok S.2 o c.2.2 R' (T.wb_mono (fun p b2 k2 g2 vs H2 l2 R2 rvs => ?_) (T.wb_bind.mp k))
      exact k2 g2 (v :: vs) H2 (l.trans l2) R2 (.cons (rv.le l2) rvs)
theorem chkL_star : ∀ {es : Exs} {fs : List Expr}, chkL tb N sc es fs = true → fs.all (fun e => !starB e) = true
  | .nil, fs, c => by
    have c : fs.isEmpty = true := c
    rw [List.isEmpty_iff] at c
    subst c
    rfl
  | .cons x es, fs, c => by
    cases fs with
    | nil => rfl
    | cons e fs =>
      have c : (!starB e && (chkE tb N sc x e && chkL tb N sc es fs)) = true := c
      rw [Bool.and_eq_true, Bool.and_eq_true] at c
      rw [List.all_cons, c.1, chkL_star c.2.2]
      rfl

/-! ### each form -/
abbrev SX (tb : Tb) (N : List Str) (cl : Cl) (io : Nat → List Bool) (cn : Nat → W) (f : Fm) (x : Ex) : Prop := SE tb N cl io cn f x ∧ ST tb N cl io cn f x
theorem AllX.mono {P P' : Ex → Prop} (h : ∀ x, P x → P' x) : ∀ {es : Exs}, AllX P es → AllX P' es
  | .nil, _ => trivial
  | .cons _ _, a => ⟨h _ a.1, AllX.mono h a.2⟩
/-- a form whose truth is its value's -/
theorem ST.of {x : Ex} (S : SE tb N cl io cn f x) (hp : ∀ {sc : Scope} {e : Expr}, chkE tb N sc x e = true → plainT e = true) : ST tb N cl io cn f x :=
  ⟨fun {X sc e} o c {sl σ H g b Q} R h => w_valT (hp c) (S.bool o c R h)⟩
theorem se_bad : SX tb N cl io cn f .bad := ⟨⟨fun {X sc e} o c {sl σ H g b Q} R h => h.elim⟩, ⟨fun {X sc e} o c {sl σ H g b Q} R h => h.elim⟩⟩
theorem se_var (i : Nat) : SE tb N cl io cn f (.var i) := ⟨fun {X sc e} o c {sl σ H g b Q} R h => by
  obtain ⟨⟨w, fr⟩, e1, h⟩ := rd_wb (T.wb_bind.mp h)
  unfold chkE at c
  cases hn : asName e with
  | none => rw [hn] at c; cases c
  | some y =>
    rw [hn] at c
    obtain ⟨p, rfl⟩ := asName_ok hn
    simp only [Bool.and_eq_true, okN, Bool.not_eq_true'] at c
    obtain ⟨c1, c2, c3, c4, _⟩ := c
    obtain ⟨g', v, l, s1, rv, R'⟩ := R.read e1
    rw [← sett_eq] at R'
    exact w_var (by rw [o.hN]; exact atB_ok c1) (o.vis y c2) c3 c4 s1 (h g' v H l R' rv)⟩
theorem se_con (w : W) : SE tb N cl io cn f (.con w) := ⟨fun {X sc e} o c {sl σ H g b Q} R h => by
  unfold chkE at c
  cases hn : asCon e with
  | none => rw [hn] at c; cases c
  | some k =>
    rw [hn] at c
    obtain ⟨p, q, rfl⟩ := asCon_ok hn
    have c : conB w k = true := c
    unfold conB at c
    cases w with
    | non =>
      cases k <;> first
        | (cases c; done)
        | exact of_pe pe_non (h g _ H (Gh.le.refl g) R .non)
    | bl t =>
      cases k <;> first
        | (cases c; done)
        | (have e1 := eq_of_beq (show (t == _) = true from c)
           subst e1
           exact of_pe pe_bl (h g _ H (Gh.le.refl g) R (.bl _)))
    | int i =>
      cases k <;> first
        | (cases c; done)
        | (have e1 : eqI i _ = true := c
           rw [eqI_dec] at e1
           have e1 := of_decide_eq_true e1
           subst e1
           exact of_pe pe_int (h g _ H (Gh.le.refl g) R (.int _)))
    | str z =>
      cases k <;> first
        | (cases c; done)
        | (have e1 := eqS_iff.mp (show eqS z _ = true from c)
           subst e1
           exact of_pe pe_str (h g _ H (Gh.le.refl g) R (.str _)))
    | _ => cases c⟩
theorem se_glo (k : Nat) : SE tb N cl io cn f (.glo k) := ⟨fun {X sc e} o c {sl σ H g b Q} R h => by
  unfold chkE at c
  cases hn : asName e with
  | none => rw [hn] at c; cases c
  | some y =>
    rw [hn] at c
    obtain ⟨p, rfl⟩ := asName_ok hn
    simp only [Bool.and_eq_true, okN, Bool.not_eq_true'] at c
    obtain ⟨c1, c2, c3, c4, _⟩ := c
    obtain ⟨v, u, h1, h2, h3, _⟩ := o.con k y (atB_ok c1)
    exact of_pe (pe_glob (o.glo y c2) h1 h2 c3) (h g v H (Gh.le.refl g) R (h3 g))⟩
theorem se_tup {es : Exs} (S : AllX (SE tb N cl io cn f) es) : SE tb N cl io cn f (.tup es) := ⟨fun {X sc e} o c {sl σ H g b Q} R h => by
  unfold chkE at c
  cases hn : asTup e with
  | none => rw [hn] at c; cases c
  | some fs =>
    rw [hn] at c
    obtain ⟨p, q, rfl⟩ := asTup_ok hn
    refine w_tup (lA_ok S o c R (T.wb_mono (fun r b' k g' vs H' l R' rvs => ?_) (T.wb_bind.mp h)))
    obtain ⟨k1, k⟩ := T.wb_guard k
    refine ⟨by rw [← rvs.len]; exact Nat.le_of_ble_eq_true k1, fun p hp => ?_⟩
    obtain ⟨g2, l2, R2, rv⟩ := R'.newT hp rvs
    exact k g2 _ _ (l.trans l2) R2 rv⟩
theorem se_lst {es : Exs} (S : AllX (SE tb N cl io cn f) es) : SE tb N cl io cn f (.lst es) := ⟨fun {X sc e} o c {sl σ H g b Q} R h => by
  unfold chkE at c
  cases hn : asLst e with
  | none => rw [hn] at c; cases c
  | some fs =>
    rw [hn] at c
    obtain ⟨p, rfl⟩ := asLst_ok hn
    refine w_lst (lA_ok S o c R (T.wb_mono (fun r b' k g' vs H' l R' rvs => ?_) (T.wb_bind.mp h)))
    obtain ⟨k1, k⟩ := T.wb_guard k
    refine ⟨by rw [← rvs.len]; exact Nat.le_of_ble_eq_true k1, fun p hp => ?_⟩
    obtain ⟨R2, rv⟩ := R'.newL hp rvs
    exact k g' _ _ l R2 rv⟩
theorem se_dnew : SE tb N cl io cn f .dnew := ⟨fun {X sc e} o c {sl σ H g b Q} R h => by
  unfold chkE at c
  cases hn : asDct e with
  | none => rw [hn] at c; cases c
  | some y =>
    rw [hn] at c
    obtain ⟨p, rfl⟩ := asDct_ok hn
    obtain ⟨ks, vs⟩ := y
    cases ks with
    | cons _ _ => cases c
    | nil =>
      cases vs with
      | cons _ _ => cases c
      | nil =>
        refine w_dnew fun p hp => ?_
        obtain ⟨R2, rv⟩ := R.newD hp (ws := []) (vs := []) .nil
        exact h g _ _ (Gh.le.refl g) R2 rv⟩
/-- two operands, then an operation by values -/
theorem two_ok {x y : Ex} {e1 e2 : Expr} (Sx : SE tb N cl io cn f x) (Sy : SE tb N cl io cn f y) (o : Xok tb N cl io cn f X sc) (c1 : chkE tb N sc x e1 = true) (c2 : chkE tb N sc y e2 = true) (R : Rl f g b sl σ H)
    {P : V → V → Hp → Prop} {α : Type} {K : W → W → Sl → T α} {Post : α → Nat → Prop}
    (h : ((Ev.hd (isV x, evE cl io cn x) sl).bind fun p => (Ev.hd (isV y, evE cl io cn y) p.2).bind fun q => (p.1.get q.2).bind fun u => (q.1.get q.2).bind fun w => K u w q.2).wb b Post)
    (k : ∀ u w sl' g' H' b' v1 v2, g.le g' → Rl f g' b' sl' σ H' → PV f g' H' u v1 → PV f g' H' w v2 → (K u w sl').wb b' Post → P v1 v2 H') :
    tW X e1 σ H fun v1 H1 => tW X e2 σ H1 fun v2 H2 => P v1 v2 H2 := by
  refine Sx.hd o c1 R (T.wb_mono (fun p b1 k1 g1 v1 H1 l1 R1 hv1 => ?_) (T.wb_bind.mp h))
  refine Sy.hd o c2 R1 (T.wb_mono (fun q b2 k2 g2 v2 H2 l2 R2 hv2 => ?_) (T.wb_bind.mp k1))
  obtain ⟨u, k3, pu⟩ := (hv1.le l2).get R2 (T.wb_bind.mp k2)
  obtain ⟨w, k4, pw⟩ := hv2.get R2 (T.wb_bind.mp k3)
  exact k u w q.2 g2 H2 b2 v1 v2 (l1.trans l2) R2 pu pw k4
theorem se_op {p : Op2} {x y : Ex} (Sx : SE tb N cl io cn f x) (Sy : SE tb N cl io cn f y) : SX tb N cl io cn f (.op p x y) := by
  have main : ∀ {X : Cx} {sc : Scope} {e1 e2 : Expr} {sl : Sl} {σ : St} {H : Hp} {g : Gh} {b : Nat} {Q : VK}, Xok tb N cl io cn f X sc → chkE tb N sc x e1 = true → chkE tb N sc y e2 = true → Rl f g b sl σ H →
      (evE cl io cn (.op p x y) sl).wb b (fun r b' => ∀ g' v H', g.le g' → Rl f g' b' r.2 σ H' → Vl f g' H' r.2 σ r.1 v → Q v H') →
      tW X e1 σ H fun v1 H1 => tW X e2 σ H1 fun v2 H2 => OpW X (opF p) v1 v2 H2 Q := fun {X sc e1 e2 sl σ H g b Q} o c1 c2 R h => by
    refine two_ok (K := fun u w s => (op2 p u w).bind fun r => .ok (r, s)) Sx Sy o c1 c2 R h fun u w sl' g' H' b' v1 v2 l R' pu pw k => ?_
    refine op2_ok p o.bx.u64 o.bx.hK R' pu pw (T.wb_mono (fun r b3 k3 => ?_) (T.wb_bind.mp k))
    exact fun g3 v H3 l3 R3 vl => k3 g3 v H3 (l.trans l3) R3 vl
  refine ⟨⟨fun {X sc e} o c {sl σ H g b Q} R h => ?_⟩, ⟨fun {X sc e} o c {sl σ H g b Q} R h => ?_⟩⟩
  · unfold chkE at c
    cases hb : asBin e with
    | some t =>
      rw [hb] at c
      obtain ⟨pp, rfl⟩ := asBin_ok hb
      obtain ⟨a', q, b'⟩ := t
      have c : (opB p q && (chkE tb N sc x a' && chkE tb N sc y b')) = true := c
      simp only [Bool.and_eq_true] at c
      refine w_bin ?_
      rw [← opB_ok c.1]
      exact main o c.2.1 c.2.2 R h
    | none =>
      rw [hb] at c
      dsimp only at c
      split at c
      · rename_i hc
        obtain ⟨pp, rfl⟩ := asCmp_ok hc
        simp only [Bool.and_eq_true, Bool.not_eq_true'] at c
        refine w_cmp c.2.1 ?_
        rw [← cmB_ok c.1]
        exact main o c.2.2.1 c.2.2.2 R h
      · cases c
  · have hb2 : (evE cl io cn (.op p x y) sl).wb b (fun r b' => ∀ g' v H', g.le g' → Rl f g' b' r.2 σ H' → Vl f g' H' r.2 σ r.1 v → ∃ k, v = .bl k ∧ Q k H') := by
      refine T.wb_mono (fun r b' k g' v H' l R' vl => ?_) h
      obtain ⟨t, e1, k⟩ := k
      obtain ⟨⟨w, fr⟩, sl'⟩ := r
      have e1 : w = .bl t := e1
      subst e1
      cases fr with
      | false => cases vl; exact ⟨t, rfl, k g' H' l R'⟩
      | true =>
        obtain ⟨a, _, z, _⟩ := vl
        exact z.elim
    unfold chkE at c
    cases hb : asBin e with
    | some t =>
      rw [hb] at c
      obtain ⟨pp, rfl⟩ := asBin_ok hb
      obtain ⟨a', q, b'⟩ := t
      have c : (opB p q && (chkE tb N sc x a' && chkE tb N sc y b')) = true := c
      simp only [Bool.and_eq_true] at c
      refine w_valT rfl (w_bin ?_)
      rw [← opB_ok c.1]
      exact main o c.2.1 c.2.2 R hb2
    | none =>
      rw [hb] at c
      dsimp only at c
      split at c
      · rename_i hc
        obtain ⟨pp, rfl⟩ := asCmp_ok hc
        simp only [Bool.and_eq_true, Bool.not_eq_true'] at c
        refine w_cmpT c.2.1 ?_
        rw [← cmB_ok c.1]
        exact main o c.2.2.1 c.2.2.2 R hb2
      · cases c
theorem se_neg {x : Ex} (S : SE tb N cl io cn f x) : SE tb N cl io cn f (.neg x) := ⟨fun {X sc e} o c {sl σ H g b Q} R h => by
  unfold chkE at c
  split at c
  · rename_i hc
    obtain ⟨pp, rfl⟩ := asUn_ok hc
    refine w_neg (S.int o c R (T.wb_mono (fun r b' k => ?_) (T.wb_bind.mp h)))
    obtain ⟨⟨w, fr⟩, sl'⟩ := r
    cases w <;> first
      | exact k.elim
      | exact ⟨_, rfl, fun g' H' l R' => k g' _ H' l R' (.int _)⟩
  · cases c⟩
theorem se_not {x : Ex} (S : SX tb N cl io cn f x) : SX tb N cl io cn f (.not x) := by
  refine ⟨⟨fun {X sc e} o c {sl σ H g b Q} R h => ?_⟩, ⟨fun {X sc e} o c {sl σ H g b Q} R h => ?_⟩⟩
  · unfold chkE at c
    split at c
    · rename_i hc
      obtain ⟨pp, rfl⟩ := asUn_ok hc
      refine w_not (S.1.bool o c R (T.wb_mono (fun r b' k => ?_) (T.wb_bind.mp h)))
      obtain ⟨t, e1, k⟩ := boolOf_wb (T.wb_bind.mp k)
      exact ⟨t, e1, fun g' H' l R' => k g' _ H' l R' (.bl _)⟩
    · cases c
  · unfold chkE at c
    split at c
    · rename_i hc
      obtain ⟨pp, rfl⟩ := asUn_ok hc
      refine w_notT (S.2.run o c R (T.wb_mono (fun r b' k => ?_) (T.wb_bind.mp h)))
      obtain ⟨t, e1, k⟩ := boolOf_wb (T.wb_bind.mp k)
      obtain ⟨t2, e2, k⟩ := k
      have e2 : W.bl (!t) = .bl t2 := e2
      cases e2
      exact ⟨t, e1, fun g' H' l R' => k g' H' l R'⟩
    · cases c
/-- and, or: rows -/
theorem and_ok : ∀ {es : Exs} {fs : List Expr} {e : Expr} {pos : Pos}, AllX (SX tb N cl io cn f) es → Xok tb N cl io cn f X sc → chkL tb N sc es (e :: fs) = true → ∀ {sl : Sl} {H : Hp} {g : Gh} {b : Nat}, Rl f g b sl σ H → (∀ {Q : VK},
    (lAnd (evL cl io cn es) sl).wb b (fun p b' => ∀ g' H', g.le g' → Rl f g' b' p.2 σ H' → Q (.bl p.1) H') → tW X (.BoolOp .And (e :: fs) pos) σ H Q) ∧ (∀ {Q : Bool → Hp → Prop},
    (lAnd (evL cl io cn es) sl).wb b (fun p b' => ∀ g' H', g.le g' → Rl f g' b' p.2 σ H' → Q p.1 H') → tWW X (.BoolOp .And (e :: fs) pos) σ H Q)
  | .nil, _, _, _, _, _, c, _, _, _, _, _ => by cases c
  | .cons x es, fs, e, pos, S, o, c, sl, H, g, b, R => by
    have c : (!starB e && (chkE tb N sc x e && chkL tb N sc es fs)) = true := c
    simp only [Bool.and_eq_true, Bool.not_eq_true'] at c
    refine ⟨fun {Q} h => ?_, fun {Q} h => ?_⟩
    · cases fs with
      | nil =>
        have e0 : es = .nil := by
          cases es with
          | nil => rfl
          | cons _ _ => cases c.2.2
        subst e0
        refine w_one (tW.mono (S.1.1.bool o c.2.1 R (P := fun t H1 => Q (.bl t) H1) (T.wb_mono (fun r b' k => ?_) (T.wb_bind.mp h))) fun v H' ⟨t, e1, q⟩ => by subst e1; exact q)
        obtain ⟨t, e1, k⟩ := boolOf_wb (T.wb_bind.mp k)
        refine ⟨t, e1, fun g' H' l R' => ?_⟩
        cases t with
        | true => exact k g' H' l R'
        | false => exact k g' H' l R'
      | cons e2 fs =>
        refine w_and (S.1.1.bool o c.2.1 R (P := fun t H1 => if t = true then tW X (.BoolOp .And (e2 :: fs) pos) σ H1 Q else Q (.bl false) H1) (T.wb_mono (fun r b' k => ?_) (T.wb_bind.mp h)))
        obtain ⟨t, e1, k⟩ := boolOf_wb (T.wb_bind.mp k)
        refine ⟨t, e1, fun g' H' l R' => ?_⟩
        cases t with
        | true =>
          rw [if_pos rfl]
          exact (and_ok S.2 o c.2.2 R').1 (T.wb_mono (fun p b2 k2 g2 H2 l2 R2 => k2 g2 H2 (l.trans l2) R2) k)
        | false =>
          rw [if_neg (by decide)]
          exact k g' H' l R'
    · cases fs with
      | nil =>
        have e0 : es = .nil := by
          cases es with
          | nil => rfl
          | cons _ _ => cases c.2.2
        subst e0
        refine w_oneW1 (S.1.2.run o c.2.1 R (T.wb_mono (fun r b' k => ?_) (T.wb_bind.mp h)))
        obtain ⟨t, e1, k⟩ := boolOf_wb (T.wb_bind.mp k)
        refine ⟨t, e1, fun g' H' l R' => ?_⟩
        cases t with
        | true => exact k g' H' l R'
        | false => exact k g' H' l R'
      | cons e2 fs =>
        refine w_andW (S.1.2.run o c.2.1 R (T.wb_mono (fun r b' k => ?_) (T.wb_bind.mp h)))
        obtain ⟨t, e1, k⟩ := boolOf_wb (T.wb_bind.mp k)
        refine ⟨t, e1, fun g' H' l R' => ?_⟩
        cases t with
        | true =>
          rw [if_pos rfl]
          exact (and_ok S.2 o c.2.2 R').2 (T.wb_mono (fun p b2 k2 g2 H2 l2 R2 => k2 g2 H2 (l.trans l2) R2) k)
        | false =>
          rw [if_neg (by decide)]
          exact k g' H' l R'
theorem or_ok : ∀ {es : Exs} {fs : List Expr} {e : Expr} {pos : Pos}, AllX (SX tb N cl io cn f) es → Xok tb N cl io cn f X sc → chkL tb N sc es (e :: fs) = true → ∀ {sl : Sl} {H : Hp} {g : Gh} {b : Nat}, Rl f g b sl σ H → (∀ {Q : VK},
    (lOr (evL cl io cn es) sl).wb b (fun p b' => ∀ g' H', g.le g' → Rl f g' b' p.2 σ H' → Q (.bl p.1) H') → tW X (.BoolOp .Or (e :: fs) pos) σ H Q) ∧ (∀ {Q : Bool → Hp → Prop},
    (lOr (evL cl io cn es) sl).wb b (fun p b' => ∀ g' H', g.le g' → Rl f g' b' p.2 σ H' → Q p.1 H') → tWW X (.BoolOp .Or (e :: fs) pos) σ H Q)
  | .nil, _, _, _, _, _, c, _, _, _, _, _ => by cases c
  | .cons x es, fs, e, pos, S, o, c, sl, H, g, b, R => by
    have c : (!starB e && (chkE tb N sc x e && chkL tb N sc es fs)) = true := c
    simp only [Bool.and_eq_true, Bool.not_eq_true'] at c
    refine ⟨fun {Q} h => ?_, fun {Q} h => ?_⟩
    · cases fs with
      | nil =>
        have e0 : es = .nil := by
          cases es with
          | nil => rfl
          | cons _ _ => cases c.2.2
        subst e0
        refine w_one (tW.mono (S.1.1.bool o c.2.1 R (P := fun t H1 => Q (.bl t) H1) (T.wb_mono (fun r b' k => ?_) (T.wb_bind.mp h))) fun v H' ⟨t, e1, q⟩ => by subst e1; exact q)
        obtain ⟨t, e1, k⟩ := boolOf_wb (T.wb_bind.mp k)
        refine ⟨t, e1, fun g' H' l R' => ?_⟩
        cases t with
        | true => exact k g' H' l R'
        | false => exact k g' H' l R'
      | cons e2 fs =>
        refine w_or (S.1.1.bool o c.2.1 R (P := fun t H1 => if t = true then Q (.bl true) H1 else tW X (.BoolOp .Or (e2 :: fs) pos) σ H1 Q) (T.wb_mono (fun r b' k => ?_) (T.wb_bind.mp h)))
        obtain ⟨t, e1, k⟩ := boolOf_wb (T.wb_bind.mp k)
        refine ⟨t, e1, fun g' H' l R' => ?_⟩
        cases t with
        | false =>
          rw [if_neg (by decide)]
          exact (or_ok S.2 o c.2.2 R').1 (T.wb_mono (fun p b2 k2 g2 H2 l2 R2 => k2 g2 H2 (l.trans l2) R2) k)
        | true =>
          rw [if_pos rfl]
          exact k g' H' l R'
    · cases fs with
      | nil =>
        have e0 : es = .nil := by
          cases es with
          | nil => rfl
          | cons _ _ => cases c.2.2
        subst e0
        refine w_oneW2 (S.1.2.run o c.2.1 R (T.wb_mono (fun r b' k => ?_) (T.wb_bind.mp h)))
        obtain ⟨t, e1, k⟩ := boolOf_wb (T.wb_bind.mp k)
        refine ⟨t, e1, fun g' H' l R' => ?_⟩
        cases t with
        | true => exact k g' H' l R'
        | false => exact k g' H' l R'
      | cons e2 fs =>
        refine w_orW (S.1.2.run o c.2.1 R (T.wb_mono (fun r b' k => ?_) (T.wb_bind.mp h)))
        obtain ⟨t, e1, k⟩ := boolOf_wb (T.wb_bind.mp k)
        refine ⟨t, e1, fun g' H' l R' => ?_⟩
        cases t with
        | false =>
          rw [if_neg (by decide)]
          exact (or_ok S.2 o c.2.2 R').2 (T.wb_mono (fun p b2 k2 g2 H2 l2 R2 => k2 g2 H2 (l.trans l2) R2) k)
        | true =>
          rw [if_pos rfl]
          exact k g' H' l R'
theorem se_and {es : Exs} (S : AllX (SX tb N cl io cn f) es) : SX tb N cl io cn f (.and es) := by
  refine ⟨⟨fun {X sc e} o c {sl σ H g b Q} R h => ?_⟩, ⟨fun {X sc e} o c {sl σ H g b Q} R h => ?_⟩⟩
  · unfold chkE at c
    split at c
    · rename_i hc
      obtain ⟨pp, rfl⟩ := asBool_ok hc
      exact (and_ok S o c R).1 (T.wb_mono (fun p b' k g' H' l R' => k g' _ H' l R' (.bl _)) (T.wb_bind.mp h))
    · cases c
  · unfold chkE at c
    split at c
    · rename_i hc
      obtain ⟨pp, rfl⟩ := asBool_ok hc
      refine tWW.t ((and_ok S o c R).2 (T.wb_mono (fun p b' k g' H' l R' => ?_) (T.wb_bind.mp h)))
      obtain ⟨t, e1, k⟩ := k
      have e1 : W.bl p.1 = .bl t := e1
      cases e1
      exact k g' H' l R'
    · cases c
theorem se_or {es : Exs} (S : AllX (SX tb N cl io cn f) es) : SX tb N cl io cn f (.or es) := by
  refine ⟨⟨fun {X sc e} o c {sl σ H g b Q} R h => ?_⟩, ⟨fun {X sc e} o c {sl σ H g b Q} R h => ?_⟩⟩
  · unfold chkE at c
    split at c
    · rename_i hc
      obtain ⟨pp, rfl⟩ := asBool_ok hc
      exact (or_ok S o c R).1 (T.wb_mono (fun p b' k g' H' l R' => k g' _ H' l R' (.bl _)) (T.wb_bind.mp h))
    · cases c
  · unfold chkE at c
    split at c
    · rename_i hc
      obtain ⟨pp, rfl⟩ := asBool_ok hc
      refine tWW.t ((or_ok S o c R).2 (T.wb_mono (fun p b' k g' H' l R' => ?_) (T.wb_bind.mp h)))
      obtain ⟨t, e1, k⟩ := k
      have e1 : W.bl p.1 = .bl t := e1
      cases e1
      exact k g' H' l R'
    · cases c
/-! ### chains, choices, subscripts -/
theorem bl_of {r : R} {v : V} {t : Bool} (e : r.1 = .bl t) (vl : Vl f g H sl σ r v) : v = .bl t := by
  obtain ⟨w, fr⟩ := r
  have e : w = .bl t := e
  subst e
  cases fr with
  | false => cases vl; rfl
  | true =>
    obtain ⟨a, _, z, _⟩ := vl
    exact z.elim
theorem se_chain {p q : Op2} {x y z : Ex} (Sx : SE tb N cl io cn f x) (Sy : SE tb N cl io cn f y) (Sz : SE tb N cl io cn f z) : SX tb N cl io cn f (.chain p q x y z) := by
  have main : ∀ {X : Cx} {sc : Scope} {e1 e2 e3 : Expr} {sl : Sl} {σ : St} {H : Hp} {g : Gh} {b : Nat} {Q : VK}, Xok tb N cl io cn f X sc → chkE tb N sc x e1 = true → chkE tb N sc y e2 = true → chkE tb N sc z e3 = true → Rl f g b sl σ H →
      (evE cl io cn (.chain p q x y z) sl).wb b (fun r b' => ∀ g' v H', g.le g' → Rl f g' b' r.2 σ H' → Vl f g' H' r.2 σ r.1 v → Q v H') →
      tW X e1 σ H fun v1 H1 => tW X e2 σ H1 fun v2 H2 => OpW X (opF p) v1 v2 H2 fun u H3 => ∃ k, u = .bl k ∧ (if k = true then tW X e3 σ H3 fun v3 H4 => OpW X (opF q) v2 v3 H4 Q else Q (.bl false) H3) := fun {X sc e1 e2 e3 sl σ H g b Q} o c1 c2 c3 R h => by
    refine Sx.hd o c1 R (T.wb_mono (fun p1 b1 k1 g1 v1 H1 l1 R1 hv1 => ?_) (T.wb_bind.mp (show (kChain p q _ _ _ sl).wb b _ from h)))
    refine Sy.hd o c2 R1 (T.wb_mono (fun q1 b2 k2 g2 v2 H2 l2 R2 hv2 => ?_) (T.wb_bind.mp k1))
    obtain ⟨u, k3, pu⟩ := (hv1.le l2).get R2 (T.wb_bind.mp k2)
    obtain ⟨w, k4, pw⟩ := hv2.get R2 (T.wb_bind.mp k3)
    refine op2_ok p o.bx.u64 o.bx.hK R2 pu pw (T.wb_mono (fun r b3 k5 g3 v3 H3 l3 R3 vl3 => ?_) (T.wb_bind.mp k4))
    obtain ⟨t, e1, k6⟩ := boolOf_wb (T.wb_bind.mp k5)
    have ev := bl_of e1 vl3
    subst ev
    refine ⟨t, rfl, ?_⟩
    cases t with
    | false =>
      rw [if_neg (by decide)]
      exact k6 g3 _ H3 ((l1.trans l2).trans l3) R3 (.bl _)
    | true =>
      rw [if_pos rfl]
      refine Sz.hd o c3 R3 (T.wb_mono (fun u1 b4 k7 g4 v4 H4 l4 R4 hv4 => ?_) (T.wb_bind.mp k6))
      obtain ⟨w2, k8, pw2⟩ := ((hv2.le l3).le l4).get R4 (T.wb_bind.mp k7)
      obtain ⟨w3, k9, pw3⟩ := hv4.get R4 (T.wb_bind.mp k8)
      refine op2_ok q o.bx.u64 o.bx.hK R4 pw2 pw3 (T.wb_mono (fun r b5 k10 g5 v5 H5 l5 R5 vl5 => ?_) (T.wb_bind.mp k9))
      exact k10 g5 v5 H5 (((l1.trans l2).trans l3).trans (l4.trans l5)) R5 vl5
  refine ⟨⟨fun {X sc e} o c {sl σ H g b Q} R h => ?_⟩, ⟨fun {X sc e} o c {sl σ H g b Q} R h => ?_⟩⟩
  · unfold chkE at c
    split at c
    · rename_i hc
      obtain ⟨pp, rfl⟩ := asCmp_ok hc
      simp only [Bool.and_eq_true, Bool.not_eq_true'] at c
      refine w_chain c.2.2.1 ?_
      rw [← cmB_ok c.1, ← cmB_ok c.2.1]
      exact main o c.2.2.2.1 c.2.2.2.2.1 c.2.2.2.2.2 R h
    · cases c
  · have hb2 : (evE cl io cn (.chain p q x y z) sl).wb b (fun r b' => ∀ g' v H', g.le g' → Rl f g' b' r.2 σ H' → Vl f g' H' r.2 σ r.1 v → ∃ k, v = .bl k ∧ Q k H') := by
      refine T.wb_mono (fun r b' k g' v H' l R' vl => ?_) h
      obtain ⟨t, e1, k⟩ := k
      exact ⟨t, bl_of e1 vl, k g' H' l R'⟩
    unfold chkE at c
    split at c
    · rename_i hc
      obtain ⟨pp, rfl⟩ := asCmp_ok hc
      simp only [Bool.and_eq_true, Bool.not_eq_true'] at c
      refine w_chainT c.2.2.1 ?_
      rw [← cmB_ok c.1, ← cmB_ok c.2.1]
      exact main o c.2.2.2.1 c.2.2.2.2.1 c.2.2.2.2.2 R hb2
    · cases c
theorem se_ite {x y z : Ex} (Sx : ST tb N cl io cn f x) (Sy : SE tb N cl io cn f y) (Sz : SE tb N cl io cn f z) : SE tb N cl io cn f (.ite x y z) := ⟨fun {X sc e} o c {sl σ H g b Q} R h => by
  unfold chkE at c
  split at c
  · rename_i hc
    obtain ⟨pp, rfl⟩ := asIf_ok hc
    simp only [Bool.and_eq_true] at c
    refine w_ite (Sx.run o c.1 R (T.wb_mono (fun r b' k => ?_) (T.wb_bind.mp (show (kIte _ _ _ sl).wb b _ from h))))
    obtain ⟨t, e1, k⟩ := boolOf_wb (T.wb_bind.mp k)
    refine ⟨t, e1, fun g' H' l R' => ?_⟩
    cases t with
    | true =>
      rw [if_pos rfl]
      exact Sy.run o c.2.1 R' (T.wb_mono (fun r b2 k2 g2 v H2 l2 R2 vl => k2 g2 v H2 (l.trans l2) R2 vl) k)
    | false =>
      rw [if_neg (by decide)]
      exact Sz.run o c.2.2 R' (T.wb_mono (fun r b2 k2 g2 v H2 l2 R2 vl => k2 g2 v H2 (l.trans l2) R2 vl) k)
  · cases c⟩
theorem se_idx {x y : Ex} (Sx : SE tb N cl io cn f x) (Sy : SE tb N cl io cn f y) : SE tb N cl io cn f (.idx x y) := ⟨fun {X sc e} o c {sl σ H g b Q} R h => by
  unfold chkE at c
  split at c
  · rename_i hc
    obtain ⟨pp, rfl⟩ := asSub_ok hc
    simp only [Bool.and_eq_true, Bool.not_eq_true'] at c
    refine w_idx (plainIx c.1) (two_ok (K := fun u w s => (idxW u w).bind fun w => .ok ((w, false), s)) Sx Sy o c.2.1 c.2.2 R h fun u w sl' g' H' b' v1 v2 l R' pu pw k => ?_)
    exact idx_ok o.bx.u64 o.bx.hK R' pu pw (T.wb_bind.mp k) fun w v k rv => k g' v H' l R' rv
  · cases c⟩
def AllO (P : Ex → Prop) : Option Ex → Prop
  | none => True
  | some x => P x
theorem part_ok {x : Option Ex} {e : Option Expr} (S : AllO (SE tb N cl io cn f) x) (o : Xok tb N cl io cn f X sc) (c : chkO tb N sc x e = true) (R : Rl f g b sl σ H) {P : Option Int → Hp → Prop}
    (h : (oInt (evO cl io cn x) sl).wb b (fun q b' => ∀ g' H', g.le g' → Rl f g' b' q.2 σ H' → P q.1 H')) : tWO X e σ H P := by
  cases x with
  | none =>
    have c : e.isNone = true := c
    cases e with
    | some _ => cases c
    | none => exact h g H (Gh.le.refl g) R
  | some x =>
    cases e with
    | none => cases c
    | some e =>
      have S : SE tb N cl io cn f x := S
      refine S.int (P := fun i H1 => _) o c R (T.wb_mono (fun r b' k => ?_) (T.wb_bind.mp h))
      obtain ⟨⟨w, fr⟩, sl'⟩ := r
      cases w <;> first
        | exact k.elim
        | skip
      obtain ⟨k1, k⟩ := T.wb_guard k
      simp only [fits62, Bool.and_eq_true, decide_eq_true_eq] at k1
      exact ⟨_, rfl, fun g' H' l R' => k g' H' l R'⟩
theorem se_sli {x : Ex} {lo hi : Option Ex} (Sx : SE tb N cl io cn f x) (Sl : AllO (SE tb N cl io cn f) lo) (Sh : AllO (SE tb N cl io cn f) hi) : SE tb N cl io cn f (.sli x lo hi) := ⟨fun {X sc e} o c {sl σ H g b Q} R h => by
  unfold chkE at c
  split at c
  · rename_i hc
    obtain ⟨pp, rfl⟩ := asSub_ok hc
    split at c
    · rename_i hs
      obtain ⟨pq, rfl⟩ := asSli_ok hs
      simp only [Bool.and_eq_true] at c
      refine w_sli (Sx.hd o c.1 R (T.wb_mono (fun p b1 k1 g1 v1 H1 l1 R1 hv1 => ?_) (T.wb_bind.mp (show (kSli _ _ _ sl).wb b _ from h))))
      refine part_ok Sl o c.2.1 R1 (T.wb_mono (fun q b2 k2 g2 H2 l2 R2 => ?_) (T.wb_bind.mp k1))
      refine part_ok Sh o c.2.2 R2 (T.wb_mono (fun r b3 k3 g3 H3 l3 R3 => ?_) (T.wb_bind.mp k2))
      obtain ⟨u, k4, pu⟩ := ((hv1.le l2).le l3).get R3 (T.wb_bind.mp k3)
      exact sli_ok o.bx.hK R3 pu (T.wb_mono (fun w b4 k5 g4 v H4 l4 R4 vl => k5 g4 v H4 (((l1.trans l2).trans l3).trans l4) R4 vl) (T.wb_bind.mp k4))
    · cases c
  · cases c⟩
end
end Ev
end
end
section
set_option Elab.async false
set_option linter.all false
set_option maxRecDepth 100000
set_option maxHeartbeats 2000000
/-! EvExp2: built-ins, draws, calls, ranges as rows. -/
noncomputable section
namespace Ev
open PySem L2
set_option autoImplicit false
section
variable {tb : Tb} {N : List Str} {cl : Cl} {io : Nat → List Bool} {cn : Nat → W} {f : Fm}
variable {X : Cx} {sc : Scope} {e : Expr} {sl : Sl} {σ : St} {H : Hp} {g : Gh} {b : Nat} {Q : VK}

theorem biBoot (t : Bi) : bootBuiltins (biN t) = some (biV t) := by
  cases t <;> first
    | exact PyProof.Rows.boot_len
    | exact PyProof.Rows.boot_int
    | exact PyProof.Rows.boot_repr
    | exact PyProof.Rows.boot_tuple
    | exact PyProof.Rows.boot_list
    | exact PyProof.Rows.boot_sum
    | exact PyProof.Rows.boot_sorted
    | exact PyProof.Rows.boot_dict
    | exact PyProof.Rows.boot_min
    | exact PyProof.Rows.boot_max
    | exact PyProof.Rows.boot_abs
    | exact PyProof.Rows.boot_isinstance
    | exact PySem.boot_len
theorem biBad (t : Bi) : biN t ≠ "__name__" ∧ (biN t == ("__debug__" : Str)) = false ∧ biN t ∈ allBi := by
  cases t <;> exact ⟨by decide +kernel, by decide +kernel, by decide +kernel⟩
/-- a call of a built-in by its name -/
theorem w_callBi (t : Bi) {es : List Expr} {p pos : Pos} (hg : Gl X (biN t)) (hm : X.mg (biN t) = none) (hs : (e :: es).all (fun e => !starB e) = true)
    (h : tWA X (e :: es) σ H fun vs H1 => CallW X (biV t) vs H1 Q) : tW X (.Call (.Name (biN t) p) (e :: es) [] pos) σ H Q := by
  obtain ⟨n1, n2, _⟩ := biBad t
  have hb := biBoot t
  cases t <;> first
    | exact w_callB hg hm hb n1 n2 hs h
    | exact w_callTy hg hm hb n1 n2 hs h
theorem tyBoot {t : Bi} {n : String} (h : biT t = some n) : bootBuiltins (tyN n) = some (.type n) ∧ tyN n ≠ "__name__" ∧ (tyN n == ("__debug__" : Str)) = false ∧ tyN n ∈ allBi := by
  cases t <;> first
    | (cases h; done)
    | (cases h; refine ⟨?_, by decide +kernel, by decide +kernel, by decide +kernel⟩; first
        | exact PyProof.Rows.boot_int
        | exact PyProof.Rows.boot_bool
        | exact PyProof.Rows.boot_str
        | exact PyProof.Rows.boot_tuple
        | exact PyProof.Rows.boot_list
        | exact PyProof.Rows.boot_dict)
theorem se_bi {t : Bi} {es : Exs} (S : AllX (SE tb N cl io cn f) es) : SX tb N cl io cn f (.bi t es) := by
  have go : SE tb N cl io cn f (.bi t es) := ⟨fun {X sc e} o c {sl σ H g b Q} R h => by
    unfold chkE at c
    cases hc : calls sc (biN t) e with
    | none => rw [hc] at c; cases c
    | some fs =>
      rw [hc] at c
      obtain ⟨p, q, rfl, hg⟩ := calls_ok hc
      have hm := o.bi _ (biBad t).2.2
      have h : (kBi t (evL cl io cn es) sl).wb b _ := h
      cases ht : biT t with
      | none =>
        rw [ht] at c
        have c : chkL tb N sc es fs = true := c
        cases fs with
        | nil =>
          cases es with
          | cons _ _ => cases c
          | nil => exact (show T.wb ((biW t []).bind fun r => T.ok (r, sl)) b _ from h).elim
        | cons f1 fs =>
          refine w_callBi t (o.glo _ hg) hm (chkL_star c) (lH_ok S o c R (T.wb_mono (fun r b' k g' vs H' l R' hvs => ?_) (T.wb_bind.mp h)))
          obtain ⟨ws, k2, ps⟩ := hvs.get R' (T.wb_bind.mp k)
          have r2 := bi_ok (X := X) (Q := Q) o.bx o.hh R' ps t (T.wb_mono (fun r2 b2 k3 g2 v H2 l2 R2 vl => k3 g2 v H2 (l.trans l2) R2 vl) (T.wb_bind.mp k2))
          rw [show biX t = [] by unfold biX; rw [ht], List.append_nil] at r2
          exact r2
      | some n =>
        rw [ht] at c
        dsimp only at c
        split at c
        · rename_i f1 u
          rw [Bool.and_eq_true] at c
          obtain ⟨c1, c2⟩ := c
          cases hn : asName u with
          | none => rw [hn] at c2; cases c2
          | some y =>
            rw [hn] at c2
            obtain ⟨p2, rfl⟩ := asName_ok hn
            have c2 : (eqS y (tyN n) && gloB sc y) = true := c2
            rw [Bool.and_eq_true] at c2
            obtain ⟨c2, c3⟩ := c2
            have e2 := eqS_iff.mp c2
            subst e2
            obtain ⟨q1, q2, q3, q4⟩ := tyBoot ht
            have hs := chkL_star c1
            rw [List.all_cons, Bool.and_eq_true] at hs
            have c1' := c1
            cases es with
            | nil => cases c1
            | cons x xs =>
              cases xs with
              | cons _ _ =>
                have c1 : (!starB f1 && (chkE tb N sc x f1 && chkL tb N sc _ [])) = true := c1
                simp only [Bool.and_eq_true] at c1
                cases c1.2.2
              | nil =>
                have c1 : (!starB f1 && (chkE tb N sc x f1 && chkL tb N sc .nil [])) = true := c1
                simp only [Bool.and_eq_true, Bool.not_eq_true'] at c1
                refine w_callBi t (o.glo _ hg) hm (by rw [List.all_cons, hs.1]; rfl) ?_
                refine w_cons c1.1 (S.1.hd o c1.2.1 R (T.wb_mono (fun r b' k g' v H' l R' hv => ?_) (T.wb_bind.mp (T.wb_bind.mp h))))
                refine w_cons rfl (of_pe (pe_bltn (v := .ty n) (o.glo _ c3) (o.bi _ q4) q1 rfl q2 q3) (w_nil ?_))
                have k : T.wb ((getAll [r.1] r.2).bind fun ws => (biW t ws).bind fun x => T.ok (x, r.2)) b' _ := k
                obtain ⟨ws, k2, ps⟩ := HVs.get (hs := [r.1]) R' (.cons hv .nil) (T.wb_bind.mp k)
                have r2 := bi_ok (X := X) (Q := Q) o.bx o.hh R' ps t (T.wb_mono (fun r2 b2 k3 g2 v H2 l2 R2 vl => k3 g2 v H2 (l.trans l2) R2 vl) (T.wb_bind.mp k2))
                rw [show biX t = [.ty n] by unfold biX; rw [ht]] at r2
                exact r2
        · cases c⟩
  refine ⟨go, ST.of go fun {sc e} c => ?_⟩
  unfold chkE at c
  cases hc : calls sc (biN t) e with
  | none => rw [hc] at c; cases c
  | some fs =>
    obtain ⟨p, q, rfl, hg⟩ := calls_ok hc
    rfl
theorem rng_rvs : ∀ (n : Nat) (a : Int), RVs f.K f.G g (rngL a n) ((List.range n).map fun i => V.int (a + (i : Nat)))
  | 0, _ => .nil
  | n + 1, a => by
    rw [List.range_succ_eq_map, List.map_cons, List.map_map]
    have h := rng_rvs n (a + 1)
    have e1 : (List.range n).map ((fun i : Nat => V.int (a + (i : Nat))) ∘ Nat.succ) = (List.range n).map fun i => V.int (a + 1 + (i : Nat)) := by
      refine List.map_congr_left fun i _ => ?_
      show V.int (a + ((i + 1 : Nat) : Int)) = V.int (a + 1 + (i : Nat))
      congr 1
      omega
    rw [e1]
    have e0 : V.int (a + ((0 : Nat) : Int)) = V.int a := by congr 1; omega
    rw [e0]
    exact .cons (.int a) h
theorem rng_len : ∀ (n : Nat) (a : Int), (rngL a n).length = n
  | 0, _ => rfl
  | n + 1, a => congrArg (· + 1) (rng_len n (a + 1))
theorem fits_ok {i : Int} (h : fits62 i = true) : -(2 ^ 62) ≤ i ∧ i < 2 ^ 62 := by
  simp only [fits62, Bool.and_eq_true, decide_eq_true_eq] at h
  exact h
def AllI (P : Ex → Prop) : It → Prop
  | .seq e => P e
  | .txt e => P e
  | .rng1 a => P a
  | .rng2 a b => P a ∧ P b
  | .rng3 a b c => P a ∧ P b ∧ P c
  | .enum e => P e
  | .zip a b => P a ∧ P b
  | .enumZip a b => P a ∧ P b
theorem int2_wb {x y : W} {F : Int → Int → T (List W × Sl)} {P : List W × Sl → Nat → Prop} (h : (int2 x y F).wb b P) : ∃ i j, x = .int i ∧ y = .int j ∧ (F i j).wb b P := by
  cases x <;> first
    | exact h.elim
    | (cases y <;> first
        | exact h.elim
        | exact ⟨_, _, rfl, rfl, h⟩)
theorem se_conv {tp : Bool} {it : It} (S : AllI (SE tb N cl io cn f) it) : SE tb N cl io cn f (.conv tp it) := ⟨fun {X sc e} o c {sl σ H g b Q} R h => by
  unfold chkE at c
  have hl : ("list" : Str) ∈ allBi := by decide +kernel
  have ht : ("tuple" : Str) ∈ allBi := by decide +kernel
  have hr : ("range" : Str) ∈ allBi := by decide +kernel
  have hn : (if tp = true then ("tuple" : Str) else "list") ∈ allBi := by cases tp <;> assumption
  have fin : ∀ {g' : Gh} {b' : Nat} {sl' : Sl} {H' : Hp} {i j : Int}, g.le g' → Rl f g' b' sl' σ H' →
      (T.guard (Nat.ble (rngL i (j - i).toNat).length sizeLine) (cond tp (T.ok ((W.tup (rngL i (j - i).toNat), false), sl')) (T.ok ((W.lst (rngL i (j - i).toNat), true), sl')))).wb b' (fun r b' => ∀ g' v H', g.le g' → Rl f g' b' r.2 σ H' → Vl f g' H' r.2 σ r.1 v → Q v H') →
      (j - i).toNat ≤ sizeLine ∧ ∀ q, H' q = none → Q (.ref q) (upd H' q (if tp = true then .tup (rgV i j) else .lst (rgV i j))) := fun {g' b' sl' H' i j} l R' k => by
    obtain ⟨k1, k⟩ := T.wb_guard k
    have k1 := Nat.le_of_ble_eq_true k1
    rw [rng_len] at k1
    refine ⟨k1, fun q hq => ?_⟩
    have rv : RVs f.K f.G g' (rngL i (j - i).toNat) (rgV i j) := rng_rvs _ _
    cases tp with
    | true =>
      obtain ⟨g2, l2, R2, rv⟩ := R'.newT hq rv
      exact k g2 _ _ (l.trans l2) R2 rv
    | false =>
      obtain ⟨R2, rv⟩ := R'.newL hq rv
      exact k g' _ _ l R2 rv
  split at c
  · rename_i f1 hc
    obtain ⟨p, q, rfl, hg⟩ := calls_ok hc
    cases hc2 : calls sc "range" f1 with
    | none => rw [hc2] at c; cases c
    | some fs =>
      rw [hc2] at c
      obtain ⟨p2, q2, rfl, hg2⟩ := calls_ok hc2
      have h : (kConv tp (evI cl io cn it) sl).wb b _ := h
      cases it with
      | rng1 a =>
        unfold chkR at c
        dsimp only at c
        split at c
        · simp only [Bool.and_eq_true, Bool.not_eq_true'] at c
          have S : SE tb N cl io cn f a := S
          refine w_rg1 o.bx.calm (o.glo _ hg2) (o.bi _ hr) c.1 (o.glo _ hg) (o.bi _ hn) (S.int (P := fun n H1 => _) o c.2 R (T.wb_mono (fun r b' k => ?_) (T.wb_bind.mp (T.wb_bind.mp h))))
          obtain ⟨⟨w, fr⟩, sl'⟩ := r
          cases w <;> first
            | exact k.elim
            | skip
          rename_i j
          obtain ⟨k1, k⟩ := T.wb_guard k
          refine ⟨j, rfl, fun g' H' l R' => ?_⟩
          obtain ⟨z1, z2⟩ := fits_ok k1
          have k : (T.guard (Nat.ble (rngL 0 j.toNat).length sizeLine) (cond tp (T.ok ((W.tup (rngL 0 j.toNat), false), sl')) (T.ok ((W.lst (rngL 0 j.toNat), true), sl')))).wb b' _ := k
          have ej : j.toNat = (j - 0).toNat := by rw [Int.sub_zero]
          rw [ej] at k
          obtain ⟨y1, y2⟩ := fin l R' k
          exact ⟨⟨by decide, by decide, z1, z2, by rw [sizeLine_eq] at y1; omega⟩, y2⟩
        · cases c
      | rng2 a a2 =>
        unfold chkR at c
        dsimp only at c
        split at c
        · simp only [Bool.and_eq_true, Bool.not_eq_true'] at c
          have S : SE tb N cl io cn f a ∧ SE tb N cl io cn f a2 := S
          refine w_rg2 o.bx.calm (o.glo _ hg2) (o.bi _ hr) c.1 c.2.1 (o.glo _ hg) (o.bi _ hn) (S.1.kn o c.2.2.1 R (T.wb_mono (fun r b' k g1 v1 H1 l1 R1 rv1 => ?_) (T.wb_bind.mp (T.wb_bind.mp h))))
          refine S.2.kn o c.2.2.2 R1 (T.wb_mono (fun r2 b2 k2 g2 v2 H2 l2 R2 rv2 => ?_) (T.wb_bind.mp k))
          obtain ⟨i, j, e1, e2, k3⟩ := int2_wb k2
          rw [e1] at rv1
          rw [e2] at rv2
          cases rv1
          cases rv2
          obtain ⟨k4, k5⟩ := T.wb_guard k3
          rw [Bool.and_eq_true] at k4
          obtain ⟨z1, z2⟩ := fits_ok k4.1
          obtain ⟨z3, z4⟩ := fits_ok k4.2
          obtain ⟨y1, y2⟩ := fin (l1.trans l2) R2 k5
          exact ⟨i, j, rfl, rfl, ⟨z1, z2, z3, z4, by rw [sizeLine_eq] at y1; omega⟩, y2⟩
        · cases c
      | _ => cases c
  · cases c⟩
theorem se_draw {m l : Ex} (Sm : SE tb N cl io cn f m) (Sl : SE tb N cl io cn f l) : SE tb N cl io cn f (.draw m l) := ⟨fun {X sc e} o c {sl σ H g b Q} R h => by
  unfold chkE at c
  split at c
  · rename_i m' l' hc
    obtain ⟨p, q, rfl, hg⟩ := calls_ok hc
    simp only [Bool.and_eq_true, Bool.not_eq_true'] at c
    obtain ⟨fa, hm, hk, hd⟩ := o.drw
    refine w_callF (o.glo _ hg) hm hk (by decide +kernel) (by rw [List.all_cons, List.all_cons, c.1, c.2.1]; rfl) ?_
    refine w_cons c.1 (Sm.kn o c.2.2.1 R (T.wb_mono (fun r b' k g1 v1 H1 l1 R1 rv1 => ?_) (T.wb_bind.mp (show (kDraw _ _ sl).wb b _ from h))))
    refine w_cons c.2.1 (Sl.kn o c.2.2.2 R1 (T.wb_mono (fun r2 b2 k2 g2 v2 H2 l2 R2 rv2 => w_nil ?_) (T.wb_bind.mp k)))
    obtain ⟨⟨w, fr⟩, sl1⟩ := r
    obtain ⟨⟨w2, fr2⟩, sl2⟩ := r2
    cases w <;> first
      | exact k2.elim
      | skip
    cases w2 <;> first
      | exact k2.elim
      | skip
    rename_i n
    obtain ⟨k3, k4⟩ := T.wb_guard k2
    simp only [Bool.and_eq_true, decide_eq_true_eq] at k3
    have rv2 : RV f.K f.G g2 (.int n) v2 := rv2
    cases rv2
    cases b2 with
    | zero => exact k4.elim
    | succ b2 => exact hd X f (Sib.refl X) rfl rfl g2 b2 sl2 σ H2 v1 n Q R2 (rv1.le l2) k3.1 k3.2 fun d hlt g3 H3 l3 R3 => k4 d hlt g3 _ H3 ((l1.trans l2).trans l3) R3 (.int _)
  · cases c⟩

/-! ### calls of defs -/
inductive ARs (f : Fm) (g : Gh) (σ : St) : List (Nat ⊕ W) → List V → Prop
  | nil : ARs f g σ [] []
  | slot {i : Nat} {v : V} {ys : List (Nat ⊕ W)} {vs : List V} : σ[i]? = some (some v) → ARs f g σ ys vs → ARs f g σ (.inl i :: ys) (v :: vs)
  | val {w : W} {v : V} {ys : List (Nat ⊕ W)} {vs : List V} : RV f.K f.G g w v → ARs f g σ ys vs → ARs f g σ (.inr w :: ys) (v :: vs)
theorem lArgs_ok : ∀ {es : Exs} {fs : List Expr} {bs : List Bool}, AllX (SE tb N cl io cn f) es → Xok tb N cl io cn f X sc → chkL tb N sc es fs = true → ∀ {sl : Sl} {H : Hp} {g : Gh} {b : Nat} {Q : List V → Hp → Prop}, Rl f g b sl σ H →
    (lArgs bs (evL cl io cn es) sl).wb b (fun p b' => ∀ g' vs H', g.le g' → Rl f g' b' p.2 σ H' → ARs f g' σ p.1 vs → Q vs H') → tWA X fs σ H Q
  | .nil, fs, bs, _, o, c, sl, H, g, b, Q, R, h => by
    have c : fs.isEmpty = true := c
    rw [List.isEmpty_iff] at c
    subst c
    refine w_nil ?_
    cases bs <;> exact h g [] H (Gh.le.refl g) R .nil
  | .cons x es, fs, bs, S, o, c, sl, H, g, b, Q, R, h => by
    cases fs with
    | nil => cases c
    | cons e fs =>
      have c : (!starB e && (chkE tb N sc x e && chkL tb N sc es fs)) = true := c
      simp only [Bool.and_eq_true, Bool.not_eq_true'] at c
      have h : T.wb (lArgs bs ((isV x, evE cl io cn x) :: evL cl io cn es) sl) b _ := h
      unfold lArgs at h
      cases hb : bs.headD false with
      | false =>
        rw [hb] at h
        refine w_cons c.1 (S.1.kn o c.2.1 R (T.wb_mono (fun r b' k g' v H' l R' rv => ?_) (T.wb_bind.mp h)))
        refine lArgs_ok S.2 o c.2.2 R' (T.wb_mono (fun p b2 k2 g2 vs H2 l2 R2 rvs => ?_) (T.wb_bind.mp k))
        exact k2 g2 (v :: vs) H2 (l.trans l2) R2 (.val (rv.le l2) rvs)
      | true =>
        rw [hb] at h
        cases hx : isV x with
        | none =>
          rw [hx] at h
          exact h.elim
        | some i =>
          rw [hx] at h
          have ex : x = .var i := by
            cases x <;> first
              | (cases hx; done)
              | (cases hx; rfl)
          subst ex
          obtain ⟨w, ew, h⟩ := own_wb (T.wb_bind.mp h)
          obtain ⟨a, s1, _⟩ := R.own i w ew
          have c2 := c.2.1
          unfold chkE at c2
          cases hn : asName e with
          | none => rw [hn] at c2; cases c2
          | some y =>
            rw [hn] at c2
            obtain ⟨p, rfl⟩ := asName_ok hn
            simp only [Bool.and_eq_true, okN, Bool.not_eq_true'] at c2
            obtain ⟨c3, c4, c5, c6, _⟩ := c2
            refine w_cons c.1 (w_var (by rw [o.hN]; exact atB_ok c3) (o.vis y c4) c5 c6 s1 ?_)
            refine lArgs_ok S.2 o c.2.2 R (T.wb_mono (fun p b2 k2 g2 vs H2 l2 R2 rvs => ?_) (T.wb_bind.mp h))
            exact k2 g2 (.ref a :: vs) H2 l2 R2 (.slot s1 rvs)
inductive IsA (σ : St) : List Nat → List Addr → Prop
  | nil : IsA σ [] []
  | cons {i : Nat} {a : Addr} {is : List Nat} {as : List Addr} : σ[i]? = some (some (.ref a)) → IsA σ is as → IsA σ (i :: is) (a :: as)
def NoOwn (sl : Sl) (σ : St) (as : List Addr) : Prop := ∀ a ∈ as, ∀ (i : Nat) u, sl[i]? = some (some (u, true)) → σ[i]? ≠ some (some (.ref a))
theorem ioTake_ok : ∀ {ys : List (Nat ⊕ W)} {vs : List V} {sl : Sl} {P : (List R × List Nat) × Sl → Nat → Prop}, ARs f g σ ys vs → Rl f g b sl σ H → (ioTake ys sl).wb b P →
    ∃ args is as sl', P ((args, is), sl') b ∧ Rl f g b sl' σ H ∧ ArgsR f g H sl' σ args vs as ∧ IsA σ is as ∧ as.Nodup ∧ (∀ a ∈ as, f.H0 a = none ∨ a ∈ f.IO) ∧ NoOwn sl' σ as ∧
      (∀ a ∈ as, ∃ (i : Nat) (u : W), sl[i]? = some (some (u, true)) ∧ σ[i]? = some (some (.ref a))) ∧ (∀ (i : Nat) (u : W), sl'[i]? = some (some (u, true)) → sl[i]? = some (some (u, true)))
  | _, _, sl, _, .nil, R, h => ⟨[], [], [], sl, h, R, .nil, .nil, .nil, fun _ h => (List.not_mem_nil h).elim, fun _ h => (List.not_mem_nil h).elim, fun _ h => (List.not_mem_nil h).elim, fun _ _ h => h⟩
  | _, _, sl, _, .val rv rs, R, h => by
    obtain ⟨args, is, as, sl', h, R', a1, a2, a3, a4, a5, a6, a7⟩ := ioTake_ok rs R (T.wb_bind.mp h)
    exact ⟨_ :: args, is, as, sl', h, R', .frz rv a1, a2, a3, a4, a5, a6, a7⟩
  | _, _, sl, _, .slot (i := i) (v := v) hv rs, R, h => by
    obtain ⟨w, ew, h⟩ := own_wb (T.wb_bind.mp h)
    obtain ⟨a, s1, o1, o2, o3, o4⟩ := R.own i w ew
    rw [hv] at s1
    cases s1
    rw [sett_eq] at h
    have R1 : Rl f g b (sl.set i none) σ H := R.setN
    obtain ⟨args, is, as, sl', h, R', a1, a2, a3, a4, a5, a6, a7⟩ := ioTake_ok rs R1 (T.wb_bind.mp h)
    have not1 : ∀ (k : Nat) u, (sl.set i none)[k]? = some (some (u, true)) → σ[k]? ≠ some (some (.ref a)) := fun k u q z => by
      rcases sl_set q with ⟨_, q'⟩ | ⟨e1, q'⟩
      · cases q'
      · exact e1 (R.inj i k w u a ew q' hv z)
    have na : a ∉ as := fun hm => by
      obtain ⟨k, u, q1, q2⟩ := a6 a hm
      exact not1 k u q1 q2
    have sub : ∀ (k : Nat) (u : W), (sl.set i none)[k]? = some (some (u, true)) → sl[k]? = some (some (u, true)) := fun k u q => by
      rcases sl_set q with ⟨_, q'⟩ | ⟨e1, q'⟩
      · cases q'
      · exact q'
    refine ⟨(w, true) :: args, i :: is, a :: as, sl', h, R', .own o1 o2 o3 o4 (fun k u q => not1 k u (a7 k u q)) na a1, .cons hv a2, List.nodup_cons.mpr ⟨na, a3⟩, ?_, ?_, ?_, fun k u q => sub k u (a7 k u q)⟩
    · intro c hc
      rcases List.mem_cons.mp hc with e | e
      · subst e; exact o4
      · exact a4 c e
    · intro c hc
      rcases List.mem_cons.mp hc with e | e
      · subst e; exact fun k u q => not1 k u (a7 k u q)
      · exact a5 c e
    · intro c hc
      rcases List.mem_cons.mp hc with e | e
      · subst e; exact ⟨i, w, ew, hv⟩
      · obtain ⟨k, u, q1, q2⟩ := a6 c e
        exact ⟨k, u, sub k u q1, q2⟩
theorem set_same {σ : St} {i : Nat} {v : V} (h : σ[i]? = some (some v)) : σ.set i (some v) = σ := by
  refine List.ext_getElem? fun j => ?_
  by_cases hj : i = j
  · subst hj
    rw [List.getElem?_set_self (List.getElem?_eq_some_iff.mp h).1, h]
  · rw [List.getElem?_set_ne hj]
theorem putBack_ok : ∀ {is : List Nat} {as : List Addr} {ws : List W} {sl : Sl} {P : Sl → Nat → Prop}, IsA σ is as → TmR f g H as ws → Rl f g b sl σ H → as.Nodup → (∀ a ∈ as, f.H0 a = none ∨ a ∈ f.IO) → NoOwn sl σ as →
    (putBack is ws sl).wb b P → ∃ sl', P sl' b ∧ Rl f g b sl' σ H ∧ (∀ (i : Nat) (u : W), sl'[i]? = some (some (u, true)) → sl[i]? = some (some (u, true)) ∨ ∃ a ∈ as, σ[i]? = some (some (.ref a)))
  | _, _, _, sl, _, .nil, .nil, R, _, _, _, h => ⟨sl, h, R, fun _ _ q => .inl q⟩
  | _, _, _, sl, P, .cons (i := i) (a := a) (as := as) s1 r1, .cons (w := w) (ws := ws) oa hF hD r2, R, nd, h0, no, h => by
    have R1 : Rl f g b (sl.set i (some (w, true))) σ H := by
      have := R.setO (i := i) oa hF hD (h0 a (List.mem_cons_self ..)) fun j u _ q => no a (List.mem_cons_self ..) j u q
      rw [set_same s1] at this
      exact this
    rw [List.nodup_cons] at nd
    have h : (putBack _ ws (sett sl i (some (w, true)))).wb b P := h
    rw [sett_eq] at h
    obtain ⟨sl', h, R', q⟩ := putBack_ok r1 r2 R1 nd.2 (fun c hc => h0 c (List.mem_cons_of_mem _ hc)) (fun c hc k u q z => by
      rcases sl_set q with ⟨e, _⟩ | ⟨e, q⟩
      · subst e
        rw [s1] at z
        cases z
        exact nd.1 hc
      · exact no c (List.mem_cons_of_mem _ hc) k u q z) h
    refine ⟨sl', h, R', fun k u z => ?_⟩
    rcases q k u z with y | ⟨c, hc, y⟩
    · rcases sl_set y with ⟨e, _⟩ | ⟨e, y⟩
      · subst e
        exact .inr ⟨a, List.mem_cons_self .., s1⟩
      · exact .inl y
    · exact .inr ⟨c, List.mem_cons_of_mem _ hc, y⟩
theorem se_call {j : Nat} {es : Exs} (S : AllX (SE tb N cl io cn f) es) : SX tb N cl io cn f (.call j es) := by
  have go : SE tb N cl io cn f (.call j es) := ⟨fun {X sc e} o c {sl σ H g b Q} R h => by
    unfold chkE at c
    cases hc : asCall e with
    | none => rw [hc] at c; cases c
    | some y =>
      rw [hc] at c
      obtain ⟨x, fs⟩ := y
      obtain ⟨p, q, rfl⟩ := asCall_ok hc
      simp only [Bool.and_eq_true, okN, Bool.not_eq_true'] at c
      obtain ⟨c1, c2, ⟨c3, _⟩, c4⟩ := c
      obtain ⟨fa, hm, hk, hf⟩ := o.fn j x (atB_ok c1)
      have h : (kCall cl io j (evL cl io cn es) sl).wb b _ := h
      have inner : ∀ {vs : List V} {ys : List (Nat ⊕ W)} {sl1 : Sl} {b' : Nat} {g' : Gh} {H' : Hp}, g.le g' → Rl f g' b' sl1 σ H' → ARs f g' σ ys vs →
          T.wb ((ioTake ys sl1).bind fun t => (cl j t.1.1).bind fun r => (putBack t.1.2 r.2 t.2).bind fun sl => T.ok (r.1, sl)) b' (fun r b' => ∀ g' v H', g.le g' → Rl f g' b' r.2 σ H' → Vl f g' H' r.2 σ r.1 v → Q v H') → CallW X (.ref fa) vs H' Q := fun {vs ys sl1 b' g' H'} l R' ar k => by
        obtain ⟨args, is, as, sl2, k, R2, a1, a2, a3, a4, a5, a6, a7⟩ := ioTake_ok ar R' (T.wb_bind.mp k)
        refine hf X f (Sib.refl X) rfl rfl g' b' sl2 σ H' args vs as Q R2 a1 (T.wb_mono (fun r b3 k3 g3 v H3 l3 R3 tm vl nv => ?_) (T.wb_bind.mp k))
        obtain ⟨sl4, k4, R4, q4⟩ := putBack_ok a2 tm R3 a3 a4 a5 (T.wb_bind.mp k3)
        refine k4 g3 v H3 (l.trans l3) R4 ?_
        obtain ⟨⟨w, fr⟩, ws⟩ := r
        cases fr with
        | false => exact vl
        | true =>
          obtain ⟨a, e1, z1, z2, z3, z4, z5⟩ := vl
          refine ⟨a, e1, z1, z2, z3, z4, fun k u y => ?_⟩
          rcases q4 k u y with y | ⟨c, hc, y⟩
          · exact z5 k u y
          · intro z
            have z : σ[k]? = some (some (.ref a)) := z
            rw [y] at z
            cases z
            exact nv rfl _ hc e1
      cases fs with
      | nil =>
        cases es with
        | cons _ _ => cases c4
        | nil =>
          refine w_callF0 (o.glo x c2) hm hk c3 ?_
          have h2 := T.wb_bind.mp h
          refine inner (Gh.le.refl g) R .nil (ys := []) (sl1 := sl) (b' := b) ?_
          cases e1 : io j <;> (rw [e1] at h2; exact h2)
      | cons f1 fs =>
        refine w_callF (o.glo x c2) hm hk c3 (chkL_star c4) ?_
        refine lArgs_ok S o c4 R (T.wb_mono (fun r b' k g' vs H' l R' ar => ?_) (T.wb_bind.mp h))
        exact inner l R' ar k⟩
  refine ⟨go, ST.of go fun {sc e} c => ?_⟩
  unfold chkE at c
  cases hc : asCall e with
  | none => rw [hc] at c; cases c
  | some y =>
    obtain ⟨p, q, rfl⟩ := asCall_ok hc
    rfl
end
end Ev
end
end
section
set_option Elab.async false
set_option linter.all false
set_option maxRecDepth 100000
set_option maxHeartbeats 2000000
/-! EvIt: targets, what a loop walks. -/
noncomputable section
namespace Ev
open PySem L2
set_option autoImplicit false
section
variable {f : Fm} {g g' : Gh} {b b' : Nat} {sl sl' : Sl} {σ σ' : St} {H H' : Hp}
theorem Rl.sig (R : Rl f g b sl σ H) (hl : σ'.length = σ.length) (h : ∀ (i : Nat) r, sl[i]? = some (some r) → σ'[i]? = σ[i]?) : Rl f g b sl σ' H :=
  { R with
    len := R.len.trans hl.symm
    frz := fun i w e => by rw [h i _ e]; exact R.frz i w e
    own := fun i w e => by rw [h i _ e]; exact R.own i w e
    inj := fun i j w w' a h1 h2 h3 h4 => by
      rw [h i _ h1] at h3
      rw [h j _ h2] at h4
      exact R.inj i j w w' a h1 h2 h3 h4 }
def NoSlot (sl : Sl) (σ : St) (a : Addr) : Prop := ∀ (i : Nat) w, sl[i]? = some (some (w, true)) → σ[i]? ≠ some (some (.ref a))
/-- a thing that no slot owns changes -/
theorem Rl.chg {a : Addr} {o : HO} (R : Rl f g b sl σ H) (hF : g.F a = none) (hD : a ∉ dAdr g.D) (h0 : f.H0 a = none ∨ a ∈ f.IO) (hs : NoSlot sl σ a) : Rl f g b sl σ (upd H a o) :=
  { R with
    sub := fun c u e => by
      rw [upd_ne (ne_of_none e hF)]
      exact R.sub c u e
    kee := fun c u e1 e2 e3 => by
      have hca : c ≠ a := fun z => by
        subst z
        rcases h0 with z | z
        · rw [z] at e1; cases e1
        · exact e2 z
      rw [upd_ne hca]
      exact R.kee c u e1 e2 e3
    orc := fun d hd => (R.orc d hd).le (Nat.le_refl _) fun c hc x hx => by
      have hca : c ≠ a := fun z => by
        subst z
        rw [hd] at hD
        exact hD hc
      rw [upd_ne hca]
      exact hx
    ioS := fun c hc => by
      by_cases hca : c = a
      · subst hca
        exact ⟨o, upd_same⟩
      · rw [upd_ne hca]
        exact R.ioS c hc
    own := fun i w h => by
      obtain ⟨c, h1, h2, h3⟩ := R.own i w h
      have hca : c ≠ a := fun z => by
        subst z
        exact hs i w h h1
      exact ⟨c, h1, h2.le (Gh.le.refl g) fun u hu => by rw [upd_ne hca]; exact hu, h3⟩ }
/-- one more thing is kept -/
def Fm.hold (f : Fm) (g : Gh) (a : Addr) (o : HO) : Fm := ⟨f.K, f.G, upd f.H0 a o, g, f.IO, f.nod⟩
structure Held (f : Fm) (g : Gh) (sl : Sl) (σ : St) (H : Hp) (a : Addr) (o : HO) : Prop where
  at_ : H a = some o
  hF : g.F a = none
  hD : a ∉ dAdr g.D
  hI : a ∉ f.IO
  h0 : f.H0 a = none
  hs : NoSlot sl σ a
theorem Rl.enter {a : Addr} {o : HO} (R : Rl f g b sl σ H) (h : Held f g sl σ H a o) : Rl (f.hold g a o) g b sl σ H :=
  { R with
    kee := fun c u e1 e2 e3 => by
      by_cases hca : c = a
      · subst hca
        have e1 : upd f.H0 c o c = some u := e1
        rw [upd_same] at e1
        cases e1
        exact h.at_
      · have e1 : upd f.H0 a o c = some u := e1
        rw [upd_ne hca] at e1
        exact R.kee c u e1 e2 e3
    new := fun c u e => .inl e
    d0 := fun c hc => .inl hc
    own := fun i w e => by
      obtain ⟨c, h1, h2, h3, h4, h5⟩ := R.own i w e
      refine ⟨c, h1, h2, h3, h4, ?_⟩
      rcases h5 with z | z
      · left
        show upd f.H0 a o c = none
        have hca : c ≠ a := fun y => by
          subst y
          exact h.hs i w e h1
        rw [upd_ne hca]
        exact z
      · exact .inr z }
theorem hold_ne {a c : Addr} {o : HO} (e : (f.hold g a o).H0 c = none) : c ≠ a ∧ f.H0 c = none := by
  have e : upd f.H0 a o c = none := e
  by_cases hca : c = a
  · subst hca
    rw [upd_same] at e
    cases e
  · rw [upd_ne hca] at e
    exact ⟨hca, e⟩
theorem Rl.leave {a : Addr} {o : HO} (R : Rl f g b sl σ H) (h : Held f g sl σ H a o) (R' : Rl (f.hold g a o) g' b' sl' σ' H') : Rl f g' b' sl' σ' H' ∧ Held f g' sl' σ' H' a o := by
  have hD : a ∉ dAdr g'.D := fun z => by
    rcases R'.d0 a z with y | y
    · exact h.hD y
    · exact (hold_ne y).1 rfl
  refine ⟨{ R' with
    kee := fun c u e1 e2 e3 => by
      have hca : c ≠ a := fun z => by
        subst z
        rw [h.h0] at e1
        cases e1
      exact R'.kee c u (by show upd f.H0 a o c = some u; rw [upd_ne hca]; exact e1) e2 e3
    new := fun c u e => by
      rcases R'.new c u e with z | z | z
      · exact R.new c u z
      · exact .inr (.inl (hold_ne z).2)
      · exact .inr (.inr z)
    d0 := fun c hc => by
      rcases R'.d0 c hc with z | z
      · exact R.d0 c z
      · exact .inr (hold_ne z).2
    own := fun i w e => by
      obtain ⟨c, h1, h2, h3, h4, h5⟩ := R'.own i w e
      refine ⟨c, h1, h2, h3, h4, ?_⟩
      rcases h5 with z | z
      · exact .inl (hold_ne z).2
      · exact .inr z }, ?_⟩
  refine ⟨R'.kee a o (by show upd f.H0 a o a = some o; exact upd_same) h.hI hD, ?_, hD, h.hI, h.h0, fun i w e z => ?_⟩
  · cases e : g'.F a with
    | none => rfl
    | some u =>
      rcases R'.new a u e with z | z | z
      · have z : g.F a = some u := z
        rw [h.hF] at z
        cases z
      · exact ((hold_ne z).1 rfl).elim
      · exact (h.hI z).elim
  · obtain ⟨c, h1, h2, h3, h4, h5⟩ := R'.own i w e
    rw [z] at h1
    cases h1
    rcases h5 with y | y
    · exact (hold_ne y).1 rfl
    · exact h.hI y
end

/-! ### targets -/
mutual
def gOf (K : PySem.W.Frag) : Tg → TG
  | .nm i => gName i
  | .tp ts => gTup K ts.length (gsOf K ts)
def gsOf (K : PySem.W.Frag) : List Tg → TGs
  | [] => gNil
  | t :: ts => gCons (gOf K t) (gsOf K ts)
end
theorem each_cons {e : Expr} {es : List Expr} {env : Env} (h : starB e = false) : assignEach (e :: es) env = (false, assign e env) :: assignEach es env := by
  cases e <;> first
    | rfl
    | cases h
section
variable {tb : Tb} {N : List Str} {cl : Cl} {io : Nat → List Bool} {cn : Nat → W} {f : Fm} {X : Cx} {sc : Scope}
theorem chkGs_each {env : Env} : ∀ {ts : List Tg} {es : List Expr}, chkGs N sc ts es = true → (assignEach es env).length = ts.length ∧ (assignEach es env).findIdx? (·.1) = none
  | [], es, c => by
    unfold chkGs at c
    rw [List.isEmpty_iff] at c
    subst c
    exact ⟨rfl, rfl⟩
  | t :: ts, es, c => by
    unfold chkGs at c
    cases es with
    | nil => cases c
    | cons e es =>
      dsimp only at c
      simp only [Bool.and_eq_true, Bool.not_eq_true'] at c
      obtain ⟨h1, h2⟩ := chkGs_each (env := env) c.2.2
      rw [each_cons c.1]
      refine ⟨congrArg (· + 1) h1, ?_⟩
      rw [List.findIdx?_cons]
      simp only [h2]
      rfl
mutual
theorem pg_of (o : Xok tb N cl io cn f X sc) : ∀ {t : Tg} {e : Expr}, chkG N sc t e = true → PG X e (gOf X.K t)
  | .nm i, e, c => by
    unfold chkG at c
    cases hn : asName e with
    | none => rw [hn] at c; cases c
    | some x =>
      rw [hn] at c
      obtain ⟨p, rfl⟩ := asName_ok hn
      have c : (atB N i x && locB sc x) = true := c
      rw [Bool.and_eq_true] at c
      obtain ⟨l1, l2⟩ := o.loc x c.2
      exact pg_name (by rw [o.hN]; exact o.nd) (by rw [o.hN]; exact atB_ok c.1) l1 l2
  | .tp ts, e, c => by
    unfold chkG at c
    cases hn : asTup e with
    | none => rw [hn] at c; cases c
    | some es =>
      rw [hn] at c
      obtain ⟨p, q, rfl⟩ := asTup_ok hn
      have c : chkGs N sc ts es = true := c
      obtain ⟨h1, h2⟩ := chkGs_each (env := X.env) c
      exact pg_tup o.bx.calm (pgs_of o c) h1 h2
theorem pgs_of (o : Xok tb N cl io cn f X sc) : ∀ {ts : List Tg} {es : List Expr}, chkGs N sc ts es = true → PGs X es (gsOf X.K ts)
  | [], es, c => by
    unfold chkGs at c
    rw [List.isEmpty_iff] at c
    subst c
    exact pgs_nil
  | t :: ts, es, c => by
    unfold chkGs at c
    cases es with
    | nil => cases c
    | cons e es =>
      dsimp only at c
      simp only [Bool.and_eq_true, Bool.not_eq_true'] at c
      exact pgs_cons (pg_of o c.2.1) (pgs_of o c.2.2) (by rw [each_cons c.1]; rfl)
end
end
mutual
/-- the slots of a target -/
def tIx : Tg → List Nat
  | .nm i => [i]
  | .tp ts => tIxs ts
def tIxs : List Tg → List Nat
  | [] => []
  | t :: ts => tIx t ++ tIxs ts
end
section
variable {f : Fm} {g g' : Gh} {b b' : Nat} {σ σ' : St} {H H' : Hp}
def SameOut (l : List Nat) (σ σ' : St) : Prop := σ'.length = σ.length ∧ ∀ i, i ∉ l → σ'[i]? = σ[i]?
theorem SameOut.refl (l : List Nat) (σ : St) : SameOut l σ σ := ⟨rfl, fun _ _ => rfl⟩
theorem SameOut.trans {l : List Nat} {σ1 σ2 σ3 : St} (a : SameOut l σ1 σ2) (c : SameOut l σ2 σ3) : SameOut l σ1 σ3 := ⟨c.1.trans a.1, fun i h => (c.2 i h).trans (a.2 i h)⟩
theorem SameOut.mono {l l' : List Nat} {σ1 σ2 : St} (a : SameOut l σ1 σ2) (h : ∀ i, i ∈ l → i ∈ l') : SameOut l' σ1 σ2 := ⟨a.1, fun i hi => a.2 i fun z => hi (h i z)⟩
mutual
theorem setG_ex : ∀ {t : Tg} {w : W} {fr : Bool} {sl : Sl} {P : Sl → Nat → Prop}, (setG t w fr sl).wb b P → ∃ sl', P sl' b
  | .nm i, w, fr, sl, P, h => ⟨_, h⟩
  | .tp ts, w, fr, sl, P, h => by
    cases w with
    | tup ws => exact setGs_ex h
    | _ => exact h.elim
theorem setGs_ex : ∀ {ts : List Tg} {ws : List W} {sl : Sl} {P : Sl → Nat → Prop}, (setGs ts ws sl).wb b P → ∃ sl', P sl' b
  | [], [], _, _, h => ⟨_, h⟩
  | [], _ :: _, _, _, h => h.elim
  | _ :: _, [], _, _, h => h.elim
  | t :: ts, w :: ws, sl, P, h => by
    obtain ⟨sl', h⟩ := setG_ex (T.wb_bind.mp h)
    exact setGs_ex h
end
theorem setGs_len : ∀ {ts : List Tg} {ws : List W} {sl : Sl} {P : Sl → Nat → Prop}, (setGs ts ws sl).wb b P → ws.length = ts.length
  | [], [], _, _, _ => rfl
  | [], _ :: _, _, _, h => h.elim
  | _ :: _, [], _, _, h => h.elim
  | t :: ts, w :: ws, sl, P, h => by
    obtain ⟨sl', h⟩ := setG_ex (T.wb_bind.mp h)
    exact congrArg (· + 1) (setGs_len h)
mutual
theorem setG_ok : ∀ {t : Tg} {w : W} {fr : Bool} {v : V} {sl : Sl} {σ : St} {P : Sl → Nat → Prop} {Q : St → Hp → Prop}, Rl f g b sl σ H → Vl f g H sl σ (w, fr) v → (setG t w fr sl).wb b P →
    (∀ sl' σ', P sl' b → Rl f g b sl' σ' H → SameOut (tIx t) σ σ' → Q σ' H) → gOf f.K t v σ H Q
  | .nm i, w, fr, v, sl, σ, P, Q, R, vl, h, k => by
    have so : ∀ u, SameOut (tIx (.nm i)) σ (σ.set i u) := fun u => ⟨List.length_set, fun j hj => List.getElem?_set_ne fun e => hj (by rw [← e]; exact List.mem_cons_self ..)⟩
    have h : P (sett sl i (some (w, fr))) b := h
    rw [sett_eq] at h
    cases fr with
    | false => exact k _ _ h (R.setF vl) (so _)
    | true =>
      obtain ⟨a, rfl, ho, hF, hD, h0, hs⟩ := vl
      exact k _ _ h (R.setO ho hF hD (.inl h0) fun j u _ q => hs j u q) (so _)
  | .tp ts, w, fr, v, sl, σ, P, Q, R, vl, h, k => by
    cases w with
    | tup ws =>
      have rv : RV f.K f.G g (.tup ws) v := by
        cases fr with
        | false => exact vl
        | true =>
          obtain ⟨a, _, ho, _⟩ := vl
          exact ho.elim
      cases rv with
      | tup q r =>
        rename_i a vs
        have hl : vs.length = ts.length := by
          rw [← r.len]
          exact setGs_len h
        exact ⟨a, vs, rfl, SqT.le R.sub q, hl, setGs_ok R r h k⟩
    | _ => exact h.elim
theorem setGs_ok : ∀ {ts : List Tg} {ws : List W} {vs : List V} {sl : Sl} {σ : St} {P : Sl → Nat → Prop} {Q : St → Hp → Prop}, Rl f g b sl σ H → RVs f.K f.G g ws vs → (setGs ts ws sl).wb b P →
    (∀ sl' σ', P sl' b → Rl f g b sl' σ' H → SameOut (tIxs ts) σ σ' → Q σ' H) → gsOf f.K ts vs σ H Q
  | [], ws, vs, sl, σ, P, Q, R, r, h, k => by
    cases r with
    | nil => exact ⟨rfl, k _ _ h R (SameOut.refl _ _)⟩
    | cons _ _ => exact h.elim
  | t :: ts, ws, vs, sl, σ, P, Q, R, r, h, k => by
    cases r with
    | nil => exact h.elim
    | cons r rs =>
      refine ⟨_, _, rfl, setG_ok (fr := false) R r (T.wb_bind.mp h) fun sl1 σ1 h1 R1 so => setGs_ok R1 rs h1 fun sl2 σ2 h2 R2 so2 => k sl2 σ2 h2 R2 ?_⟩
      exact (so.mono fun i hi => List.mem_append_left _ hi).trans (so2.mono fun i hi => List.mem_append_right _ hi)
end

/-! ### walks -/
/-- what is walked yields ws -/
structure Wk (K : PySem.W.Frag) (G : Nat → Option Addr) (g : Gh) (J : L2.It) (ws : List W) : Prop where
  go : ∀ (i : Nat) w, ws[i]? = some w → ∀ f g' b sl σ H, f.K = K → f.G = G → g.le g' → Rl f g' b sl σ H → J.go i H ∧ ∀ x H', J.yld i H x H' → ∃ g'', g'.le g'' ∧ Rl f g'' b sl σ H' ∧ RV K G g'' w x
  stop : ∀ f g' b sl σ H, f.K = K → f.G = G → g.le g' → Rl f g' b sl σ H → J.stop ws.length H
def tWI (X : Cx) (tg e : Expr) : TI := fun σ H R => ∀ (pins : List (Addr × Obj)) (s : Shared), Inv X pins σ H s → wpAny (model X.prog X.w) X.A (eval e X.env) (fun v s1 => wpAny (model X.prog X.w) X.A (pyIter v) (PIE X pins σ tg R) X.xe s1) X.xe s
section
variable {X : Cx} {tg e : Expr} {J : L2.It} {R : L2.It → Hp → Prop}
theorem pi_w : PI X tg e (tWI X tg e) := ⟨fun pins s _ _ _ I h => h pins s I⟩
theorem of_pi {t : TI} (h : PI X tg e t) (q : t σ H R) : tWI X tg e σ H R := fun pins s I => h.run pins s σ H R I q
/-- an iterable by its value -/
def ItW (X : Cx) (tg : Expr) (x : V) (H : Hp) (R : L2.It → Hp → Prop) : Prop :=
  ∀ (pins : List (Addr × Obj)) (s : Shared) (σ : St) (u : Value), Inv X pins σ H s → RelV x u → wpAny (model X.prog X.w) X.A (pyIter u) (PIE X pins σ tg R) X.xe s
theorem wi_val (h : tW X e σ H fun x H1 => ItW X tg x H1 R) : tWI X tg e σ H R := fun pins s I => thn (h pins s I) fun u s1 ⟨x, H1, I1, r, q⟩ => q pins s1 σ u I1 r
theorem it_list {a : Addr} {xs : List V} (h : SqL X.K H a xs) (q : R (Itl X.K a) H) : ItW X tg (.ref a) H R := fun pins s1 σ u I1 r => by
  cases r
  obtain ⟨its, rv, p, hz⟩ := I1.list h
  exact wpAny_pyIter_list p.isList (pi_one (tk := s1.toks) I1 _ (turn_list a _) ⟨_, Heap.get?_push_size _ rfl, rfl, rfl⟩ q)
theorem it_tup {a : Addr} {xs : List V} (h : SqT X.K H a xs) (q : R (Itt X.K a) H) : ItW X tg (.ref a) H R := fun pins s1 σ u I1 r => by
  cases r
  obtain ⟨its, rv, p, hz⟩ := I1.tuple h
  exact wpAny_pyIter_tuple (show s1.heap.IsTuple a its.toArray from p) (pi_one (tk := s1.toks) I1 _ (turn_tuple a _) ⟨_, Heap.get?_push_size _ rfl, rfl, rfl⟩ q)
theorem it_str {x : Str} (q : R (Its x) H) : ItW X tg (.str x) H R := fun pins s1 σ u I1 r => by
  obtain ⟨t, rfl⟩ := r
  cases ha : x.cps.all (· < 128)
  · exact wpAny_pyIter_wide ha (pi_one (tk := s1.toks) I1 _ (turn_str _ x t "str_iterator" (.inr rfl)) ⟨_, Heap.get?_push_size _ rfl, rfl, rfl⟩ q)
  · exact wpAny_pyIter_ascii ha (pi_one (tk := s1.toks) I1 _ (turn_str _ x t "str_ascii_iterator" (.inl rfl)) ⟨_, Heap.get?_push_size _ rfl, rfl, rfl⟩ q)
end
section
variable {K : PySem.W.Frag} {G : Nat → Option Addr}
/-- a row that is known -/
theorem wk_list {a : Addr} {vs : List V} {ws : List W} (h : g.F a = some (.lst vs)) (r : RVs K G g ws vs) : Wk K G g (Itl K a) ws where
  go := fun i w e f g' b sl σ H hK hG l R => by
    obtain ⟨v, e1, rv⟩ := r.get e
    have hH : SqL K H a vs := .inl (.inl (R.sub a _ (l.1 a _ h)))
    refine ⟨⟨vs, v, hH, e1⟩, fun x H' ⟨e2, y⟩ => ?_⟩
    have y := y vs hH
    rw [e1] at y
    cases y
    subst e2
    exact ⟨g', Gh.le.refl g', R, rv.le l⟩
  stop := fun f g' b sl σ H hK hG l R => ⟨vs, .inl (.inl (R.sub a _ (l.1 a _ h))), by rw [r.len]; exact Nat.le_refl _⟩
theorem wk_tup {a : Addr} {vs : List V} {ws : List W} (h : SqT K g.F a vs) (r : RVs K G g ws vs) : Wk K G g (Itt K a) ws where
  go := fun i w e f g' b sl σ H hK hG l R => by
    obtain ⟨v, e1, rv⟩ := r.get e
    have hH : SqT K H a vs := SqT.le R.sub (SqT.le l.1 h)
    refine ⟨⟨vs, v, hH, e1⟩, fun x H' ⟨e2, y⟩ => ?_⟩
    have y := y vs hH
    rw [e1] at y
    cases y
    subst e2
    exact ⟨g', Gh.le.refl g', R, rv.le l⟩
  stop := fun f g' b sl σ H hK hG l R => ⟨vs, SqT.le R.sub (SqT.le l.1 h), by rw [r.len]; exact Nat.le_refl _⟩
theorem wk_str {x : Str} : Wk K G g (Its x) (x.cps.toList.map fun c => .str ⟨#[c]⟩) where
  go := fun i w e f g' b sl σ H hK hG l R => by
    rw [List.getElem?_map] at e
    cases hc : x.cps.toList[i]? with
    | none => rw [hc] at e; cases e
    | some c =>
      rw [hc] at e
      have e : W.str ⟨#[c]⟩ = w := Option.some.inj e
      subst e
      rw [Array.getElem?_toList] at hc
      refine ⟨(Array.getElem?_eq_some_iff.mp hc).1, fun v H' ⟨e2, d, e3, e4⟩ => ?_⟩
      rw [hc] at e3
      cases e3
      subst e2 e4
      exact ⟨g', Gh.le.refl g', R, .str _⟩
  stop := fun f g' b sl σ H hK hG l R => by
    show x.cps.size ≤ _
    rw [List.length_map]
    exact Nat.le_of_eq (Array.length_toList).symm
theorem rng_get : ∀ {n : Nat} {a : Int} {i : Nat} {w : W}, (rngL a n)[i]? = some w → i < n ∧ w = .int (a + i)
  | 0, _, i, _, h => by simp [rngL] at h
  | n + 1, a, 0, w, h => by
    simp [rngL] at h
    subst h
    exact ⟨Nat.succ_pos _, by simp⟩
  | n + 1, a, i + 1, w, h => by
    have h : (rngL (a + 1) n)[i]? = some w := by simpa [rngL] using h
    obtain ⟨h1, h2⟩ := rng_get h
    refine ⟨Nat.succ_lt_succ h1, ?_⟩
    rw [h2]
    congr 1
    omega
theorem dn_get : ∀ {n : Nat} {a : Int} {i : Nat} {w : W}, (dnL a n)[i]? = some w → i < n ∧ w = .int (a + (i : Nat) * (-1))
  | 0, _, i, _, h => by simp [dnL] at h
  | n + 1, a, 0, w, h => by
    simp [dnL] at h
    subst h
    exact ⟨Nat.succ_pos _, by simp⟩
  | n + 1, a, i + 1, w, h => by
    have h : (dnL (a - 1) n)[i]? = some w := by simpa [dnL] using h
    obtain ⟨h1, h2⟩ := dn_get h
    refine ⟨Nat.succ_lt_succ h1, ?_⟩
    rw [h2]
    congr 1
    omega
theorem dn_len : ∀ (n : Nat) (a : Int), (dnL a n).length = n
  | 0, _ => rfl
  | n + 1, a => congrArg (· + 1) (dn_len n (a - 1))
theorem wk_rng {a : Int} {n : Nat} : Wk K G g (Itr a n) (rngL a n) where
  go := fun i w e f g' b sl σ H hK hG l R => by
    obtain ⟨h1, h2⟩ := rng_get e
    subst h2
    refine ⟨h1, fun v H' ⟨e2, e4⟩ => ?_⟩
    subst e2 e4
    exact ⟨g', Gh.le.refl g', R, .int _⟩
  stop := fun f g' b sl σ H hK hG l R => by
    show n ≤ _
    rw [rng_len]
    exact Nat.le_refl _
theorem wk_dn {a : Int} {n : Nat} : Wk K G g (Itc a (-1) n) (dnL a n) where
  go := fun i w e f g' b sl σ H hK hG l R => by
    obtain ⟨h1, h2⟩ := dn_get e
    subst h2
    refine ⟨h1, fun v H' ⟨e2, e4⟩ => ?_⟩
    subst e2 e4
    exact ⟨g', Gh.le.refl g', R, .int _⟩
  stop := fun f g' b sl σ H hK hG l R => by
    show n ≤ _
    rw [dn_len]
    exact Nat.le_refl _
theorem enum_get : ∀ {ws : List W} {k i : Nat} {w : W}, (enumL k ws)[i]? = some w → ∃ x, ws[i]? = some x ∧ w = .tup [.int (k + i : Nat), x]
  | [], _, i, _, h => by simp [enumL] at h
  | y :: ws, k, 0, w, h => by
    simp [enumL] at h
    exact ⟨y, rfl, h.symm⟩
  | y :: ws, k, i + 1, w, h => by
    have h : (enumL (k + 1) ws)[i]? = some w := by simpa [enumL] using h
    obtain ⟨x, h1, h2⟩ := enum_get h
    refine ⟨x, by simpa using h1, ?_⟩
    rw [h2]
    have : k + 1 + i = k + (i + 1) := by omega
    rw [this]
theorem enum_len : ∀ (ws : List W) (k : Nat), (enumL k ws).length = ws.length
  | [], _ => rfl
  | _ :: ws, k => congrArg (· + 1) (enum_len ws (k + 1))
theorem zip_get : ∀ {xs ys : List W} {i : Nat} {w : W}, (zipL xs ys)[i]? = some w → ∃ x y, xs[i]? = some x ∧ ys[i]? = some y ∧ w = .tup [x, y]
  | [], _, i, _, h => by simp [zipL] at h
  | _ :: _, [], i, _, h => by simp [zipL] at h
  | x :: xs, y :: ys, 0, w, h => by
    simp [zipL] at h
    exact ⟨x, y, rfl, rfl, h.symm⟩
  | x :: xs, y :: ys, i + 1, w, h => by
    have h : (zipL xs ys)[i]? = some w := by simpa [zipL] using h
    obtain ⟨p, q, h1, h2, h3⟩ := zip_get h
    exact ⟨p, q, by simpa using h1, by simpa using h2, h3⟩
theorem zip_len : ∀ (xs ys : List W), xs.length ≤ (zipL xs ys).length ∨ ys.length ≤ (zipL xs ys).length
  | [], _ => .inl (Nat.zero_le _)
  | _ :: _, [] => .inr (Nat.zero_le _)
  | x :: xs, y :: ys => by
    rcases zip_len xs ys with h | h
    · exact .inl (Nat.succ_le_succ h)
    · exact .inr (Nat.succ_le_succ h)
/-- new pairs, one after another -/
theorem wk_pairs {g'' : Gh} {f : Fm} {sl : Sl} {σ : St} {T : Addr} {x y : V} {wx wy : W} (hK : f.K = K) (hG : f.G = G) (R : Rl f g' b sl σ H) (hT : H T = none) (rx : RV K G g' wx x) (ry : RV K G g' wy y) :
    ∃ g'', g'.le g'' ∧ Rl f g'' b sl σ (upd H T (.tup [x, y])) ∧ RV K G g'' (.tup [wx, wy]) (.ref T) := by
  subst hK hG
  exact R.newT hT (.cons rx (.cons ry .nil))
theorem wk_enumL {a : Addr} {vs : List V} {ws : List W} (h : g.F a = some (.lst vs)) (r : RVs K G g ws vs) : Wk K G g (Ite K a) (enumL 0 ws) where
  go := fun i w e f g' b sl σ H hK hG l R => by
    obtain ⟨x, e0, e3⟩ := enum_get e
    rw [Nat.zero_add] at e3
    subst e3
    obtain ⟨v, e1, rv⟩ := r.get e0
    have hH : SqL K H a vs := .inl (.inl (R.sub a _ (l.1 a _ h)))
    refine ⟨⟨vs, v, hH, e1⟩, fun x H' ⟨T, u, e2, hT, e4, y⟩ => ?_⟩
    have y := y vs hH
    rw [e1] at y
    cases y
    subst e2 e4
    exact wk_pairs (g'' := g') hK hG R hT (.int _) (rv.le l)
  stop := fun f g' b sl σ H hK hG l R => ⟨vs, .inl (.inl (R.sub a _ (l.1 a _ h))), by rw [enum_len, r.len]; exact Nat.le_refl _⟩
theorem wk_zipL {a c : Addr} {vs us : List V} {ws xs : List W} (h : g.F a = some (.lst vs)) (r : RVs K G g ws vs) (h2 : g.F c = some (.lst us)) (r2 : RVs K G g xs us) : Wk K G g (Itz K a c) (zipL ws xs) where
  go := fun i w e f g' b sl σ H hK hG l R => by
    obtain ⟨x, y, e0, e0', e3⟩ := zip_get e
    subst e3
    obtain ⟨v, e1, rv⟩ := r.get e0
    obtain ⟨u, e1', rv'⟩ := r2.get e0'
    have hH : SqL K H a vs := .inl (.inl (R.sub a _ (l.1 a _ h)))
    have hH' : SqL K H c us := .inl (.inl (R.sub c _ (l.1 c _ h2)))
    refine ⟨⟨vs, us, v, u, hH, hH', e1, e1'⟩, fun x H' ⟨T, p, q, e2, hT, e4, y, z⟩ => ?_⟩
    have y := y vs hH
    have z := z us hH'
    rw [e1] at y
    rw [e1'] at z
    cases y
    cases z
    subst e2 e4
    exact wk_pairs (g'' := g') hK hG R hT (rv.le l) (rv'.le l)
  stop := fun f g' b sl σ H hK hG l R => ⟨vs, us, .inl (.inl (R.sub a _ (l.1 a _ h))), .inl (.inl (R.sub c _ (l.1 c _ h2))), by rw [← r.len, ← r2.len]; exact zip_len ws xs⟩
theorem wk_zipT {a c : Addr} {vs us : List V} {ws xs : List W} (h : SqT K g.F a vs) (r : RVs K G g ws vs) (h2 : SqT K g.F c us) (r2 : RVs K G g xs us) : Wk K G g (RZ.ItzT K a c) (zipL ws xs) where
  go := fun i w e f g' b sl σ H hK hG l R => by
    obtain ⟨x, y, e0, e0', e3⟩ := zip_get e
    subst e3
    obtain ⟨v, e1, rv⟩ := r.get e0
    obtain ⟨u, e1', rv'⟩ := r2.get e0'
    have hH : SqT K H a vs := SqT.le R.sub (SqT.le l.1 h)
    have hH' : SqT K H c us := SqT.le R.sub (SqT.le l.1 h2)
    refine ⟨⟨vs, us, v, u, hH, hH', e1, e1'⟩, fun x H' ⟨T, p, q, e2, hT, e4, y, z⟩ => ?_⟩
    have y := y vs hH
    have z := z us hH'
    rw [e1] at y
    rw [e1'] at z
    cases y
    cases z
    subst e2 e4
    exact wk_pairs (g'' := g') hK hG R hT (rv.le l) (rv'.le l)
  stop := fun f g' b sl σ H hK hG l R => ⟨vs, us, SqT.le R.sub (SqT.le l.1 h), SqT.le R.sub (SqT.le l.1 h2), by rw [← r.len, ← r2.len]; exact zip_len ws xs⟩
end
end
end Ev
end
end
section
set_option Elab.async false
set_option linter.all false
set_option maxRecDepth 100000
set_option maxHeartbeats 4000000
/-! EvEnum: enumerate over a tuple. -/
noncomputable section
namespace Ev
open PySem L2
set_option autoImplicit false
abbrev enumAt (it : Addr) : Obj := { cls := .type "enumerate", data := .fields #[.none, .bool false, .ref it, rawInt 0, .none, .none] }
theorem enum_new {v : Value} {o : Obj} {I : Heap → Prop} (B : Begins v o I) :
    Meets (Builtin.«enumerate.__new__» ⟨[.type "enumerate", v], []⟩) fun _ R s => I s.heap ∧ R (.ok (.ret (.ref (s.heap.push o).objs.size))) { s with heap := (s.heap.push o).push (enumAt s.heap.objs.size) } :=
  .of_wp fun prog w A R s h => by
    obtain ⟨hp, gs, dd, tk, os⟩ := s
    obtain ⟨hi, h⟩ := h
    have isEnumCls := sub_enumerate
    have it1 : ∀ {A' : Around} {E : Value → Shared → Prop} {Q : Value → Shared → Prop}, Q (.ref hp.objs.size) ⟨hp.push o, gs, dd, tk, os⟩ → wpAny (model prog w) A' (pyIter v) Q E ⟨hp, gs, dd, tk, os⟩ := fun q => B.iter prog w _ _ _ _ hi q
    wp_walk using it1
    refine wpAny_stack_any fun st => wpAny_pure ?_
    split
    · rename_i c _ _ _ _ _
      cases (c == Value.type "enumerate") <;> (wp_walk using it1; exact ⟨_, rfl, h⟩)
    · wp_walk using it1
      exact ⟨_, rfl, h⟩
section
variable {prog : Program} {w : World} {A : Around} {E : Value → Shared → Prop} {s : Shared}
theorem enum_call {v : Value} {o : Obj} {I : Heap → Prop} {Q : Value → Shared → Prop} (B : Begins v o I) (hi : I s.heap)
    (h : ∀ h', IsEnum h' (s.heap.objs.size + 1) s.heap.objs.size 0 .none → h'.get? s.heap.objs.size = some o → (∀ c u, s.heap.get? c = some u → h'.get? c = some u) → Q (.ref (s.heap.objs.size + 1)) { s with heap := h' }) :
    wpAny (model prog w) A (call (.type "enumerate") [v]) Q E s := by
  refine callType_new F.called_enumerate (by decide) (F.typeCall_enumerate_1 _) (F.newCall_enumerate_1 _) (fun obj => F.args_object_init_2 obj _) F.entry_enumerate_new (enum_new B) ⟨hi, ?_⟩
  have sz : (s.heap.push o).objs.size = s.heap.objs.size + 1 := Heap.size_push ..
  have en : IsEnum ((s.heap.push o).push (enumAt s.heap.objs.size)) (s.heap.objs.size + 1) s.heap.objs.size 0 .none := by
    have z := Heap.get?_push_size (s.heap.push o) (o := enumAt s.heap.objs.size) rfl
    rw [sz] at z
    exact z
  show _ ∧ _
  rw [sz]
  exact ⟨⟨_, en, rfl⟩, h _ en (Heap.get?_push_of_some _ (Heap.get?_push_size _ B.free)) fun c u e => Heap.get?_push_of_some _ (Heap.get?_push_of_some _ e)⟩
end
/-- the tuple at a, each item in a new pair -/
def IteT (K : PySem.W.Frag) (a : Addr) : L2.It where
  go i H := ∃ (xs : List V) (x : V), SqT K H a xs ∧ xs[i]? = some x
  yld i H v H' := ∃ t x, v = .ref t ∧ H t = none ∧ H' = upd H t (.tup [.int (i : Nat), x]) ∧ ∀ xs, SqT K H a xs → xs[i]? = some x
  stop i H := ∃ xs : List V, SqT K H a xs ∧ xs.length = i
theorem it_ne {h : Heap} {it a : Addr} {i : Nat} {its : Array Value} (h1 : h.IsTupleIter it a i) (h2 : h.IsTuple a its) : a ≠ it := fun e => by
  subst e
  obtain ⟨o, e1, c1, _⟩ := h1
  obtain ⟨o2, e2, c2, _⟩ := h2
  rw [e1] at e2
  cases e2
  rw [c1] at c2
  exact absurd c2 (by decide)
theorem turn_enumT {P : Program} {w : World} {K : PySem.W.Frag} {elts : List Expr} {kk : Nat} {tp : Pos} (a en it : Addr) :
    Turn P w K (.Tuple elts kk tp) (IteT K a) [en, it] en (fun i h => (∃ old, IsEnum h en it ((i : Nat) : Int) old) ∧ h.IsTupleIter it a i ∧ en ≠ it ∧ en ≠ a) where
  mem := List.mem_cons_self ..
  obj := fun i h ⟨⟨old, he⟩, ⟨o, ho, _, hd⟩, _⟩ c hc => by
    rcases List.mem_cons.mp hc with z | z
    · subst z
      exact ⟨_, he, fun v q => nomatch q⟩
    · have z := List.mem_singleton.mp z
      subst z
      exact ⟨o, ho, fun v q => by rw [hd] at q; cases q⟩
  keep := fun i h h' ⟨⟨old, he⟩, hi, ne⟩ k => ⟨⟨old, k en (List.mem_cons_self ..) _ he⟩, hi.at fun o q => k it (List.mem_cons_of_mem _ (List.mem_cons_self ..)) o q, ne⟩
  item := by
    intro X hP hw hK hc i pins s σ H E I hf ⟨⟨old, he⟩, hit, ne1, ne2⟩ ⟨xs, x, hq, hx⟩
    subst hP hw hK
    obtain ⟨its, rel, tu, _⟩ := I.tuple hq
    obtain ⟨u, hu, ru⟩ := rel.get hx
    have tu : s.heap.IsTuple a its.toArray := tu
    have enl : en < s.heap.objs.size := Heap.lt_size he
    have itl : it < s.heap.objs.size := by
      obtain ⟨_, q, _⟩ := hit
      exact Heap.lt_size q
    have hu' : its.toArray[i]? = some u := by simpa using hu
    have hlt : i < its.toArray.size := (Array.getElem?_eq_some_iff.mp hu').1
    refine wpAny_pyNext_enum_itemC (Draws.tuple (A := X.A.in1) (I.ok.hd hc) it a (it_ne hit tu) its.toArray) he ⟨hit, tu⟩ hlt ne1 (fun z => ?_) fun y h1 tk hy ho hst hT _ hk => ?_
    · rcases List.mem_cons.mp z with q | q
      · exact ne1 q
      · exact ne2 (List.mem_singleton.mp q)
    · have hy : its.toArray[i]? = some y := hy
      rw [hu'] at hy
      cases hy
      refine ⟨_, rfl, wpAny_letOwnedTupleGo_enum (s := { s with heap := h1, toks := tk + 1 }) ho fun h2 he2 sb => ?_⟩
      have tT : h2.get? s.heap.objs.size = some { cls := .type "tuple", data := .seq #[.int i tk, u] } := (sb.2 _ (Nat.ne_of_gt enl)).trans hT
      have okT : ObjOk X.prog X.w (upd H s.heap.objs.size (.tup [.int (i : Nat), x])) h2 s.heap.objs.size (.tup [.int (i : Nat), x]) := ⟨by show 2 ≤ sizeLine; decide, [.int i tk, u], .cons ⟨_, rfl⟩ (.cons ru .nil), ⟨_, tT, rfl, _, rfl⟩⟩
      have I2 : Inv X pins σ (upd H s.heap.objs.size (.tup [.int (i : Nat), x])) { s with heap := h2, toks := tk + 1 } := I.turnedNew (ch := [en, it]) (fun c ob hb q => (sb.2 c fun z => hb (by simp [z])).trans (hk c ob (fun z => hb (by simp [z])) (fun z => hb (by simp [z])) q)) hf (Nat.le_refl _) okT
      refine ⟨.ref s.heap.objs.size, _, I2, rfl, ⟨_, x, rfl, I.hok.fresh (Nat.le_refl _), rfl, fun ys hy => by rw [I.tuple_inj hy hq]; exact hx⟩, ⟨⟨u, ?_⟩, hst.1.at fun o q => (sb.2 it (Ne.symm ne1)).trans q, ne1, ne2⟩, fun c hcm => ?_⟩
      · have e1 : ((i + 1 : Nat) : Int) = (i : Int) + 1 := by omega
        rw [e1]
        exact he2
      · have lt : c < s.heap.objs.size := by
          rcases List.mem_cons.mp hcm with z | z
          · rw [z]; exact enl
          · rw [List.mem_singleton.mp z]; exact itl
        rw [upd_ne (Nat.ne_of_lt lt)]
        exact (hf c hcm).1
  done := by
    intro X hP hw hK hc i pins s σ H E I hf ⟨⟨old, he⟩, hit, ne1, ne2⟩ ⟨xs, hq, hx⟩
    subst hP hw hK
    obtain ⟨its, rel, tu, _⟩ := I.tuple hq
    have tu : s.heap.IsTuple a its.toArray := tu
    have ll : its.toArray.size = i := by rw [List.size_toArray, ← rel.length]; exact hx
    obtain ⟨f0, f1, _, f3, f4, f5⟩ := hf it (List.mem_cons_of_mem _ (List.mem_cons_self ..))
    refine wpAny_pyNext_enum_endD (Draws.tuple (A := X.A.in1) (I.ok.hd hc) it a (it_ne hit tu) its.toArray) he ⟨by rw [ll]; exact hit, tu⟩ fun h1 eb => ⟨rfl, ?_⟩
    exact I.turned (t' := s.toks) (fun c o hb q => eb c o hb q) f0 f1 f3 f4 f5
  self := fun A i s Q E ⟨⟨_, he⟩, _⟩ h => wpAny_pyIter_enum he h

section
variable {X : Cx} {σ : St} {H : Hp} {R : L2.It → Hp → Prop}
theorem w_enum {e : Expr} {p pos tp : Pos} {elts : List Expr} {kk : Nat} (hg : Gl X "enumerate") (hm : X.mg "enumerate" = none) (hs : starB e = false)
    (h : tW X e σ H fun x H1 => ∃ a, x = .ref a ∧ ((∃ xs, SqL X.K H1 a xs ∧ R (Ite X.K a) H1) ∨ ∃ xs, SqT X.K H1 a xs ∧ R (IteT X.K a) H1)) : tWI X (.Tuple elts kk tp) (.Call (.Name "enumerate" p) [e] [] pos) σ H R := by
  have one : starEach [e] X.env = [(false, eval e X.env)] := by
    cases e <;> first
      | rfl
      | cases hs
  intro pins s I
  have hA : tWA X [e] σ H fun vs H1 => ∃ a, vs = [.ref a] ∧ ((∃ xs, SqL X.K H1 a xs ∧ R (Ite X.K a) H1) ∨ ∃ xs, SqT X.K H1 a xs ∧ R (IteT X.K a) H1) := w_cons hs (tW.mono h fun v H1 ⟨a, ev, q⟩ => w_nil ⟨a, by rw [ev], q⟩)
  refine PyProof.Rows.Call_ (ld_blt I hg hm PyProof.Rows.boot_enumerate (PyProof.Rows.callWith_type1 (thn (hA pos pins s I) fun us s1 ⟨vs, H1, I1, r1, a, ev, q⟩ => ?_) one rfl))
  subst ev
  obtain ⟨u, rfl, ru⟩ := vals1 r1
  obtain rfl : u = Value.ref a := ru
  have frs2 : ∀ c ∈ [s1.heap.objs.size + 1, s1.heap.objs.size], FpOk X pins H1 c := fun c hc => by
    have le : s1.heap.objs.size ≤ c := by
      rcases List.mem_cons.mp hc with z | z
      · rw [z]; exact Nat.le_succ _
      · rw [List.mem_singleton.mp z]; exact Nat.le_refl _
    exact I1.fpOk le (I1.hok.fresh le)
  rcases q with ⟨xs, sq, q⟩ | ⟨xs, sq, q⟩
  · obtain ⟨its, rel, li, _⟩ := I1.list sq
    refine enum_call (begins_list a its.toArray) li.isList fun h1 en it1 kp => wpAny_pyIter_enum en ?_
    exact ⟨_, _, _, _, H1, rfl, I1.kept (t' := s1.toks) kp, turn_enum a (s1.heap.objs.size + 1) s1.heap.objs.size, ⟨⟨.none, en⟩, ⟨_, it1, rfl, rfl⟩, Nat.succ_ne_self _⟩, frs2, q⟩
  · obtain ⟨its, rel, tu, _⟩ := I1.tuple sq
    have tu : s1.heap.IsTuple a its.toArray := tu
    have al : a < s1.heap.objs.size := by
      obtain ⟨o, e, _⟩ := tu
      exact Heap.lt_size e
    refine enum_call (begins_tuple a its.toArray) tu fun h1 en it1 kp => wpAny_pyIter_enum en ?_
    exact ⟨_, _, _, _, H1, rfl, I1.kept (t' := s1.toks) kp, turn_enumT a (s1.heap.objs.size + 1) s1.heap.objs.size, ⟨⟨.none, en⟩, ⟨_, it1, rfl, rfl⟩, Nat.succ_ne_self _, fun z => absurd al (by rw [← z]; exact Nat.not_lt.mpr (Nat.le_succ _))⟩, frs2, q⟩
end
theorem wk_enumT {K : PySem.W.Frag} {G : Nat → Option Addr} {g : Gh} {a : Addr} {vs : List V} {ws : List W} (h : SqT K g.F a vs) (r : RVs K G g ws vs) : Wk K G g (IteT K a) (enumL 0 ws) where
  go := fun i w e f g' b sl σ H hK hG l R => by
    obtain ⟨x, e0, e3⟩ := enum_get e
    rw [Nat.zero_add] at e3
    subst e3
    obtain ⟨v, e1, rv⟩ := r.get e0
    have hH : SqT K H a vs := SqT.le R.sub (SqT.le l.1 h)
    refine ⟨⟨vs, v, hH, e1⟩, fun x H' ⟨T, u, e2, hT, e4, y⟩ => ?_⟩
    have y := y vs hH
    rw [e1] at y
    cases y
    subst e2 e4
    exact wk_pairs (g'' := g') hK hG R hT (.int _) (rv.le l)
  stop := fun f g' b sl σ H hK hG l R => ⟨vs, SqT.le R.sub (SqT.le l.1 h), by rw [enum_len, r.len]⟩
end Ev
end
end
section
set_option Elab.async false
set_option linter.all false
set_option maxRecDepth 100000
set_option maxHeartbeats 4000000
/-! EvEz: enumerate(zip(a, b)) over two tuples. The tuple that zip handed out may still be alive at zip's next turn, or not: both ways. -/
noncomputable section
namespace Ev
open PySem L2
set_option autoImplicit false
/-- a zip in any state between two turns -/
abbrev ZR (h : Heap) (z TI TO : Addr) (f0 : Value) (f1 : Bool) : Prop :=
  h.get? z = some { cls := .type "zip", dict := none, data := .fields #[f0, .bool f1, .bool false, .ref TI, .ref TO], slots := #[] }
def F0 (f0 : Value) : Prop := f0 = .none ∨ ∃ T : Nat, f0 = rawInt T
def ZO (h : Heap) (z TI TO : Addr) : Prop := ∃ f0 f1, F0 f0 ∧ ZR h z TI TO f0 f1
section
variable {prog : Program} {w : World} {A : Around} {E : Value → Shared → Prop} {s : Shared} {z TI TO i1 i2 : Addr} {fp1 fp2 : List Addr} {n1 n2 i : Nat} {P1 P2 : Nat → Value → Prop} {St1 St2 : Nat → Heap → Prop} {a1 a2 f0 : Value} {f1 : Bool}
theorem alive_any {a : Addr} {Q : Option Obj → Shared → Prop} (h : Q (s.heap.get? a) s) : wpAny (model prog w) A (loadIfAlive a) Q E s := fun _ _ _ => h
theorem free_any {Q : Bool → Shared → Prop} (hf : F0 f0) (hz : ZR s.heap z TI TO f0 f1) (h1 : Q true s) (h2 : ∀ h', ZR h' z TI TO f0 true → Heap.SameBut z s.heap h' → Q false { s with heap := h' }) :
    wpAny (model prog w) A (Builtin.SmallTypes.ownedTupleIsFree (.ref z)) Q E s := by
  unfold Builtin.SmallTypes.ownedTupleIsFree
  rcases hf with rfl | ⟨T, rfl⟩
  · exact wpAny_bind (wpAny_field hz rfl (x := .none) rfl (wpAny_pure h1))
  · refine wpAny_bind (wpAny_field hz rfl (x := rawInt T) rfl ?_)
    show wpAny _ _ (loadIfAlive ((T : Int).toNat) >>= _) _ _ _
    rw [Int.toNat_natCast]
    refine wpAny_bind (alive_any ?_)
    cases hT : s.heap.get? T with
    | none =>
      simp only [Option.isNone_none, if_true]
      exact wpAny_pure h1
    | some oT =>
      simp only [Option.isNone_some, Bool.false_eq_true, if_false]
      refine wpAny_bind (wpAny_field hz rfl (x := .bool f1) rfl ?_)
      cases f1 with
      | true =>
        rw [if_neg (show ¬ ((Value.bool true != Value.bool true) = true) from Bool.false_ne_true)]
        exact wpAny_pure (h2 s.heap hz (Heap.SameBut.refl _ _))
      | false =>
        rw [if_pos (show (Value.bool false != Value.bool true) = true from rfl)]
        exact wpAny_bind (wpAny_setField_rec hz (by simp) fun h₁ hz₁ hs₁ => wpAny_pure (h2 h₁ hz₁ hs₁))

theorem zip_any_item {Q : Value → Shared → Prop} (S : ZipSep2 z TI TO i1 i2 fp1 fp2) (D1 : Draws prog w A i1 fp1 n1 P1 St1) (D2 : Draws prog w A i2 fp2 n2 P2 St2)
    (hf : F0 f0) (hz : ZR s.heap z TI TO f0 f1) (hTI : IsTupOf2 s.heap TI (.ref i1) (.ref i2)) (hTO : IsTupOf2 s.heap TO a1 a2) (st1 : St1 i s.heap) (st2 : St2 i s.heap) (hlt1 : i < n1) (hlt2 : i < n2)
    (hQ : ∀ x1 x2 h' tk, P1 i x1 → P2 i x2 → ZO h' z TI TO → (∃ b1 b2, IsTupOf2 h' TO b1 b2) → St1 (i + 1) h' → St2 (i + 1) h' → IsTupOf2 h' s.heap.objs.size x1 x2 → h'.objs.size = s.heap.objs.size + 1 →
      (∀ c o, c ≠ z → c ≠ TO → c ≠ i1 → c ≠ i2 → s.heap.get? c = some o → h'.get? c = some o) → Q (.ref s.heap.objs.size) { s with heap := h', toks := tk }) :
    wpAny (model prog w) A (Builtin.«zip.__next__» ⟨[.ref z], []⟩) (fun fin s' => ∃ v, fin = .done (.ret v) ∧ Q v s') E s := by
  obtain ⟨hp, g, d, tk0, os⟩ := s
  show wpAny _ _ (field (.ref z) 2 >>= _) _ _ _
  refine wpAny_bind (wpAny_field hz rfl (x := .bool false) rfl ?_)
  show wpAny _ _ (field (.ref z) 3 >>= _) _ _ _
  refine wpAny_bind (wpAny_field hz rfl (x := .ref TI) rfl ?_)
  refine wpAny_bind (wpAny_seqItems hTI rfl ?_)
  show wpAny _ _ (Builtin.SmallTypes.ownedTupleIsFree (.ref z) >>= _) _ _ _
  refine wpAny_bind (free_any hf hz ?_ fun h₁ hz₁ hs₁ => ?_)
  · simp only [if_true]
    refine wpAny_bind (wpAny_rule ?_)
    refine wpAny_bind (wpAny_field hz rfl (x := .ref TO) rfl ?_)
    refine wpAny_bind (wpAny_setField_rec hz (by simp) fun g0 hz0 hs0 => ?_)
    replace hz0 : ZR g0 z TI TO .ellipsis f1 := hz0
    replace hs0 : Heap.SameBut z hp g0 := hs0
    refine wpAny_bind ?_
    simp only [List.zipIdx_cons, List.zipIdx_nil, List.forIn_cons, List.forIn_nil]
    refine wpAny_bind (wpAny_bind (wpAny_onRaise ?_))
    show wpAny _ _ (Builtin.SmallTypes.nextOf (.ref i1) >>= _) _ _ ⟨g0, g, d, tk0, os⟩
    refine wpAny_bind (D1.item i _ _ _ hlt1 (D1.over st1 hs0 S.zf1) fun x1 p1 tk1 hx1 sn1 hp1 => wpAny_pure ?_)
    replace hp1 : Heap.SameBut i1 g0 p1 := hp1
    have hU1 : IsTupOf2 p1 TO a1 a2 := hp1.extBut _ _ S.Ti1 (hs0.extBut _ _ S.TOz hTO)
    refine wpAny_bind (wpAny_seqItems (s := ⟨p1, g, d, tk1, os⟩) hU1 rfl ?_)
    refine wpAny_bind (updateSeq_IsTupOf2 (s := ⟨p1, g, d, tk1, os⟩) hU1 fun g1 hT1 hs1 => ?_)
    replace hT1 : IsTupOf2 g1 TO x1 a2 := hT1
    replace hs1 : Heap.SameBut TO p1 g1 := hs1
    refine wpAny_bind (wpAny_letGo (wpAny_pure ?_))
    refine wpAny_bind (wpAny_bind (wpAny_onRaise ?_))
    show wpAny _ _ (Builtin.SmallTypes.nextOf (.ref i2) >>= _) _ _ ⟨g1, g, d, tk1, os⟩
    refine wpAny_bind (D2.item i _ _ _ hlt2 (D2.over (D2.over (D2.over st2 hs0 S.zf2) hp1 S.sep1_2) hs1 S.Tf2) fun x2 p2 tk2 hx2 sn2 hp2 => wpAny_pure ?_)
    replace hp2 : Heap.SameBut i2 g1 p2 := hp2
    have hU2 : IsTupOf2 p2 TO x1 a2 := hp2.extBut _ _ S.Ti2 hT1
    refine wpAny_bind (wpAny_seqItems (s := ⟨p2, g, d, tk2, os⟩) hU2 rfl ?_)
    refine wpAny_bind (updateSeq_IsTupOf2 (s := ⟨p2, g, d, tk2, os⟩) hU2 fun g2 hT2 hs2 => ?_)
    replace hT2 : IsTupOf2 g2 TO x1 x2 := hT2
    replace hs2 : Heap.SameBut TO p2 g2 := hs2
    refine wpAny_bind (wpAny_letGo (wpAny_pure (wpAny_pure ?_)))
    refine wpAny_bind (wpAny_seqItems (s := ⟨g2, g, d, tk2, os⟩) hT2 rfl ?_)
    refine wpAny_bind (wpAny_newTuple ?_)
    have hsz : g2.objs.size = hp.objs.size := by rw [hs2.1, hp2.1, hs1.1, hp1.1, hs0.1]
    have hzz : ZR g2 z TI TO .ellipsis f1 := (hs2.extBut _ _ S.TOz.symm (hp2.extBut _ _ S.zi2 (hs1.extBut _ _ S.TOz.symm (hp1.extBut _ _ S.zi1 hz0))))
    have hkk : ∀ c o, c ≠ z → c ≠ TO → c ≠ i1 → c ≠ i2 → hp.get? c = some o → g2.get? c = some o := fun c o cz cT c1 c2 e =>
      (hs2.extBut _ _ cT (hp2.extBut _ _ c2 (hs1.extBut _ _ cT (hp1.extBut _ _ c1 (hs0.extBut _ _ cz e)))))
    have hj1 : St1 (i + 1) g2 := (D1.over (D1.over (D1.over sn1 hs1 S.Tf1) hp2 S.sep2_1) hs2 S.Tf1)
    have hj2 : St2 (i + 1) g2 := (D2.over sn2 hs2 S.Tf2)
    have hzlt : z < g2.objs.size := Heap.lt_size hzz
    show wpAny _ _ (Builtin.SmallTypes.ownedTupleHandOut (.ref z) (.ref g2.objs.size) >>= _) _ _ ⟨g2.push { cls := .type "tuple", data := .seq #[x1, x2] }, g, d, tk2, os⟩
    refine wpAny_bind ?_
    unfold Builtin.SmallTypes.ownedTupleHandOut
    have hz₆ : ZR (g2.push { cls := .type "tuple", data := .seq #[x1, x2] }) z TI TO .ellipsis f1 := Heap.get?_push_of_some _ hzz
    refine wpAny_bind (wpAny_setField_rec hz₆ (by simp) fun h₇ hz₇ hs₇ => ?_)
    replace hz₇ : ZR h₇ z TI TO (rawInt g2.objs.size) f1 := hz₇
    refine wpAny_setField_rec hz₇ (by simp) fun h₈ hz₈ hs₈ => ?_
    replace hz₈ : ZR h₈ z TI TO (rawInt g2.objs.size) false := hz₈
    replace hs₇ : Heap.SameBut z (g2.push { cls := .type "tuple", data := .seq #[x1, x2] }) h₇ := hs₇
    replace hs₈ : Heap.SameBut z h₇ h₈ := hs₈
    have up : ∀ c o, c ≠ z → g2.get? c = some o → h₈.get? c = some o := fun c o c1 e => hs₈.extBut _ _ c1 (hs₇.extBut _ _ c1 (Heap.get?_push_of_some _ e))
    have hT₈ : IsTupOf2 h₈ g2.objs.size x1 x2 := hs₈.extBut _ _ (Nat.ne_of_gt hzlt) (hs₇.extBut _ _ (Nat.ne_of_gt hzlt) (Heap.get?_push_size _ rfl))
    have hz8 : h₈.objs.size = g2.objs.size + 1 := by rw [hs₈.1, hs₇.1, Heap.size_push]
    rw [hsz] at hz₈ hT₈ hz8
    refine wpAny_pure ⟨_, rfl, ?_⟩
    show Q (.ref g2.objs.size) ⟨h₈, g, d, tk2, os⟩
    rw [hsz]
    exact hQ x1 x2 h₈ tk2 hx1 hx2 ⟨_, _, .inr ⟨_, rfl⟩, hz₈⟩ ⟨_, _, up _ _ S.TOz hT2⟩ (D1.frame _ _ _ hj1 fun b hb o e => up b o (fun q => S.zf1 (q ▸ hb)) e) (D2.frame _ _ _ hj2 fun b hb o e => up b o (fun q => S.zf2 (q ▸ hb)) e) hT₈ hz8 fun c o cz cT c1 c2 e => up c o cz (hkk c o cz cT c1 c2 e)
  · replace hs₁ : Heap.SameBut z hp h₁ := hs₁
    simp only [Bool.false_eq_true, if_false]
    refine wpAny_bind ?_
    rw [← Array.forIn_toList]
    simp only [List.forIn_cons, List.forIn_nil]
    refine wpAny_bind (wpAny_bind (wpAny_holding ?_))
    show wpAny _ _ (Builtin.SmallTypes.nextOf (.ref i1) >>= _) _ _ ⟨h₁, g, d, tk0, os⟩
    refine wpAny_bind (D1.item i _ _ _ hlt1 (D1.over st1 hs₁ S.zf1) fun x1 p1 tk1 hx1 sn1 hp1 => wpAny_pure (wpAny_pure ?_))
    replace hp1 : Heap.SameBut i1 h₁ p1 := hp1
    refine wpAny_bind (wpAny_bind (wpAny_holding ?_))
    show wpAny _ _ (Builtin.SmallTypes.nextOf (.ref i2) >>= _) _ _ ⟨p1, g, d, tk1, os⟩
    refine wpAny_bind (D2.item i _ _ _ hlt2 (D2.over (D2.over st2 hs₁ S.zf2) hp1 S.sep1_2) fun x2 p2 tk2 hx2 sn2 hp2 => wpAny_pure (wpAny_pure (wpAny_pure ?_)))
    replace hp2 : Heap.SameBut i2 p1 p2 := hp2
    show wpAny _ _ (newTuple [x1, x2] >>= _) _ _ ⟨p2, g, d, tk2, os⟩
    refine wpAny_bind (wpAny_newTuple ?_)
    have hsz : p2.objs.size = hp.objs.size := by rw [hp2.1, hp1.1, hs₁.1]
    have up : ∀ c o, p2.get? c = some o → (p2.push { cls := .type "tuple", data := .seq #[x1, x2] }).get? c = some o := fun c o e => Heap.get?_push_of_some _ e
    have hzz : ZR p2 z TI TO f0 true := hp2.extBut _ _ S.zi2 (hp1.extBut _ _ S.zi1 hz₁)
    have hkk : ∀ c o, c ≠ z → c ≠ i1 → c ≠ i2 → hp.get? c = some o → p2.get? c = some o := fun c o cz c1 c2 e => hp2.extBut _ _ c2 (hp1.extBut _ _ c1 (hs₁.extBut _ _ cz e))
    have hT8 : IsTupOf2 (p2.push { cls := .type "tuple", data := .seq #[x1, x2] }) p2.objs.size x1 x2 := Heap.get?_push_size _ rfl
    have hz8 : (p2.push { cls := .type "tuple", data := .seq #[x1, x2] }).objs.size = p2.objs.size + 1 := Heap.size_push ..
    have j1 : St1 (i + 1) p2 := D1.over sn1 hp2 S.sep2_1
    refine wpAny_pure ⟨_, rfl, ?_⟩
    show Q (.ref p2.objs.size) ⟨p2.push { cls := .type "tuple", data := .seq #[x1, x2] }, g, d, tk2, os⟩
    rw [hsz] at hT8 hz8 ⊢
    exact hQ x1 x2 _ tk2 hx1 hx2 ⟨_, _, hf, up _ _ hzz⟩ ⟨_, _, up _ _ (hkk _ _ S.TOz S.Ti1 S.Ti2 hTO)⟩ (D1.frame _ _ _ j1 fun b hb o e => up b o e) (D2.frame _ _ _ sn2 fun b hb o e => up b o e) hT8 hz8 fun c o cz cT c1 c2 e => up c o (hkk c o cz c1 c2 e)
theorem zip_any_end {Q : Fin → Shared → Prop} (S : ZipSep2 z TI TO i1 i2 fp1 fp2) (D1 : Draws prog w A i1 fp1 n1 P1 St1) (D2 : Draws prog w A i2 fp2 n2 P2 St2)
    (hf : F0 f0) (hz : ZR s.heap z TI TO f0 f1) (hTI : IsTupOf2 s.heap TI (.ref i1) (.ref i2)) (hTO : IsTupOf2 s.heap TO a1 a2) (st1 : St1 i s.heap) (st2 : St2 i s.heap) (hle1 : i ≤ n1) (hle2 : i ≤ n2) (hend : i = n1 ∨ i = n2)
    (hE : ∀ h' tk e, (∀ c o, c ≠ z → c ≠ TO → c ≠ i1 → c ≠ i2 → s.heap.get? c = some o → h'.get? c = some o) → (∃ o, h'.get? e = some o ∧ o.cls = .type "StopIteration") → E (.ref e) { s with heap := h', toks := tk }) :
    wpAny (model prog w) A (Builtin.«zip.__next__» ⟨[.ref z], []⟩) Q E s := by
  obtain ⟨hp, g, d, tk0, os⟩ := s
  show wpAny _ _ (field (.ref z) 2 >>= _) _ _ _
  refine wpAny_bind (wpAny_field hz rfl (x := .bool false) rfl ?_)
  show wpAny _ _ (field (.ref z) 3 >>= _) _ _ _
  refine wpAny_bind (wpAny_field hz rfl (x := .ref TI) rfl ?_)
  refine wpAny_bind (wpAny_seqItems hTI rfl ?_)
  show wpAny _ _ (Builtin.SmallTypes.ownedTupleIsFree (.ref z) >>= _) _ _ _
  refine wpAny_bind (free_any hf hz ?_ fun h₁ hz₁ hs₁ => ?_)
  · simp only [if_true]
    refine wpAny_bind (wpAny_rule ?_)
    refine wpAny_bind (wpAny_field hz rfl (x := .ref TO) rfl ?_)
    refine wpAny_bind (wpAny_setField_rec hz (by simp) fun g0 hz0 hs0 => ?_)
    replace hz0 : ZR g0 z TI TO .ellipsis f1 := hz0
    replace hs0 : Heap.SameBut z hp g0 := hs0
    refine wpAny_bind ?_
    simp only [List.zipIdx_cons, List.zipIdx_nil, List.forIn_cons, List.forIn_nil]
    refine wpAny_bind (wpAny_bind (wpAny_onRaise ?_))
    show wpAny _ _ (Builtin.SmallTypes.nextOf (.ref i1) >>= _) _ _ ⟨g0, g, d, tk0, os⟩
    by_cases hlt1 : i < n1
    · refine wpAny_bind (D1.item i _ _ _ hlt1 (D1.over st1 hs0 S.zf1) fun x1 p1 tk1 hx1 sn1 hp1 => wpAny_pure ?_)
      replace hp1 : Heap.SameBut i1 g0 p1 := hp1
      have hU1 : IsTupOf2 p1 TO a1 a2 := hp1.extBut _ _ S.Ti1 (hs0.extBut _ _ S.TOz hTO)
      refine wpAny_bind (wpAny_seqItems (s := ⟨p1, g, d, tk1, os⟩) hU1 rfl ?_)
      refine wpAny_bind (updateSeq_IsTupOf2 (s := ⟨p1, g, d, tk1, os⟩) hU1 fun g1 hT1 hs1 => ?_)
      replace hT1 : IsTupOf2 g1 TO x1 a2 := hT1
      replace hs1 : Heap.SameBut TO p1 g1 := hs1
      refine wpAny_bind (wpAny_letGo (wpAny_pure ?_))
      have hi2 : i = n2 := by omega
      refine wpAny_bind (wpAny_bind (wpAny_onRaise ?_))
      show wpAny _ _ (Builtin.SmallTypes.nextOf (.ref i2) >>= _) _ _ ⟨g1, g, d, tk1, os⟩
      refine wpAny_bind (D2.done ⟨g1, g, d, tk1, os⟩ _ _ (by rw [← hi2]; exact (D2.over (D2.over (D2.over st2 hs0 S.zf2) hp1 S.sep1_2) hs1 S.Tf2)) fun q e hq he => ?_)
      replace hq : Heap.ExtBut i2 g1 q := hq
      obtain ⟨oe, hoe, hce⟩ := he
      replace hoe : q.get? e = some oe := hoe
      have hzq : ZR q z TI TO .ellipsis f1 := hq _ _ S.zi2 (hs1.extBut _ _ S.TOz.symm (hp1.extBut _ _ S.zi1 hz0))
      have hez : e ≠ z := fun x => by subst x; rw [hzq] at hoe; cases hoe; simp at hce
      refine wpAny_setField_rec (s := ⟨q, g, d, tk1, os⟩) hzq (by simp) fun q' _ hq' => ?_
      replace hq' : Heap.SameBut z q q' := hq'
      exact hE q' tk1 e (fun c o cz cT c1 c2 x => hq'.extBut _ _ cz (hq _ _ c2 (hs1.extBut _ _ cT (hp1.extBut _ _ c1 (hs0.extBut _ _ cz x))))) ⟨oe, hq'.extBut _ _ hez hoe, hce⟩
    · have hi1 : i = n1 := by omega
      refine wpAny_bind (D1.done ⟨g0, g, d, tk0, os⟩ _ _ (by rw [← hi1]; exact (D1.over st1 hs0 S.zf1)) fun q e hq he => ?_)
      replace hq : Heap.ExtBut i1 g0 q := hq
      obtain ⟨oe, hoe, hce⟩ := he
      replace hoe : q.get? e = some oe := hoe
      have hzq : ZR q z TI TO .ellipsis f1 := hq _ _ S.zi1 hz0
      have hez : e ≠ z := fun x => by subst x; rw [hzq] at hoe; cases hoe; simp at hce
      refine wpAny_setField_rec (s := ⟨q, g, d, tk0, os⟩) hzq (by simp) fun q' _ hq' => ?_
      replace hq' : Heap.SameBut z q q' := hq'
      exact hE q' tk0 e (fun c o cz cT c1 c2 x => hq'.extBut _ _ cz (hq _ _ c1 (hs0.extBut _ _ cz x))) ⟨oe, hq'.extBut _ _ hez hoe, hce⟩
  · replace hs₁ : Heap.SameBut z hp h₁ := hs₁
    simp only [Bool.false_eq_true, if_false]
    refine wpAny_bind ?_
    rw [← Array.forIn_toList]
    simp only [List.forIn_cons, List.forIn_nil]
    refine wpAny_bind (wpAny_bind (wpAny_holding ?_))
    show wpAny _ _ (Builtin.SmallTypes.nextOf (.ref i1) >>= _) _ _ ⟨h₁, g, d, tk0, os⟩
    by_cases hlt1 : i < n1
    · refine wpAny_bind (D1.item i _ _ _ hlt1 (D1.over st1 hs₁ S.zf1) fun x1 p1 tk1 hx1 sn1 hp1 => wpAny_pure (wpAny_pure ?_))
      replace hp1 : Heap.SameBut i1 h₁ p1 := hp1
      have hi2 : i = n2 := by omega
      refine wpAny_bind (wpAny_bind (wpAny_holding ?_))
      show wpAny _ _ (Builtin.SmallTypes.nextOf (.ref i2) >>= _) _ _ ⟨p1, g, d, tk1, os⟩
      refine wpAny_bind (D2.done ⟨p1, g, d, tk1, os⟩ _ _ (by rw [← hi2]; exact (D2.over (D2.over st2 hs₁ S.zf2) hp1 S.sep1_2)) fun q e hq he => ?_)
      replace hq : Heap.ExtBut i2 p1 q := hq
      exact hE q tk1 e (fun c o cz cT c1 c2 x => hq _ _ c2 (hp1.extBut _ _ c1 (hs₁.extBut _ _ cz x))) he
    · have hi1 : i = n1 := by omega
      refine wpAny_bind (D1.done ⟨h₁, g, d, tk0, os⟩ _ _ (by rw [← hi1]; exact (D1.over st1 hs₁ S.zf1)) fun q e hq he => ?_)
      replace hq : Heap.ExtBut i1 h₁ q := hq
      exact hE q tk0 e (fun c o cz cT c1 c2 x => hq _ _ c1 (hs₁.extBut _ _ cz x)) he
/-- what zip tells to enumerate -/
theorem nextOf_zip_item {Q : Value → Shared → Prop} (S : ZipSep2 z TI TO i1 i2 fp1 fp2) (D1 : Draws prog w A.in1 i1 fp1 n1 P1 St1) (D2 : Draws prog w A.in1 i2 fp2 n2 P2 St2)
    (hz : ZO s.heap z TI TO) (hTI : IsTupOf2 s.heap TI (.ref i1) (.ref i2)) (hTO : IsTupOf2 s.heap TO a1 a2) (st1 : St1 i s.heap) (st2 : St2 i s.heap) (hlt1 : i < n1) (hlt2 : i < n2)
    (hQ : ∀ x1 x2 h' tk, P1 i x1 → P2 i x2 → ZO h' z TI TO → (∃ b1 b2, IsTupOf2 h' TO b1 b2) → St1 (i + 1) h' → St2 (i + 1) h' → IsTupOf2 h' s.heap.objs.size x1 x2 → h'.objs.size = s.heap.objs.size + 1 →
      (∀ c o, c ≠ z → c ≠ TO → c ≠ i1 → c ≠ i2 → s.heap.get? c = some o → h'.get? c = some o) → Q (.ref s.heap.objs.size) { s with heap := h', toks := tk }) :
    wpAny (model prog w) A (Builtin.SmallTypes.nextOf (.ref z)) Q E s := by
  obtain ⟨f0, f1, hf, hz⟩ := hz
  have hT : s.TypeIs (.ref z) "zip" := ⟨_, hz, rfl⟩
  unfold Builtin.SmallTypes.nextOf
  exact wpAny_bind (wpAny_callSpecial?_slot (name := Str.ofString "__next__") hT F.slot_zip_next
    (wpAny_call_entry F.slot_zip_next hT F.entry_zip_next
      (zip_any_item S D1 D2 hf hz hTI hTO st1 st2 hlt1 hlt2 fun x1 x2 h' tk y1 y2 b1 b2 d1 d2 b5 b6 b7 => wpAny_pure (hQ x1 x2 h' tk y1 y2 b1 b2 d1 d2 b5 b6 b7)) (F.args_zip_next_1 _)))
theorem nextOf_zip_end {Q : Value → Shared → Prop} (S : ZipSep2 z TI TO i1 i2 fp1 fp2) (D1 : Draws prog w A.in1 i1 fp1 n1 P1 St1) (D2 : Draws prog w A.in1 i2 fp2 n2 P2 St2)
    (hz : ZO s.heap z TI TO) (hTI : IsTupOf2 s.heap TI (.ref i1) (.ref i2)) (hTO : IsTupOf2 s.heap TO a1 a2) (st1 : St1 i s.heap) (st2 : St2 i s.heap) (hle1 : i ≤ n1) (hle2 : i ≤ n2) (hend : i = n1 ∨ i = n2)
    (hE : ∀ h' tk e, (∀ c o, c ≠ z → c ≠ TO → c ≠ i1 → c ≠ i2 → s.heap.get? c = some o → h'.get? c = some o) → (∃ o, h'.get? e = some o ∧ o.cls = .type "StopIteration") → E (.ref e) { s with heap := h', toks := tk }) :
    wpAny (model prog w) A (Builtin.SmallTypes.nextOf (.ref z)) Q E s := by
  obtain ⟨f0, f1, hf, hz⟩ := hz
  have hT : s.TypeIs (.ref z) "zip" := ⟨_, hz, rfl⟩
  unfold Builtin.SmallTypes.nextOf
  exact wpAny_bind (wpAny_callSpecial?_slot (name := Str.ofString "__next__") hT F.slot_zip_next
    (wpAny_call_entry F.slot_zip_next hT F.entry_zip_next (zip_any_end S D1 D2 hf hz hTI hTO st1 st2 hle1 hle2 hend hE) (F.args_zip_next_1 _)))
/-- the turn of enumerate over zip -/
theorem enumZip_item {e : Addr} {c : Int} {old : Value} {Q : Option Value → Shared → Prop} (S : ZipSep2 z TI TO i1 i2 fp1 fp2) (D1 : Draws prog w A.in1.in1 i1 fp1 n1 P1 St1) (D2 : Draws prog w A.in1.in1 i2 fp2 n2 P2 St2)
    (he : IsEnum s.heap e z c old) (ez : e ≠ z) (eT : e ≠ TO) (e1 : e ≠ i1) (e2 : e ≠ i2) (ef1 : e ∉ fp1) (ef2 : e ∉ fp2)
    (hz : ZO s.heap z TI TO) (hTI : IsTupOf2 s.heap TI (.ref i1) (.ref i2)) (hTO : IsTupOf2 s.heap TO a1 a2) (st1 : St1 i s.heap) (st2 : St2 i s.heap) (hlt1 : i < n1) (hlt2 : i < n2)
    (hQ : ∀ x1 x2 h1 h' tk, P1 i x1 → P2 i x2 → IsTupOf2 h1 s.heap.objs.size x1 x2 → h1.objs.size = s.heap.objs.size + 1 → (∀ b o, b ≠ z → b ≠ TO → b ≠ i1 → b ≠ i2 → s.heap.get? b = some o → h1.get? b = some o) →
      IsEnumOut h' e z (c + 1) (.ref s.heap.objs.size) (s.heap.objs.size + 1) → ZO h' z TI TO → (∃ b1 b2, IsTupOf2 h' TO b1 b2) → St1 (i + 1) h' → St2 (i + 1) h' →
      h'.get? (s.heap.objs.size + 1) = some { cls := .type "tuple", data := .seq #[.int c tk, .ref s.heap.objs.size] } → (∀ b o, b ≠ e → h1.get? b = some o → h'.get? b = some o) → Q (some (.ref (s.heap.objs.size + 1))) { s with heap := h', toks := tk + 1 }) :
    wpAny (model prog w) A (pyNext (.ref e)) Q E s := by
  have hT : s.TypeIs (.ref e) "enumerate" := ⟨_, he, rfl⟩
  unfold pyNext
  refine wpAny_bind (wpAny_attempt (wpAny_callSpecial?_slot (name := Str.ofString "__next__") hT F.slot_enumerate_next
    (wpAny_call_entry F.slot_enumerate_next hT F.entry_enumerate_next ?_ (F.args_enumerate_next_1 _))))
  obtain ⟨hp, g, d, tk₀, os⟩ := s
  show wpAny _ _ (field (.ref e) 2 >>= _) _ _ _
  refine wpAny_bind (wpAny_field he rfl (x := .ref z) rfl ?_)
  refine wpAny_bind (nextOf_zip_item S D1 D2 hz hTI hTO st1 st2 hlt1 hlt2 fun x1 x2 h₁ tk hx1 hx2 zo to s1 s2 tT sz kp => ?_)
  replace sz : h₁.objs.size = hp.objs.size + 1 := sz
  replace kp : ∀ b o, b ≠ z → b ≠ TO → b ≠ i1 → b ≠ i2 → hp.get? b = some o → h₁.get? b = some o := kp
  replace tT : IsTupOf2 h₁ hp.objs.size x1 x2 := tT
  have he₁ : IsEnum h₁ e z c old := kp e _ ez eT e1 e2 he
  show wpAny _ _ (field (.ref e) 3 >>= _) _ _ ⟨h₁, g, d, tk, os⟩
  refine wpAny_bind (wpAny_field he₁ rfl (x := rawInt c) rfl ?_)
  show wpAny _ _ (field (.ref e) 4 >>= _) _ _ ⟨h₁, g, d, tk, os⟩
  refine wpAny_bind (wpAny_field he₁ rfl (x := .none) rfl ?_)
  show wpAny _ _ (mkInt c >>= _) _ _ ⟨h₁, g, d, tk, os⟩
  refine wpAny_bind (wpAny_mkInt ?_)
  show wpAny _ _ (setField (.ref e) 3 (rawInt (c + 1)) >>= _) _ _ ⟨h₁, g, d, tk + 1, os⟩
  refine wpAny_bind (wpAny_setField_rec he₁ (by simp) fun h₂ he₂ hs₂ => ?_)
  replace hs₂ : Heap.SameBut e h₁ h₂ := hs₂
  replace he₂ : IsEnum h₂ e z (c + 1) old := he₂
  show wpAny _ _ (setField (.ref e) 4 .none >>= _) _ _ ⟨h₂, g, d, tk + 1, os⟩
  refine wpAny_bind (wpAny_setField_rec he₂ (by simp) fun h₃ he₃ hs₃ => ?_)
  replace hs₃ : Heap.SameBut e h₂ h₃ := hs₃
  replace he₃ : IsEnum h₃ e z (c + 1) old := he₃
  show wpAny _ _ (newTuple [.int c tk, .ref hp.objs.size] >>= _) _ _ ⟨h₃, g, d, tk + 1, os⟩
  refine wpAny_bind (wpAny_newTuple ?_)
  have he₄ : IsEnum (h₃.push { cls := .type "tuple", data := .seq #[.int c tk, .ref hp.objs.size] }) e z (c + 1) old := Heap.get?_push_of_some _ he₃
  generalize hh₄ : h₃.push { cls := .type "tuple", data := .seq #[.int c tk, .ref hp.objs.size] } = h₄ at he₄
  have hsz : h₃.objs.size = hp.objs.size + 1 := by rw [hs₃.1, hs₂.1, sz]
  have hel : e < hp.objs.size := Heap.lt_size he
  have ht₄ : h₄.get? (hp.objs.size + 1) = some { cls := .type "tuple", data := .seq #[.int c tk, .ref hp.objs.size] } := by rw [← hh₄, ← hsz]; exact Heap.get?_push_size _ rfl
  have hk₄ : ∀ b o, b ≠ e → h₁.get? b = some o → h₄.get? b = some o := fun b o hbe hb => by
    rw [← hh₄]; exact Heap.get?_push_of_some _ (hs₃.extBut b o hbe (hs₂.extBut b o hbe hb))
  show wpAny _ _ (Builtin.SmallTypes.ownedTupleIsFree (.ref e) >>= _) _ _ ⟨h₄, g, d, tk + 1, os⟩
  rw [hsz]
  clear hh₄ he₃ hs₃ he₂ hs₂ he₁ hsz h₃ h₂
  refine wpAny_bind ?_
  unfold Builtin.SmallTypes.ownedTupleIsFree
  refine wpAny_bind (wpAny_field he₄ rfl (x := .none) rfl (wpAny_pure ?_))
  simp only [if_true]
  refine wpAny_bind (wpAny_rule ?_)
  refine wpAny_bind (wpAny_field he₄ rfl (x := old) rfl ?_)
  refine wpAny_bind (wpAny_setField_rec he₄ (by simp) fun h₅ he₅ hs₅ => ?_)
  replace hs₅ : Heap.SameBut e h₄ h₅ := hs₅
  replace he₅ : IsEnum h₅ e z (c + 1) (.ref hp.objs.size) := he₅
  show wpAny _ _ (Builtin.SmallTypes.ownedTupleHandOut (.ref e) (.ref (hp.objs.size + 1)) >>= _) _ _ ⟨h₅, g, d, tk + 1, os⟩
  refine wpAny_bind ?_
  unfold Builtin.SmallTypes.ownedTupleHandOut
  refine wpAny_bind (wpAny_setField_rec he₅ (by simp) fun h₆ he₆ hs₆ => ?_)
  replace hs₆ : Heap.SameBut e h₅ h₆ := hs₆
  replace he₆ : IsEnumOut h₆ e z (c + 1) (.ref hp.objs.size) (hp.objs.size + 1) := he₆
  refine wpAny_setField_rec he₆ (by simp) fun h₇ he₇ hs₇ => ?_
  replace hs₇ : Heap.SameBut e h₆ h₇ := hs₇
  replace he₇ : IsEnumOut h₇ e z (c + 1) (.ref hp.objs.size) (hp.objs.size + 1) := he₇
  have up : ∀ b o, b ≠ e → h₁.get? b = some o → h₇.get? b = some o := fun b o hb q => hs₇.extBut b o hb (hs₆.extBut b o hb (hs₅.extBut b o hb (hk₄ b o hb q)))
  have hne : (hp.objs.size + 1 : Nat) ≠ e := fun q => by
    rw [← q] at hel
    exact absurd hel (Nat.not_lt.mpr (Nat.le_succ _))
  refine wpAny_bind (wpAny_letGo (wpAny_pure ⟨_, rfl, wpAny_pure (hQ x1 x2 h₁ h₇ tk hx1 hx2 tT sz kp he₇ ?_ ?_ ?_ ?_ ?_ up)⟩))
  · obtain ⟨f0, f1, hf, zr⟩ := zo
    exact ⟨f0, f1, hf, up _ _ (Ne.symm ez) zr⟩
  · obtain ⟨b1, b2, q⟩ := to
    exact ⟨b1, b2, up _ _ (Ne.symm eT) q⟩
  · exact D1.frame _ _ _ s1 fun b hb o q => up b o (fun y => ef1 (y ▸ hb)) q
  · exact D2.frame _ _ _ s2 fun b hb o q => up b o (fun y => ef2 (y ▸ hb)) q
  · exact hs₇.extBut _ _ hne (hs₆.extBut _ _ hne (hs₅.extBut _ _ hne ht₄))
theorem enumZip_end {e : Addr} {c : Int} {old : Value} {Q : Option Value → Shared → Prop} (S : ZipSep2 z TI TO i1 i2 fp1 fp2) (D1 : Draws prog w A.in1.in1 i1 fp1 n1 P1 St1) (D2 : Draws prog w A.in1.in1 i2 fp2 n2 P2 St2)
    (he : IsEnum s.heap e z c old) (hz : ZO s.heap z TI TO) (hTI : IsTupOf2 s.heap TI (.ref i1) (.ref i2)) (hTO : IsTupOf2 s.heap TO a1 a2) (st1 : St1 i s.heap) (st2 : St2 i s.heap) (hle1 : i ≤ n1) (hle2 : i ≤ n2) (hend : i = n1 ∨ i = n2)
    (hQ : ∀ h' tk, (∀ b o, b ≠ z → b ≠ TO → b ≠ i1 → b ≠ i2 → s.heap.get? b = some o → h'.get? b = some o) → Q none { s with heap := h', toks := tk }) :
    wpAny (model prog w) A (pyNext (.ref e)) Q E s := by
  have hT : s.TypeIs (.ref e) "enumerate" := ⟨_, he, rfl⟩
  unfold pyNext
  refine wpAny_bind (wpAny_attempt (wpAny_callSpecial?_slot (name := Str.ofString "__next__") hT F.slot_enumerate_next
    (wpAny_call_entry F.slot_enumerate_next hT F.entry_enumerate_next ?_ (F.args_enumerate_next_1 _))))
  show wpAny _ _ (field (.ref e) 2 >>= _) _ _ _
  refine wpAny_bind (wpAny_field he rfl (x := .ref z) rfl ?_)
  refine wpAny_bind (nextOf_zip_end S D1 D2 hz hTI hTO st1 st2 hle1 hle2 hend fun h' tk x kp hx' => ?_)
  obtain ⟨o, ho, hc⟩ := hx'
  refine wpAny_bind (wpAny_isInstance (T := "StopIteration") (b := true) ⟨o, ho, hc⟩ isSubtype_stop ?_)
  exact wpAny_pure (hQ _ _ kp)
end
theorem enum_newZ (z TI TO : Addr) :
    Meets (Builtin.«enumerate.__new__» ⟨[.type "enumerate", .ref z], []⟩) fun _ R s => IsZip s.heap z TI TO .none ∧ R (.ok (.ret (.ref s.heap.objs.size))) { s with heap := s.heap.push (enumAt z) } :=
  .of_wp fun prog w A R s h => by
    obtain ⟨hp, gs, dd, tk, os⟩ := s
    obtain ⟨hi, h⟩ := h
    have isEnumCls := sub_enumerate
    have it1 : ∀ {A' : Around} {E : Value → Shared → Prop} {Q : Value → Shared → Prop}, Q (.ref z) ⟨hp, gs, dd, tk, os⟩ → wpAny (model prog w) A' (pyIter (.ref z)) Q E ⟨hp, gs, dd, tk, os⟩ := fun q => wpAny_pyIter_zip hi q
    wp_walk using it1
    refine wpAny_stack_any fun st => wpAny_pure ?_
    split
    · rename_i c _ _ _ _ _
      cases (c == Value.type "enumerate") <;> (wp_walk using it1; exact ⟨_, rfl, h⟩)
    · wp_walk using it1
      exact ⟨_, rfl, h⟩
section
variable {prog : Program} {w : World} {A : Around} {E : Value → Shared → Prop} {s : Shared}
theorem enum_callZ {z TI TO : Addr} {Q : Value → Shared → Prop} (hz : IsZip s.heap z TI TO .none)
    (h : ∀ h', IsEnum h' s.heap.objs.size z 0 .none → (∀ c u, s.heap.get? c = some u → h'.get? c = some u) → Q (.ref s.heap.objs.size) { s with heap := h' }) :
    wpAny (model prog w) A (call (.type "enumerate") [.ref z]) Q E s := by
  refine callType_new F.called_enumerate (by decide) (F.typeCall_enumerate_1 _) (F.newCall_enumerate_1 _) (fun obj => F.args_object_init_2 obj _) F.entry_enumerate_new (enum_newZ z TI TO) ⟨hz, ?_⟩
  have en : IsEnum (s.heap.push (enumAt z)) s.heap.objs.size z 0 .none := Heap.get?_push_size s.heap (o := enumAt z) rfl
  show _ ∧ _
  exact ⟨⟨_, en, rfl⟩, h _ en fun c u e => Heap.get?_push_of_some _ e⟩
end
/-- the tuples at a and b, their items in new pairs, each in a new pair with its number -/
def IteZ (K : PySem.W.Frag) (a b : Addr) : L2.It where
  go i H := ∃ (xs ys : List V) (x y : V), SqT K H a xs ∧ SqT K H b ys ∧ xs[i]? = some x ∧ ys[i]? = some y
  yld i H v H' := ∃ T0 T1 x y, v = .ref T1 ∧ H T0 = none ∧ (upd H T0 (.tup [x, y])) T1 = none ∧ H' = upd (upd H T0 (.tup [x, y])) T1 (.tup [.int (i : Nat), .ref T0]) ∧ (∀ xs, SqT K H a xs → xs[i]? = some x) ∧ ∀ ys, SqT K H b ys → ys[i]? = some y
  stop i H := ∃ xs ys : List V, SqT K H a xs ∧ SqT K H b ys ∧ i ≤ xs.length ∧ i ≤ ys.length ∧ (i = xs.length ∨ i = ys.length)
/-- enumerate's own cell lies apart -/
structure Ap6 (e z TI TO i1 i2 a b : Addr) : Prop where
  D : ZipApart z TI TO i1 i2 a b
  ez : e ≠ z
  eTI : e ≠ TI
  eTO : e ≠ TO
  e1 : e ≠ i1
  e2 : e ≠ i2
  ea : e ≠ a
  eb : e ≠ b
theorem Ap6.sep {e z TI TO i1 i2 a b : Addr} (p : Ap6 e z TI TO i1 i2 a b) : ZipSep2 z TI TO i1 i2 [i1, a] [i2, b] := by
  have D := p.D
  refine ⟨D.TIz, D.TOz, D.TITO, D.TIi1, by simp, ?_, ?_, D.TIi2, by simp, ?_, ?_, ?_, ?_⟩ <;> intro q
  · rcases List.mem_cons.mp q with q | q
    · exact D.i1z q.symm
    · exact D.l1z (List.mem_singleton.mp q).symm
  · rcases List.mem_cons.mp q with q | q
    · exact D.TOi1 q
    · exact D.l1TO (List.mem_singleton.mp q).symm
  · rcases List.mem_cons.mp q with q | q
    · exact D.i2z q.symm
    · exact D.l2z (List.mem_singleton.mp q).symm
  · rcases List.mem_cons.mp q with q | q
    · exact D.TOi2 q
    · exact D.l2TO (List.mem_singleton.mp q).symm
  · rcases List.mem_cons.mp q with q | q
    · exact D.i12 q
    · exact D.l2i1 (List.mem_singleton.mp q).symm
  · rcases List.mem_cons.mp q with q | q
    · exact D.i12 q.symm
    · exact D.l1i2 (List.mem_singleton.mp q).symm
theorem turn_enumZ {P : Program} {w : World} {K : PySem.W.Frag} {elts : List Expr} {kk : Nat} {tp : Pos} {e z TI TO i1 i2 a b : Addr} (p : Ap6 e z TI TO i1 i2 a b) :
    Turn P w K (.Tuple elts kk tp) (IteZ K a b) [e, z, TI, TO, i1, i2] e (fun i h => (∃ old, IsEnum h e z ((i : Nat) : Int) old) ∧ ZO h z TI TO ∧ IsPair h TI (.ref i1) (.ref i2) ∧ (∃ x y, IsPair h TO x y) ∧ h.IsTupleIter i1 a i ∧ h.IsTupleIter i2 b i) where
  mem := List.mem_cons_self ..
  obj := fun i h st c hc => by
    obtain ⟨⟨old, he⟩, ⟨f0, f1, _, hz⟩, hTI, ⟨x, y, hTO⟩, ⟨o1, e1, _, d1⟩, ⟨o2, e2, _, d2⟩⟩ := st
    have e' : c = e ∨ c = z ∨ c = TI ∨ c = TO ∨ c = i1 ∨ c = i2 := by simpa using hc
    rcases e' with q | q | q | q | q | q
    · rw [q]; exact ⟨_, he, fun v q => nomatch q⟩
    · rw [q]; exact ⟨_, hz, fun v q => nomatch q⟩
    · rw [q]; exact ⟨_, hTI, fun v q => nomatch q⟩
    · rw [q]; exact ⟨_, hTO, fun v q => nomatch q⟩
    · rw [q]; exact ⟨o1, e1, fun v q => by rw [d1] at q; cases q⟩
    · rw [q]; exact ⟨o2, e2, fun v q => by rw [d2] at q; cases q⟩
  keep := fun i h h' st k => by
    obtain ⟨⟨old, he⟩, ⟨f0, f1, hf, hz⟩, hTI, ⟨x, y, hTO⟩, h1, h2⟩ := st
    exact ⟨⟨old, k e (by simp) _ he⟩, ⟨f0, f1, hf, k z (by simp) _ hz⟩, k TI (by simp) _ hTI, ⟨x, y, k TO (by simp) _ hTO⟩, h1.at fun o q => k i1 (by simp) o q, h2.at fun o q => k i2 (by simp) o q⟩
  item := by
    intro X hP hw hK hc i pins s σ H E I hf st hg
    subst hP hw hK
    obtain ⟨⟨old, he⟩, hz, hTI, ⟨x0, y0, hTO⟩, h1, h2⟩ := st
    obtain ⟨xs, ys, x, y, hqx, hqy, hx, hy⟩ := hg
    obtain ⟨its, rv, p1, _⟩ := I.tuple hqx
    obtain ⟨its2, rv2, p2, _⟩ := I.tuple hqy
    have p1 : s.heap.IsTuple a its.toArray := p1
    have p2 : s.heap.IsTuple b its2.toArray := p2
    obtain ⟨u, hu, ru⟩ := rv.get hx
    obtain ⟨u2, hu2, ru2⟩ := rv2.get hy
    have hu' : its.toArray[i]? = some u := by simpa using hu
    have hu2' : its2.toArray[i]? = some u2 := by simpa using hu2
    have hlt1 : i < its.toArray.size := (Array.getElem?_eq_some_iff.mp hu').1
    have hlt2 : i < its2.toArray.size := (Array.getElem?_eq_some_iff.mp hu2').1
    have el : e < s.heap.objs.size := Heap.lt_size he
    have S := p.sep
    refine enumZip_item S (Draws.tuple (A := X.A.in1.in1) (I.ok.hd hc) i1 a p.D.l1i1 its.toArray) (Draws.tuple (A := X.A.in1.in1) (I.ok.hd hc) i2 b p.D.l2i2 its2.toArray) he p.ez p.eTO p.e1 p.e2
      (fun q => by
        rcases List.mem_cons.mp q with q | q
        · exact p.e1 q
        · exact p.ea (List.mem_singleton.mp q))
      (fun q => by
        rcases List.mem_cons.mp q with q | q
        · exact p.e2 q
        · exact p.eb (List.mem_singleton.mp q))
      hz hTI hTO ⟨h1, p1⟩ ⟨h2, p2⟩ hlt1 hlt2 fun v1 v2 g1 g2 tk hv1 hv2 t0 sz1 k1 eo zo to s1 s2 t1 k2 => ?_
    have hv1 : its.toArray[i]? = some v1 := hv1
    have hv2 : its2.toArray[i]? = some v2 := hv2
    rw [hu'] at hv1
    rw [hu2'] at hv2
    cases hv1
    cases hv2
    refine ⟨_, rfl, wpAny_letOwnedTupleGo_enum (s := { s with heap := g2, toks := tk + 1 }) eo fun g3 he3 sb => ?_⟩
    have ne0 : s.heap.objs.size ≠ e := Nat.ne_of_gt el
    have ne1 : (s.heap.objs.size + 1 : Nat) ≠ e := fun q => by
      rw [← q] at el
      exact absurd el (Nat.not_lt.mpr (Nat.le_succ _))
    have ok1 : ObjOk X.prog X.w (upd H s.heap.objs.size (.tup [x, y])) g1 s.heap.objs.size (.tup [x, y]) := ⟨by show 2 ≤ sizeLine; decide, [u, u2], .cons ru (.cons ru2 .nil), ⟨_, t0, rfl, _, rfl⟩⟩
    have I1 : Inv X pins σ (upd H s.heap.objs.size (.tup [x, y])) { s with heap := g1, toks := tk } := I.turnedNew (t' := tk) (ch := [z, TO, i1, i2])
      (fun c o hb q => k1 c o (fun z => hb (by simp [z])) (fun z => hb (by simp [z])) (fun z => hb (by simp [z])) (fun z => hb (by simp [z])) q)
      (fun c hcm => hf c (by
        have e' : c = z ∨ c = TO ∨ c = i1 ∨ c = i2 := by simpa using hcm
        rcases e' with q | q | q | q <;> simp [q])) (Nat.le_refl _) ok1
    have hfe := hf e (by simp)
    have fe : FpOk X pins (upd H s.heap.objs.size (.tup [x, y])) e := ⟨by rw [upd_ne (Nat.ne_of_lt el)]; exact hfe.1, hfe.2⟩
    have t1' : g3.get? (s.heap.objs.size + 1) = some { cls := .type "tuple", data := .seq #[.int i tk, .ref s.heap.objs.size] } := (sb.2 _ ne1).trans t1
    have ok2 : ObjOk X.prog X.w (upd (upd H s.heap.objs.size (.tup [x, y])) (s.heap.objs.size + 1) (.tup [.int (i : Nat), .ref s.heap.objs.size])) g3 (s.heap.objs.size + 1) (.tup [.int (i : Nat), .ref s.heap.objs.size]) :=
      ⟨by show 2 ≤ sizeLine; decide, [.int i tk, .ref s.heap.objs.size], .cons ⟨_, rfl⟩ (.cons rfl .nil), ⟨_, t1', rfl, _, rfl⟩⟩
    have I2 : Inv X pins σ (upd (upd H s.heap.objs.size (.tup [x, y])) (s.heap.objs.size + 1) (.tup [.int (i : Nat), .ref s.heap.objs.size])) { s with heap := g3, toks := tk + 1 } := I1.turnedNew (t' := tk + 1) (ch := [e])
      (fun c o hb q => (sb.2 c fun z => hb (by simp [z])).trans (k2 c o (fun z => hb (by simp [z])) q))
      (fun c hcm => by rw [List.mem_singleton.mp hcm]; exact fe) (Nat.le_of_eq sz1) ok2
    refine ⟨.ref (s.heap.objs.size + 1), _, I2, rfl, ⟨_, _, x, y, rfl, I.hok.fresh (Nat.le_refl _), I1.hok.fresh (Nat.le_of_eq sz1), rfl, fun l hl => by rw [I.tuple_inj hl hqx]; exact hx, fun l hl => by rw [I.tuple_inj hl hqy]; exact hy⟩, ⟨⟨.ref s.heap.objs.size, ?_⟩, ?_, ?_, ?_, ?_, ?_⟩, fun c hcm => ?_⟩
    · have e1 : ((i + 1 : Nat) : Int) = (i : Int) + 1 := by omega
      rw [e1]
      exact he3
    · obtain ⟨f0, f1, q1, q2⟩ := zo
      exact ⟨f0, f1, q1, (sb.2 _ (Ne.symm p.ez)).trans q2⟩
    · exact (sb.2 _ (Ne.symm p.eTI)).trans (k2 _ _ (Ne.symm p.eTI) (k1 _ _ p.D.TIz p.D.TITO p.D.TIi1 p.D.TIi2 hTI))
    · obtain ⟨b1, b2, q⟩ := to
      exact ⟨b1, b2, (sb.2 _ (Ne.symm p.eTO)).trans q⟩
    · exact s1.1.at fun o q => (sb.2 _ (Ne.symm p.e1)).trans q
    · exact s2.1.at fun o q => (sb.2 _ (Ne.symm p.e2)).trans q
    · have hlt : c < s.heap.objs.size := by
        have e' : c = e ∨ c = z ∨ c = TI ∨ c = TO ∨ c = i1 ∨ c = i2 := by simpa using hcm
        rcases e' with q | q | q | q | q | q
        · rw [q]; exact el
        · rw [q]; obtain ⟨_, _, _, q2⟩ := hz; exact Heap.lt_size q2
        · rw [q]; exact Heap.lt_size hTI
        · rw [q]; exact Heap.lt_size hTO
        · rw [q]; obtain ⟨_, e1, _⟩ := h1; exact Heap.lt_size e1
        · rw [q]; obtain ⟨_, e2, _⟩ := h2; exact Heap.lt_size e2
      rw [upd_ne (Nat.ne_of_lt (Nat.lt_succ_of_lt hlt)), upd_ne (Nat.ne_of_lt hlt)]
      exact (hf c hcm).1
  done := by
    intro X hP hw hK hc i pins s σ H E I hf st hg
    subst hP hw hK
    obtain ⟨⟨old, he⟩, hz, hTI, ⟨x0, y0, hTO⟩, h1, h2⟩ := st
    obtain ⟨xs, ys, hqx, hqy, hl1, hl2, hend⟩ := hg
    obtain ⟨its, rv, p1, _⟩ := I.tuple hqx
    obtain ⟨its2, rv2, p2, _⟩ := I.tuple hqy
    have p1 : s.heap.IsTuple a its.toArray := p1
    have p2 : s.heap.IsTuple b its2.toArray := p2
    have l1 := rv.length
    have l2 := rv2.length
    have n1 : its.toArray.size = its.length := List.size_toArray ..
    have n2 : its2.toArray.size = its2.length := List.size_toArray ..
    exact enumZip_end p.sep (Draws.tuple (A := X.A.in1.in1) (I.ok.hd hc) i1 a p.D.l1i1 its.toArray) (Draws.tuple (A := X.A.in1.in1) (I.ok.hd hc) i2 b p.D.l2i2 its2.toArray) he hz hTI hTO ⟨h1, p1⟩ ⟨h2, p2⟩ (by omega) (by omega) (by omega) fun h' tk kp =>
      ⟨rfl, I.turnedL (t' := tk) (ch := [z, TO, i1, i2]) (fun c o hb q => kp c o (fun z => hb (by simp [z])) (fun z => hb (by simp [z])) (fun z => hb (by simp [z])) (fun z => hb (by simp [z])) q) fun c hcm => hf c (by
        have e' : c = z ∨ c = TO ∨ c = i1 ∨ c = i2 := by simpa using hcm
        rcases e' with q | q | q | q <;> simp [q])⟩
  self := fun A i s Q E ⟨⟨_, he⟩, _⟩ h => wpAny_pyIter_enum he h
section
variable {X : Cx} {σ : St} {H : Hp} {R : L2.It → Hp → Prop}
theorem neAd {n k j : Nat} (h : k ≠ j) : ((n + k : Nat) : Addr) ≠ (n + j : Nat) := fun e => h (Nat.add_left_cancel (show (n + k : Nat) = n + j from e))
theorem neLt {n k a : Nat} (h : a < n) : ((n + k : Nat) : Addr) ≠ (a : Nat) := fun e => by
  have e : (n + k : Nat) = a := e
  omega
theorem w_enumZ {x y : Expr} {p pos p2 pos2 tp : Pos} {elts : List Expr} {kk : Nat} (hg : Gl X "enumerate") (hm : X.mg "enumerate" = none) (hg2 : Gl X "zip") (hm2 : X.mg "zip" = none) (hs : starB x = false) (hs' : starB y = false)
    (h : tW X x σ H fun v H1 => tW X y σ H1 fun u H2 => ∃ a b xs ys, v = .ref a ∧ u = .ref b ∧ SqT X.K H2 a xs ∧ SqT X.K H2 b ys ∧ R (IteZ X.K a b) H2) :
    tWI X (.Tuple elts kk tp) (.Call (.Name "enumerate" p) [.Call (.Name "zip" p2) [x, y] [] pos2] [] pos) σ H R := by
  have two : starEach [x, y] X.env = (false, eval x X.env) :: starEach [y] X.env := by
    cases x <;> first
      | rfl
      | cases hs
  have one : starEach [y] X.env = [(false, eval y X.env)] := by
    cases y <;> first
      | rfl
      | cases hs'
  intro pins s I
  have hA : tWA X [x, y] σ H fun vs H1 => ∃ a b xs ys, vs = [.ref a, .ref b] ∧ SqT X.K H1 a xs ∧ SqT X.K H1 b ys ∧ R (IteZ X.K a b) H1 := w_cons hs (tW.mono h fun v H1 q => w_cons hs' (tW.mono q fun u H2 ⟨a, b, xs, ys, e1, e2, q⟩ => w_nil ⟨a, b, xs, ys, by rw [e1, e2], q⟩))
  refine PyProof.Rows.Call_ (ld_blt I hg hm PyProof.Rows.boot_enumerate (PyProof.Rows.callWith_type1 (Calls.spliced_cons ?_) rfl rfl))
  refine PyProof.Rows.Call_ (ld_blt I hg2 hm2 PyProof.Rows.boot_zip (PyProof.Rows.callWith_type1 (thn (hA pos2 pins s I) fun us s1 ⟨vs, H1, I1, r1, a, b, xs, ys, ev, hqx, hqy, q⟩ => ?_) two (by rw [one]; rfl)))
  subst ev
  cases r1 with
  | cons r rr =>
    cases rr with
    | cons r' rr =>
      cases rr
      cases r
      cases r'
      obtain ⟨its, rv, p1, _⟩ := I1.tuple hqx
      obtain ⟨its2, rv2, p2, _⟩ := I1.tuple hqy
      obtain ⟨o1, ho1, _⟩ := id p1
      obtain ⟨o2, ho2, _⟩ := id p2
      refine RZ.call_zipT (show s1.heap.IsTuple a its.toArray from p1) (show s1.heap.IsTuple b its2.toArray from p2) fun h' hz hTI hTO h1 h2 hsz hk => ?_
      refine Calls.spliced_nil ?_
      refine enum_callZ (s := { s1 with heap := h' }) hz fun h2' en kp => wpAny_pyIter_enum en ?_
      have hsz : h'.objs.size = s1.heap.objs.size + 5 := hsz
      have en : IsEnum h2' h'.objs.size (s1.heap.objs.size + 4) 0 .none := en
      show PIE X pins σ _ R (.ref h'.objs.size) _
      rw [hsz] at en ⊢
      have al := Heap.lt_size ho1
      have bl := Heap.lt_size ho2
      have ap : Ap6 (s1.heap.objs.size + 5) (s1.heap.objs.size + 4) (s1.heap.objs.size + 2) (s1.heap.objs.size + 3) s1.heap.objs.size (s1.heap.objs.size + 1) a b :=
        ⟨PySem.W.ktu_apart s1.heap.objs.size a b al bl, neAd (by decide), neAd (by decide), neAd (by decide), neAd (j := 0) (by decide), neAd (by decide), neLt al, neLt bl⟩
      have I2 : Inv X pins σ H1 { s1 with heap := h2' } := I1.kept (t' := s1.toks) fun c o e => kp c o (hk c o e)
      refine ⟨_, _, _, _, H1, rfl, I2, turn_enumZ ap, ⟨⟨.none, en⟩, ⟨_, _, .inl rfl, kp _ _ hz⟩, kp _ _ hTI, ⟨_, _, kp _ _ hTO⟩, h1.at fun o e => kp _ _ e, h2.at fun o e => kp _ _ e⟩, fun c hcm => ?_, q⟩
      have hle : s1.heap.objs.size ≤ c := by
        have e' : c = s1.heap.objs.size + 5 ∨ c = s1.heap.objs.size + 4 ∨ c = s1.heap.objs.size + 2 ∨ c = s1.heap.objs.size + 3 ∨ c = s1.heap.objs.size ∨ c = s1.heap.objs.size + 1 := by simpa using hcm
        rcases e' with z | z | z | z | z | z <;> rw [z]
        · exact Nat.le_add_right _ _
        · exact Nat.le_add_right _ _
        · exact Nat.le_add_right _ _
        · exact Nat.le_add_right _ _
        · exact Nat.le_refl _
        · exact Nat.le_add_right _ _
      exact I1.fpOk hle (I1.hok.fresh hle)
end
theorem zip_min : ∀ (xs ys : List W), (zipL xs ys).length ≤ xs.length ∧ (zipL xs ys).length ≤ ys.length ∧ ((zipL xs ys).length = xs.length ∨ (zipL xs ys).length = ys.length)
  | [], _ => ⟨Nat.le_refl _, Nat.zero_le _, .inl rfl⟩
  | _ :: _, [] => ⟨Nat.zero_le _, Nat.le_refl _, .inr rfl⟩
  | x :: xs, y :: ys => by
    obtain ⟨h1, h2, h3⟩ := zip_min xs ys
    refine ⟨Nat.succ_le_succ h1, Nat.succ_le_succ h2, ?_⟩
    rcases h3 with h | h
    · exact .inl (congrArg (· + 1) h)
    · exact .inr (congrArg (· + 1) h)
theorem wk_enumZ {K : PySem.W.Frag} {G : Nat → Option Addr} {g : Gh} {a c : Addr} {vs us : List V} {ws xs : List W} (h : SqT K g.F a vs) (r : RVs K G g ws vs) (h2 : SqT K g.F c us) (r2 : RVs K G g xs us) : Wk K G g (IteZ K a c) (enumL 0 (zipL ws xs)) where
  go := fun i w e f g' b sl σ H hK hG l R => by
    obtain ⟨x', ex, e3⟩ := enum_get e
    rw [Nat.zero_add] at e3
    subst e3
    obtain ⟨x, y, e0, e0', e3⟩ := zip_get ex
    subst e3
    obtain ⟨v, e1, rv⟩ := r.get e0
    obtain ⟨u, e1', rv'⟩ := r2.get e0'
    have hH : SqT K H a vs := SqT.le R.sub (SqT.le l.1 h)
    have hH' : SqT K H c us := SqT.le R.sub (SqT.le l.1 h2)
    refine ⟨⟨vs, us, v, u, hH, hH', e1, e1'⟩, fun x H' ⟨T0, T1, p, q, e2, hT0, hT1, e4, y, z⟩ => ?_⟩
    have y := y vs hH
    have z := z us hH'
    rw [e1] at y
    rw [e1'] at z
    cases y
    cases z
    subst e2 e4
    obtain ⟨g1, l1, R1, v1⟩ := wk_pairs (g'' := g') hK hG R hT0 (rv.le l) (rv'.le l)
    obtain ⟨g2, l2, R2, v2⟩ := wk_pairs (g'' := g1) hK hG R1 hT1 (.int _) v1
    exact ⟨g2, l1.trans l2, R2, v2⟩
  stop := fun f g' b sl σ H hK hG l R => ⟨vs, us, SqT.le R.sub (SqT.le l.1 h), SqT.le R.sub (SqT.le l.1 h2), by
    rw [enum_len, ← r.len, ← r2.len]
    exact zip_min ws xs⟩
end Ev
end
end
section
set_option Elab.async false
set_option linter.all false
set_option maxRecDepth 100000
set_option maxHeartbeats 2000000
/-! EvLc: iterables, comprehensions. -/
noncomputable section
namespace Ev
open PySem L2
set_option autoImplicit false
section
variable {tb : Tb} {N : List Str} {cl : Cl} {io : Nat → List Bool} {cn : Nat → W} {f : Fm}
variable {X : Cx} {sc : Scope} {e : Expr} {sl : Sl} {σ : St} {H : Hp} {g : Gh} {b : Nat} {Q : VK}
structure SI (tb : Tb) (N : List Str) (cl : Cl) (io : Nat → List Bool) (cn : Nat → W) (f : Fm) (x : It) : Prop where
  run : ∀ {X : Cx} {sc : Scope} {tg e : Expr}, Xok tb N cl io cn f X sc → chkI tb N sc tg x e = true → ∀ {sl : Sl} {σ : St} {H : Hp} {g : Gh} {b : Nat} {R : L2.It → Hp → Prop}, Rl f g b sl σ H →
    (evI cl io cn x sl).wb b (fun p b' => ∀ g' J H', g.le g' → Rl f g' b' p.2 σ H' → Wk f.K f.G g' J p.1 → R J H') → tWI X tg e σ H R
theorem tupB_ok {e : Expr} (h : tupB e = true) : ∃ es k p, e = .Tuple es k p := by
  cases e <;> first
    | exact ⟨_, _, _, rfl⟩
    | cases h
theorem star_two {a c : Expr} {env : Env} (h1 : starB a = false) (h2 : starB c = false) : starEach [a, c] env = (false, eval a env) :: starEach [c] env ∧ starEach [c] env = [(false, eval c env)] := by
  constructor
  · cases a <;> first
      | rfl
      | cases h1
  · cases c <;> first
      | rfl
      | cases h2
theorem star_one {a : Expr} {env : Env} (h1 : starB a = false) : starEach [a] env = [(false, eval a env)] := by
  cases a <;> first
    | rfl
    | cases h1
theorem inBi (x : Str) (h : decide (x ∈ allBi) = true) : x ∈ allBi := of_decide_eq_true h
theorem si_all {it : It} (S : AllI (SE tb N cl io cn f) it) : SI tb N cl io cn f it := ⟨fun {X sc tg e} o c {sl σ H g b R} Rr h => by
  have hr : ("range" : Str) ∈ allBi := by decide +kernel
  have he : ("enumerate" : Str) ∈ allBi := by decide +kernel
  have hz : ("zip" : Str) ∈ allBi := by decide +kernel
  unfold chkI at c
  rw [Bool.and_eq_true] at c
  obtain ⟨_, c⟩ := c
  cases it with
  | seq x =>
    have S : SE tb N cl io cn f x := S
    refine wi_val (S.kn o c Rr (T.wb_mono (fun r b' k g' v H' l R' rv => ?_) (T.wb_bind.mp (show (iSeq _ sl).wb b _ from h))))
    obtain ⟨⟨w, fr⟩, sl1⟩ := r
    have hK := o.bx.hK
    cases w with
    | lst ws =>
      cases rv with
      | lst q r => exact it_list (.inl (.inl (R'.sub _ _ q))) (by rw [hK]; exact k g' _ H' l R' (wk_list q r))
    | tup ws =>
      cases rv with
      | tup q r => exact it_tup (by rw [hK]; exact SqT.le R'.sub q) (by rw [hK]; exact k g' _ H' l R' (wk_tup q r))
    | _ => exact k.elim
  | txt x =>
    have S : SE tb N cl io cn f x := S
    refine wi_val (S.kn o c Rr (T.wb_mono (fun r b' k g' v H' l R' rv => ?_) (T.wb_bind.mp (show (iTxt _ sl).wb b _ from h))))
    obtain ⟨⟨w, fr⟩, sl1⟩ := r
    cases w <;> first
      | exact k.elim
      | skip
    cases rv
    obtain ⟨_, k⟩ := T.wb_guard k
    exact it_str (k g' _ H' l R' wk_str)
  | rng1 a =>
    have S : SE tb N cl io cn f a := S
    dsimp only at c
    split at c
    · rename_i a' hc
      obtain ⟨p, q, rfl, hg⟩ := calls_ok hc
      simp only [Bool.and_eq_true, Bool.not_eq_true'] at c
      refine of_pi (pi_range1 (o.glo _ hg) (o.bi _ hr) pa_w (star_one c.1)) (w_cons c.1 (S.kn o c.2 Rr (T.wb_mono (fun r b' k g' v H' l R' rv => w_nil ?_) (T.wb_bind.mp (show (iR1 _ sl).wb b _ from h)))))
      obtain ⟨⟨w, fr⟩, sl1⟩ := r
      cases w <;> first
        | exact k.elim
        | skip
      cases rv
      obtain ⟨k1, k⟩ := T.wb_guard k
      obtain ⟨z1, z2⟩ := fits_ok k1
      exact ⟨_, rfl, z1, z2, k g' _ H' l R' wk_rng⟩
    · cases c
  | rng2 a a2 =>
    have S : SE tb N cl io cn f a ∧ SE tb N cl io cn f a2 := S
    dsimp only at c
    split at c
    · rename_i a' c' hc
      obtain ⟨p, q, rfl, hg⟩ := calls_ok hc
      simp only [Bool.and_eq_true, Bool.not_eq_true'] at c
      obtain ⟨s1, s2⟩ := star_two (env := X.env) c.1 c.2.1
      refine of_pi (pi_range2 (o.glo _ hg) (o.bi _ hr) pa_w (by rw [s1, s2]) s2) (w_cons c.1 (S.1.kn o c.2.2.1 Rr (T.wb_mono (fun r b' k g' v H' l R' rv => ?_) (T.wb_bind.mp (show (iR2 _ _ sl).wb b _ from h)))))
      refine w_cons c.2.1 (S.2.kn o c.2.2.2 R' (T.wb_mono (fun r2 b2 k2 g2 v2 H2 l2 R2 rv2 => w_nil ?_) (T.wb_bind.mp k)))
      obtain ⟨i, j, e1, e2, k3⟩ := int2_wb k2
      rw [e1] at rv
      rw [e2] at rv2
      cases rv
      cases rv2
      obtain ⟨k4, k5⟩ := T.wb_guard k3
      rw [Bool.and_eq_true] at k4
      obtain ⟨z1, z2⟩ := fits_ok k4.1
      obtain ⟨z3, z4⟩ := fits_ok k4.2
      exact ⟨i, j, rfl, ⟨z1, z2, z3, z4⟩, k5 g2 _ H2 (l.trans l2) R2 wk_rng⟩
    · cases c
  | rng3 a a2 a3 =>
    have S : SE tb N cl io cn f a ∧ SE tb N cl io cn f a2 ∧ SE tb N cl io cn f a3 := S
    dsimp only at c
    split at c
    · rename_i a' c' d' hc
      obtain ⟨p, q, rfl, hg⟩ := calls_ok hc
      simp only [Bool.and_eq_true, Bool.not_eq_true'] at c
      refine of_pi (pi_range3 (o.glo _ hg) (o.bi _ hr) pa_w (star_cons c.1) (star_any (by rw [List.all_cons, List.all_cons, c.2.1, c.2.2.1]; rfl))) (w_cons c.1 (S.1.kn o c.2.2.2.1 Rr (T.wb_mono (fun r b' k g' v H' l R' rv => ?_) (T.wb_bind.mp (show (iR3 _ _ _ sl).wb b _ from h)))))
      refine w_cons c.2.1 (S.2.1.kn o c.2.2.2.2.1 R' (T.wb_mono (fun r2 b2 k2 g2 v2 H2 l2 R2 rv2 => ?_) (T.wb_bind.mp k)))
      refine w_cons c.2.2.1 (S.2.2.kn o c.2.2.2.2.2 R2 (T.wb_mono (fun r3 b3 k3 g3 v3 H3 l3 R3 rv3 => w_nil ?_) (T.wb_bind.mp k2)))
      obtain ⟨i, j, e1, e2, k4⟩ := int2_wb k3
      rw [e1] at rv
      rw [e2] at rv2
      cases rv
      cases rv2
      obtain ⟨⟨w3, fr3⟩, sl3⟩ := r3
      cases w3 <;> first
        | exact k4.elim
        | skip
      rename_i m
      obtain ⟨k5, k6⟩ := T.wb_guard k4
      rw [Bool.and_eq_true, Bool.and_eq_true] at k5
      obtain ⟨z1, z2⟩ := fits_ok k5.1.1
      obtain ⟨z3, z4⟩ := fits_ok k5.1.2
      have e3 := k5.2
      rw [eqI_dec] at e3
      have e3 := of_decide_eq_true e3
      subst e3
      cases rv3
      exact ⟨i, j, -1, _, rfl, RgC.neg z1 z2 z3 z4, k6 g3 _ H3 ((l.trans l2).trans l3) R3 wk_dn⟩
    · cases c
  | enum x =>
    have S : SE tb N cl io cn f x := S
    dsimp only at c
    rw [Bool.and_eq_true] at c
    obtain ⟨c0, c⟩ := c
    obtain ⟨es, kk, tp, rfl⟩ := tupB_ok c0
    split at c
    · rename_i a' hc
      obtain ⟨p, q, rfl, hg⟩ := calls_ok hc
      simp only [Bool.and_eq_true, Bool.not_eq_true'] at c
      refine w_enum (o.glo _ hg) (o.bi _ he) c.1 (S.kn o c.2 Rr (T.wb_mono (fun r b' k g' v H' l R' rv => ?_) (T.wb_bind.mp (show (iEnum _ sl).wb b _ from h))))
      obtain ⟨⟨w, fr⟩, sl1⟩ := r
      have hK := o.bx.hK
      cases w with
      | lst ws =>
        cases rv with
        | lst q r => exact ⟨_, rfl, .inl ⟨_, .inl (.inl (R'.sub _ _ q)), by rw [hK]; exact k g' _ H' l R' (wk_enumL q r)⟩⟩
      | tup ws =>
        cases rv with
        | tup q r => exact ⟨_, rfl, .inr ⟨_, by rw [hK]; exact SqT.le R'.sub q, by rw [hK]; exact k g' _ H' l R' (wk_enumT q r)⟩⟩
      | _ => exact k.elim
    · cases c
  | zip x y =>
    have S : SE tb N cl io cn f x ∧ SE tb N cl io cn f y := S
    dsimp only at c
    rw [Bool.and_eq_true] at c
    obtain ⟨c0, c⟩ := c
    obtain ⟨es, kk, tp, rfl⟩ := tupB_ok c0
    split at c
    · rename_i a' c' hc
      obtain ⟨p, q, rfl, hg⟩ := calls_ok hc
      simp only [Bool.and_eq_true, Bool.not_eq_true'] at c
      obtain ⟨s1, s2⟩ := star_two (env := X.env) c.1 c.2.1
      refine of_pi (RZ.pi_zipA (o.glo _ hg) (o.bi _ hz) pa_w s1 (by rw [s2]; rfl)) (w_cons c.1 (S.1.kn o c.2.2.1 Rr (T.wb_mono (fun r b' k g' v H' l R' rv => ?_) (T.wb_bind.mp (show (iZip _ _ sl).wb b _ from h)))))
      refine w_cons c.2.1 (S.2.kn o c.2.2.2 R' (T.wb_mono (fun r2 b2 k2 g2 v2 H2 l2 R2 rv2 => w_nil ?_) (T.wb_bind.mp k)))
      obtain ⟨⟨w, fr⟩, sl1⟩ := r
      obtain ⟨⟨w2, fr2⟩, sl2⟩ := r2
      have hK := o.bx.hK
      have rv := rv.le l2
      cases w with
      | lst ws =>
        cases w2 with
        | lst xs =>
          cases rv with
          | lst q r =>
            cases rv2 with
            | lst q2 r2 => exact ⟨_, _, _, _, rfl, .inl ⟨.inl (.inl (R2.sub _ _ q)), .inl (.inl (R2.sub _ _ q2)), by rw [hK]; exact k2 g2 _ H2 (l.trans l2) R2 (wk_zipL q r q2 r2)⟩⟩
        | _ => exact k2.elim
      | tup ws =>
        cases w2 with
        | tup xs =>
          cases rv with
          | tup q r =>
            cases rv2 with
            | tup q2 r2 => exact ⟨_, _, _, _, rfl, .inr ⟨by rw [hK]; exact SqT.le R2.sub q, by rw [hK]; exact SqT.le R2.sub q2, by rw [hK]; exact k2 g2 _ H2 (l.trans l2) R2 (wk_zipT q r q2 r2)⟩⟩
        | _ => exact k2.elim
      | _ => exact k2.elim
    · cases c
  | enumZip x y =>
    have S : SE tb N cl io cn f x ∧ SE tb N cl io cn f y := S
    dsimp only at c
    rw [Bool.and_eq_true] at c
    obtain ⟨c0, c⟩ := c
    obtain ⟨es, kk, tp, rfl⟩ := tupB_ok c0
    split at c
    · rename_i z' hc
      obtain ⟨p, q, rfl, hg⟩ := calls_ok hc
      split at c
      · rename_i a' c' hc'
        obtain ⟨p', q', rfl, hg'⟩ := calls_ok hc'
        simp only [Bool.and_eq_true, Bool.not_eq_true'] at c
        refine w_enumZ (o.glo _ hg) (o.bi _ he) (o.glo _ hg') (o.bi _ hz) c.1 c.2.1 (S.1.kn o c.2.2.1 Rr (T.wb_mono (fun r b' k g' v H' l R' rv => ?_) (T.wb_bind.mp (show (iEnumZip _ _ sl).wb b _ from h))))
        refine S.2.kn o c.2.2.2 R' (T.wb_mono (fun r2 b2 k2 g2 v2 H2 l2 R2 rv2 => ?_) (T.wb_bind.mp k))
        obtain ⟨⟨w, fr⟩, sl1⟩ := r
        obtain ⟨⟨w2, fr2⟩, sl2⟩ := r2
        have hK := o.bx.hK
        have rv := rv.le l2
        cases w with
        | tup ws =>
          cases w2 with
          | tup xs =>
            cases rv with
            | tup q r =>
              cases rv2 with
              | tup q2 r2 => exact ⟨_, _, _, _, rfl, rfl, by rw [hK]; exact SqT.le R2.sub q, by rw [hK]; exact SqT.le R2.sub q2, by rw [hK]; exact k2 g2 _ H2 (l.trans l2) R2 (wk_enumZ q r q2 r2)⟩
          | _ => exact k2.elim
        | _ => exact k2.elim
      · cases c
    · cases c⟩

/-! ### comprehensions -/
theorem wipeS_some {sl : Sl} : ∀ {own : List Nat} {i : Nat} {r : R}, (wipeS sl own)[i]? = some (some r) → sl[i]? = some (some r) ∧ i ∉ own
  | [], i, r, h => ⟨h, List.not_mem_nil⟩
  | v :: vs, i, r, h => by
    have h : (sett (wipeS sl vs) v none)[i]? = some (some r) := h
    rw [sett_eq] at h
    rcases sl_set h with ⟨_, e⟩ | ⟨e, h⟩
    · cases e
    · obtain ⟨h1, h2⟩ := wipeS_some h
      exact ⟨h1, fun z => by
        rcases List.mem_cons.mp z with y | y
        · exact e y.symm
        · exact h2 y⟩
theorem wipeS_len {sl : Sl} : ∀ {own : List Nat}, (wipeS sl own).length = sl.length
  | [] => rfl
  | v :: vs => by
    show (sett (wipeS sl vs) v none).length = _
    rw [sett_eq, List.length_set]
    exact wipeS_len
theorem wipe_in {σ : St} {i : Nat} : ∀ {vs : List Nat}, i ∈ vs → i < σ.length → (wipe σ vs)[i]? = some none
  | [], h, _ => (List.not_mem_nil h).elim
  | v :: vs, h, hl => by
    show ((wipe σ vs).set v none)[i]? = some none
    by_cases e : v = i
    · subst e
      rw [List.getElem?_set_self (by rw [wipe_length]; exact hl)]
    · rw [List.getElem?_set_ne e]
      rcases List.mem_cons.mp h with y | y
      · exact (e y.symm).elim
      · exact wipe_in y hl
theorem wipe_same {σ σ' : St} {vs : List Nat} (so : SameOut vs (wipe σ vs) σ') : wipe σ' vs = wipe σ vs := by
  refine List.ext_getElem? fun j => ?_
  have hl : σ'.length = σ.length := by rw [so.1, wipe_length]
  by_cases hj : j ∈ vs
  · by_cases hlt : j < σ.length
    · rw [wipe_in hj hlt, wipe_in hj (by rw [hl]; exact hlt)]
    · rw [List.getElem?_eq_none (by rw [wipe_length, hl]; omega), List.getElem?_eq_none (by rw [wipe_length]; omega)]
  · rw [wipe_out hj, so.2 j hj]
theorem ownOf_sub {own : List Nat} {i : Nat} (h : i ∈ (ownOf N own).map (·.2)) : i ∈ own := by
  obtain ⟨p, hp, e⟩ := List.mem_map.mp h
  obtain ⟨j, hj, e2⟩ := List.mem_filterMap.mp hp
  cases hn : nth N j with
  | none => rw [hn] at e2; cases e2
  | some x =>
    rw [hn] at e2
    have e2 : (x, j) = p := Option.some.inj e2
    subst e2
    have e : j = i := e
    subst e
    exact hj
mutual
/-- a target in a comprehension is the comprehension's own -/
theorem chkG_own {scope : Scope} {sc0 : Scope} {own : List (Str × Nat)} (ok : BlkOk N sc0 scope own) (nd : N.Nodup) : ∀ {t : Tg} {e : Expr}, chkG N scope t e = true → ∀ i ∈ tIx t, i ∈ own.map (·.2)
  | .nm i, e, c => by
    intro j hj
    have hj : j = i := List.mem_singleton.mp hj
    subst hj
    unfold chkG at c
    cases hn : asName e with
    | none => rw [hn] at c; cases c
    | some x =>
      rw [hn] at c
      have c : (atB N j x && locB scope x) = true := c
      rw [Bool.and_eq_true] at c
      have hN := atB_ok c.1
      have hl := c.2
      unfold locB at hl
      cases e : scope.names.lookup x with
      | none => rw [e] at hl; cases hl
      | some k =>
        rw [e] at hl
        have hk : k = .local ∨ k = .cell := by
          cases k <;> first
            | (cases hl; done)
            | exact .inl rfl
            | exact .inr rfl
        rcases ok.own _ (PySem.mem_of_lookup e) hk with z | z
        · obtain ⟨p, hp, ep⟩ := List.mem_map.mp z
          have h2 := ok.ix p hp
          have ep : p.1 = x := ep
          rw [ep] at h2
          have e3 : p.2 = j := by
            have l1 := (List.getElem?_eq_some_iff.mp h2)
            have l2 := (List.getElem?_eq_some_iff.mp hN)
            exact (List.getElem?_inj l1.1 nd).mp (h2.trans hN.symm)
          exact List.mem_map.mpr ⟨p, hp, e3⟩
        · exact (z (List.mem_of_getElem? hN)).elim
  | .tp ts, e, c => by
    unfold chkG at c
    cases hn : asTup e with
    | none => rw [hn] at c; cases c
    | some es =>
      rw [hn] at c
      exact chkGs_own ok nd c
theorem chkGs_own {scope : Scope} {sc0 : Scope} {own : List (Str × Nat)} (ok : BlkOk N sc0 scope own) (nd : N.Nodup) : ∀ {ts : List Tg} {es : List Expr}, chkGs N scope ts es = true → ∀ i ∈ tIxs ts, i ∈ own.map (·.2)
  | [], es, c => fun _ h => (List.not_mem_nil h).elim
  | t :: ts, es, c => by
    unfold chkGs at c
    cases es with
    | nil => cases c
    | cons e es =>
      dsimp only at c
      simp only [Bool.and_eq_true, Bool.not_eq_true'] at c
      intro i hi
      rcases List.mem_append.mp hi with z | z
      · exact chkG_own ok nd c.2.1 i z
      · exact chkGs_own ok nd c.2.2 i z
end
theorem Held.new {a : Addr} {u : HO} (R : Rl f g b sl σ H) (h : H a = none) : Held f g sl σ (upd H a u) a u where
  at_ := upd_same
  hF := R.freeF h
  hD := R.freeD h
  hI := fun z => by
    obtain ⟨x, e⟩ := R.ioS a z
    rw [h] at e
    cases e
  h0 := R.free0 h
  hs := R.freeS h
def teB (X : Cx) (scope : Scope) (e : Expr) : TE := fun σ H Q => ∀ (s : Shared) (H0 : Hp) (C : Addr) (l : List (Str × Addr)) (fp : List Addr), tW (X.blk s H0 scope (compEnvC scope l C X.env) fp) e σ H Q
def ttB (X : Cx) (scope : Scope) (ifs : List Expr) : TT := fun σ H Q => ∀ (s : Shared) (H0 : Hp) (C : Addr) (l : List (Str × Addr)) (fp : List Addr), match ifs with
  | [] => Q true H
  | [c] => tWT (X.blk s H0 scope (compEnvC scope l C X.env) fp) c σ H Q
  | _ => False
theorem pe_B {scope : Scope} {e : Expr} (s : Shared) (H0 : Hp) (C : Addr) (l : List (Str × Addr)) (fp : List Addr) : PE (X.blk s H0 scope (compEnvC scope l C X.env) fp) e (teB X scope e) := ⟨fun pins s1 _ _ _ I h => h s H0 C l fp pins s1 I⟩
theorem pts_B {scope : Scope} {ifs : List Expr} (s : Shared) (H0 : Hp) (C : Addr) (l : List (Str × Addr)) (fp : List Addr) : PTs (X.blk s H0 scope (compEnvC scope l C X.env) fp) ifs (ttB X scope ifs) := by
  cases ifs with
  | nil => exact ⟨fun pins s1 σ H Q I h => pts_nil.run pins s1 σ H Q I (h s H0 C l fp)⟩
  | cons c r =>
    cases r with
    | nil => exact ⟨fun pins s1 σ H Q I h => (pts_one pt_w).run pins s1 σ H Q I (h s H0 C l fp)⟩
    | cons _ _ => exact ⟨fun pins s1 σ H Q I h => (h s H0 C l fp).elim⟩
/-- how far a comprehension has come -/
structure LcW (f : Fm) (g1 : Gh) (σw : St) (D : Addr) (own : List Nat) (turn : W → Sl → T (Option W × Sl)) (items : List W) (Post : List W × Sl → Nat → Prop) (i m : Nat) (H : Hp) : Prop where
  ex : ∃ g' b' acc vs sl', m = items.length - i ∧ i ≤ items.length ∧ g1.le g' ∧ Rl f g' b' sl' σw H ∧ Held f g' sl' σw H D (.lst vs) ∧ RVs f.K f.G g' acc.reverse vs ∧ (∀ (i : Nat) r, sl'[i]? = some (some r) → i ∉ own) ∧ (lcGo turn (items.drop i) acc sl').wb b' Post
theorem lc_main {own : List Nat} {x : Ex} {t : Tg} {it : It} {ifs : Exs} {e' g' it' : Expr} {ifs' : List Expr} {scope : Scope} (o : Xok tb N cl io cn f X sc) (hblk : BlkOk N sc scope (ownOf N own))
    (Se : ∀ f, SX tb N cl io cn f x) (Sf : ∀ f, AllX (SX tb N cl io cn f) ifs) (Si : SI tb N cl io cn f it)
    (c1 : chkE tb N scope x e' = true) (c2 : chkG N scope t g' = true) (c3 : chkI tb N sc g' it it' = true) (c4 : chkL tb N scope ifs ifs' = true) (c5 : oneB ifs = true) (R : Rl f g b sl σ H)
    (h : (kLc own (evE cl io cn x) t (evI cl io cn it) (evL cl io cn ifs) sl).wb b (fun r b' => ∀ g' v H', g.le g' → Rl f g' b' r.2 σ H' → Vl f g' H' r.2 σ r.1 v → Q v H')) :
    tLc (tWI X g' it') (gOf X.K t) (ttB X scope ifs') (teB X scope e') ((ownOf N own).map (·.2)) σ H Q := by
  refine Si.run o c3 R (T.wb_mono (fun p b1 k g1 J H1 l1 R1 wk => ?_) (T.wb_bind.mp h))
  intro D hD
  obtain ⟨items, sl1⟩ := p
  obtain ⟨Post, hPost⟩ : ∃ P : List W × Sl → Nat → Prop, P = fun a b' => ∀ g' v H', g.le g' → Rl f g' b' a.2 σ H' → Vl f g' H' a.2 σ (.lst a.1, true) v → Q v H' := ⟨_, rfl⟩
  have k : (lcGo (kLcT own (evE cl io cn x) t (evL cl io cn ifs)) items [] (wipeS sl1 own)).wb b1 Post := by
    rw [hPost]
    exact T.wb_bind.mp k
  generalize hvs : (ownOf N own).map (·.2) = vs
  have sub : ∀ i, i ∈ vs → i ∈ own := fun i hi => by
    rw [← hvs] at hi
    exact ownOf_sub hi
  have tsub : ∀ i, i ∈ tIx t → i ∈ vs := fun i hi => by
    rw [← hvs]
    exact chkG_own hblk o.nd c2 i hi
  have R1w : Rl f g1 b1 (wipeS sl1 own) (wipe σ vs) H1 := (R1.weak wipeS_len fun i r e => (wipeS_some e).1).sig (wipe_length _ _) fun i r e => wipe_out fun z => (wipeS_some e).2 (sub i z)
  have hk : scope.kind = .function := hblk.kind
  refine ⟨LcW f g1 (wipe σ vs) D own (kLcT own (evE cl io cn x) t (evL cl io cn ifs)) items Post, ⟨items.length, ⟨g1, b1, [], [], wipeS sl1 own, by rw [Nat.sub_zero], Nat.zero_le _, Gh.le.refl g1, R1w.mono (same_upd hD), .new R1w hD, .nil, fun i r e => (wipeS_some e).2, k⟩⟩, ?_⟩
  rintro i m H2 ⟨g2, b2, acc, vsD, sl2, rfl, hi, l2, R2, held, rvs, hown, k2⟩
  by_cases hlt : i < items.length
  · right
    have hw : items[i]? = some items[i] := List.getElem?_eq_getElem hlt
    rw [List.drop_eq_getElem_cons hlt] at k2
    have k2 := T.wb_bind.mp k2
    have Ren := R2.enter held
    obtain ⟨go, yl⟩ := wk.go i _ hw (f.hold g2 D (.lst vsD)) g2 b2 sl2 (wipe σ vs) H2 rfl rfl l2 Ren
    refine ⟨go, LcW f g1 (wipe σ vs) D own (kLcT own (evE cl io cn x) t (evL cl io cn ifs)) items Post (i + 1) (items.length - (i + 1)), fun H' q => ⟨items.length - (i + 1), by omega, q⟩, fun xv H3 y => ?_⟩
    obtain ⟨g3, l3, R3, rv⟩ := yl xv H3 y
    rw [o.bx.hK]
    refine setG_ok (f := f.hold g2 D (.lst vsD)) (fr := false) R3 rv (T.wb_bind.mp k2) fun sl4 σ4 k4 R4 so => ⟨wipe_same (so.mono tsub), ?_⟩
    have so := so.mono tsub
    have k4 := T.wb_bind.mp k4
    -- the end of a turn
    have back : ∀ {g5 : Gh} {b5 : Nat} {sl5 : Sl} {H5 : Hp}, g3.le g5 → Rl (f.hold g2 D (.lst vsD)) g5 b5 sl5 σ4 H5 → g1.le g5 ∧ Rl f g5 b5 (wipeS sl5 own) (wipe σ vs) H5 ∧ Held f g5 (wipeS sl5 own) (wipe σ vs) H5 D (.lst vsD) ∧ RVs f.K f.G g5 acc.reverse vsD := fun {g5 b5 sl5 H5} l5 R5 => by
      obtain ⟨z1, z2⟩ := R2.leave held R5
      have same : ∀ (i : Nat) r, (wipeS sl5 own)[i]? = some (some r) → (wipe σ vs)[i]? = σ4[i]? := fun i r e => (so.2 i fun z => (wipeS_some e).2 (sub i z)).symm
      refine ⟨(l2.trans l3).trans l5, (z1.weak wipeS_len fun i r e => (wipeS_some e).1).sig so.1.symm same, ⟨z2.at_, z2.hF, z2.hD, z2.hI, z2.h0, fun i u e => ?_⟩, rvs.le (l3.trans l5)⟩
      rw [same i _ e]
      exact z2.hs i u (wipeS_some e).1
    have no : ∀ {g5 : Gh} {b5 : Nat} {sl5 : Sl} {H5 : Hp}, g3.le g5 → Rl (f.hold g2 D (.lst vsD)) g5 b5 sl5 σ4 H5 → (lcGo (kLcT own (evE cl io cn x) t (evL cl io cn ifs)) (items.drop (i + 1)) acc (wipeS sl5 own)).wb b5 Post →
        LcW f g1 (wipe σ vs) D own (kLcT own (evE cl io cn x) t (evL cl io cn ifs)) items Post (i + 1) (items.length - (i + 1)) H5 := fun {g5 b5 sl5 H5} l5 R5 k5 => by
      obtain ⟨y1, y2, y3, y4⟩ := back l5 R5
      exact ⟨g5, b5, acc, vsD, wipeS sl5 own, rfl, hlt, y1, y2, y3, y4, fun i r e => (wipeS_some e).2, k5⟩
    have yes : ∀ {g5 : Gh} {b5 : Nat} {sl5 : Sl} {H5 : Hp}, g3.le g5 → Rl (f.hold g2 D (.lst vsD)) g5 b5 sl5 σ4 H5 → ((evE cl io cn x sl5).bind fun r => T.ok (some r.1.1, wipeS r.2 own)).wb b5 (fun p b => (match p.1 with
        | some w => T.guard (Nat.blt acc.length sizeLine) (lcGo (kLcT own (evE cl io cn x) t (evL cl io cn ifs)) (items.drop (i + 1)) (w :: acc) p.2)
        | none => lcGo (kLcT own (evE cl io cn x) t (evL cl io cn ifs)) (items.drop (i + 1)) acc p.2).wb b Post) →
        teB X scope e' σ4 H5 fun y H4 => ∃ acc, H4 D = some (.lst acc) ∧ acc.length < sizeLine ∧ LcW f g1 (wipe σ vs) D own (kLcT own (evE cl io cn x) t (evL cl io cn ifs)) items Post (i + 1) (items.length - (i + 1)) (upd H4 D (.lst (acc ++ [y]))) := fun {g5 b5 sl5 H5} l5 R5 k5 => by
      intro s0 H0 C l0 fp
      refine (Se _).1.kn ((o.frame (f' := f.hold g2 D (.lst vsD)) rfl rfl).blk hk s0 H0 C l0 fp) c1 R5 (T.wb_mono (fun r b6 k6 g6 v6 H6 l6 R6 rv6 => ?_) (T.wb_bind.mp k5))
      obtain ⟨k7, k8⟩ := T.wb_guard k6
      obtain ⟨y1, y2, y3, y4⟩ := back (l5.trans l6) R6
      have hl := y4.len
      rw [List.length_reverse] at hl
      have k7 : acc.length < sizeLine := Nat.le_of_ble_eq_true k7
      refine ⟨vsD, y3.at_, by rw [← hl]; exact k7, g6, b6, r.1.1 :: acc, vsD ++ [v6], wipeS r.2 own, rfl, hlt, y1, y2.chg y3.hF y3.hD (.inl y3.h0) y3.hs, ⟨upd_same, y3.hF, y3.hD, y3.hI, y3.h0, y3.hs⟩, ?_, fun i r e => (wipeS_some e).2, k8⟩
      rw [List.reverse_cons]
      exact y4.append (.cons rv6 .nil)
    intro s0 H0 C l0 fp
    cases ifs with
    | nil =>
      have c4 : ifs'.isEmpty = true := c4
      rw [List.isEmpty_iff] at c4
      subst c4
      dsimp only
      rw [if_pos rfl]
      exact yes (Gh.le.refl g3) R4 k4
    | cons z zs =>
      cases zs with
      | cons _ _ => cases c5
      | nil =>
        cases ifs' with
        | nil => cases c4
        | cons c cs =>
          have c4 : (!starB c && (chkE tb N scope z c && chkL tb N scope .nil cs)) = true := c4
          simp only [Bool.and_eq_true, Bool.not_eq_true'] at c4
          have c6 : cs.isEmpty = true := c4.2.2
          rw [List.isEmpty_iff] at c6
          subst c6
          refine (Sf _).1.2.run ((o.frame (f' := f.hold g2 D (.lst vsD)) rfl rfl).blk hk s0 H0 C l0 fp) c4.2.1 R4 (T.wb_mono (fun r b6 k6 => ?_) (T.wb_bind.mp k4))
          obtain ⟨tv, e1, k7⟩ := boolOf_wb (T.wb_bind.mp k6)
          refine ⟨tv, e1, fun g6 H6 l6 R6 => ?_⟩
          cases tv with
          | true =>
            rw [if_pos rfl]
            exact yes l6 R6 k7
          | false =>
            rw [if_neg (by decide)]
            exact no l6 R6 k7
  · left
    have ei : i = items.length := by omega
    subst ei
    refine ⟨wk.stop f g2 b2 sl2 (wipe σ vs) H2 rfl rfl l2 R2, ?_⟩
    rw [List.drop_length] at k2
    rw [hPost] at k2
    have same : ∀ (i : Nat) r, sl2[i]? = some (some r) → σ[i]? = (wipe σ vs)[i]? := fun i r e => (wipe_out fun z => hown i r e (sub i z)).symm
    refine k2 g2 _ H2 (l1.trans l2) (R2.sig (wipe_length _ _).symm same) ⟨D, rfl, ⟨vsD, held.at_, rvs⟩, held.hF, held.hD, held.h0, fun i u e => ?_⟩
    show σ[i]? ≠ _
    rw [same i _ e]
    exact held.hs i u e

theorem fold_ok {e : Expr} {env : Env} (h : setB e = false) (x : Value) : foldedSetIterable e env x = pure x := by
  cases e <;> first
    | rfl
    | cases h
/-- a comprehension's syntax -/
theorem chk_lc {own : List Nat} {x : Ex} {t : Tg} {it : It} {ifs : Exs} {e : Expr} (c : chkE tb N sc (.lc own x t it ifs) e = true) : ∃ e' g' it' ifs' scope pos, e = .ListComp e' [⟨g', it', ifs', 0⟩] scope pos ∧ BlkOk N sc scope (ownOf N own) ∧
    chkE tb N scope x e' = true ∧ chkG N scope t g' = true ∧ chkI tb N sc g' it it' = true ∧ chkL tb N scope ifs ifs' = true ∧ oneB ifs = true ∧ setB it' = false := by
  unfold chkE at c
  split at c
  · rename_i hc
    obtain ⟨p, rfl⟩ := asLc_ok hc
    simp only [Bool.and_eq_true] at c
    obtain ⟨c1, c2, c3, c4, c5, c6⟩ := c
    refine ⟨_, _, _, _, _, p, rfl, blkOk_by c1, c2, c3, c4, c5, c6, ?_⟩
    have c4' := c4
    unfold chkI at c4'
    simp only [Bool.and_eq_true, Bool.not_eq_true'] at c4'
    exact c4'.1
  · cases c
theorem blk_to (o : Xok tb N cl io cn f X sc) {scope : Scope} {own : List (Str × Nat)} (k : BlkOk N sc scope own) : BlkOk X.N X.env.scope scope own where
  kind := k.kind
  uniq := k.uniq
  ix := fun p hp => by rw [o.hN]; exact k.ix p hp
  free := fun y hy e => o.cf _ (k.free y hy e)
  own := fun y hy e => by rw [o.hN]; exact k.own y hy e
theorem se_lc {own : List Nat} {x : Ex} {t : Tg} {it : It} {ifs : Exs} (Se : ∀ f, SX tb N cl io cn f x) (Sf : ∀ f, AllX (SX tb N cl io cn f) ifs) (Si : SI tb N cl io cn f it) : SE tb N cl io cn f (.lc own x t it ifs) := ⟨fun {X sc e} o c {sl σ H g b Q} R h => by
  obtain ⟨e', g', it', ifs', scope, pos, rfl, c0, c1, c2, c3, c4, c5, c6⟩ := chk_lc c
  exact of_pe (pe_lc o.bx.calm (by rw [o.hN]; exact o.nd) pi_w (blk_to o c0) (fun s H C l fp => pg_of (o.blk c0.kind s H C l fp) c2) pts_B pe_B (fold_ok c6)) (lc_main o c0 Se Sf Si c1 c2 c3 c4 c5 R h)⟩
theorem ST.no {x : Ex} (S : SE tb N cl io cn f x) (hp : ∀ {sc : Scope} {e : Expr}, chkE tb N sc x e = true → plainT e = true) : SX tb N cl io cn f x := ⟨S, ST.of S hp⟩
theorem w_iteT {a c d : Expr} {pos : Pos} {Q : Bool → Hp → Prop} (h : tWT X a σ H fun t H1 => if t = true then tWT X c σ H1 Q else tWT X d σ H1 Q) : tWT X (.IfExp a c d pos) σ H Q := fun pins s I => by
  rw [arm_isTrue_IfExp]
  refine wpAny_bind (thn (h pins s I) fun t s1 ⟨H1, I1, q⟩ => ?_)
  cases t with
  | true =>
    rw [if_pos rfl] at q ⊢
    exact q pins s1 I1
  | false =>
    rw [if_neg (by decide)] at q ⊢
    exact q pins s1 I1
theorem se_ite2 {x y z : Ex} (Sx : SX tb N cl io cn f x) (Sy : SX tb N cl io cn f y) (Sz : SX tb N cl io cn f z) : SX tb N cl io cn f (.ite x y z) := by
  refine ⟨se_ite Sx.2 Sy.1 Sz.1, ⟨fun {X sc e} o c {sl σ H g b Q} R h => ?_⟩⟩
  unfold chkE at c
  split at c
  · rename_i hc
    obtain ⟨pp, rfl⟩ := asIf_ok hc
    simp only [Bool.and_eq_true] at c
    refine w_iteT (Sx.2.run o c.1 R (T.wb_mono (fun r b' k => ?_) (T.wb_bind.mp (show (kIte _ _ _ sl).wb b _ from h))))
    obtain ⟨t, e1, k⟩ := boolOf_wb (T.wb_bind.mp k)
    refine ⟨t, e1, fun g' H' l R' => ?_⟩
    cases t with
    | true =>
      rw [if_pos rfl]
      exact Sy.2.run o c.2.1 R' (T.wb_mono (fun r b2 ⟨t, e2, k2⟩ => ⟨t, e2, fun g2 H2 l2 R2 => k2 g2 H2 (l.trans l2) R2⟩) k)
    | false =>
      rw [if_neg (by decide)]
      exact Sz.2.run o c.2.2 R' (T.wb_mono (fun r b2 ⟨t, e2, k2⟩ => ⟨t, e2, fun g2 H2 l2 R2 => k2 g2 H2 (l.trans l2) R2⟩) k)
  · cases c

/-! ### index -/
theorem mtr_w {id : String} : MtR X id (fun x vs H Q => MtWt X id x vs H Q) := fun pins s σ H x xs v us Q I rx rv h => h pins s σ v us I rx rv
theorem se_mth {m : Mt} {a : Ex} {es : Exs} (Sa : SE tb N cl io cn f a) (Sx : AllX (SE tb N cl io cn f) es) : SE tb N cl io cn f (.mth m a es) := ⟨fun {X sc e} o c {sl σ H g b Q} R h => by
  unfold chkE at c
  cases hc : asMeth e with
  | none => rw [hc] at c; cases c
  | some y =>
    rw [hc] at c
    obtain ⟨ob, n, x'⟩ := y
    obtain ⟨nm, p, ap, cp, rfl, eo, hline⟩ := asMeth_ok hc
    have eo : ob = .Name nm p := eo
    subst eo
    simp only [Bool.and_eq_true, Bool.not_eq_true'] at c
    obtain ⟨c1, c2, c3, c4, c5, c6⟩ := c
    have en := eqS_iff.mp c1
    subst en
    have h : (kMth m (isG a) (isV a, evE cl io cn a) (evL cl io cn es) sl).wb b _ := h
    have em : m = .index := by
      cases m <;> first
        | rfl
        | cases c2
    subst em
    -- behind the receiver
    have rest : ∀ {g1 : Gh} {v1 : V} {H1 : Hp} {b1 : Nat} {hd1 : Hd} {sl1 : Sl}, g.le g1 → Rl f g1 b1 sl1 σ H1 → HV f g1 σ hd1 v1 →
        ((lH (evL cl io cn es) sl1).bind fun q => (hd1.get q.2).bind fun x => (getAll q.1 q.2).bind fun ws => T.guard (recvB (isG a) x) ((mtW .index x ws).bind fun w => .ok ((w, false), q.2))).wb b1 (fun r b' => ∀ g' v H', g.le g' → Rl f g' b' r.2 σ H' → Vl f g' H' r.2 σ r.1 v → Q v H') →
        tWA X [x'] σ H1 fun xs H2 => ∃ x, (∀ w, hd1 = .val w → x = w) ∧ recvB (isG a) x = true ∧ (((∃ xs, x = .tup xs) ∧ MtWt X "tuple.index" v1 xs H2 Q) ∨ ((∃ xs, x = .lst xs) ∧ MtWt X "list.index" v1 xs H2 Q)) := fun {g1 v1 H1 b1 hd1 sl1} l1 R1 hv k => by
      refine lH_ok Sx o c6 R1 (T.wb_mono (fun q b2 k2 g2 vs H2 l2 R2 hvs => ?_) (T.wb_bind.mp k))
      obtain ⟨x, k3, px, ex⟩ : ∃ x, ((getAll q.1 q.2).bind fun ws => T.guard (recvB (isG a) x) ((mtW .index x ws).bind fun w => T.ok ((w, false), q.2))).wb b2 (fun r b' => ∀ g' v H', g.le g' → Rl f g' b' r.2 σ H' → Vl f g' H' r.2 σ r.1 v → Q v H') ∧ PV f g2 H2 x v1 ∧ ∀ w, hd1 = .val w → x = w := by
        cases hd1 with
        | val w => exact ⟨w, T.wb_bind.mp k2, .inl (hv.le l2), fun u e => by cases e; rfl⟩
        | slot i =>
          obtain ⟨x, k3, px⟩ := (hv.le l2).get R2 (T.wb_bind.mp k2)
          exact ⟨x, k3, px, fun u e => by cases e⟩
      obtain ⟨ws, k4, pws⟩ := hvs.get R2 (T.wb_bind.mp k3)
      obtain ⟨k5, k6⟩ := T.wb_guard k4
      cases pws with
      | nil => exact k6.elim
      | cons py pr =>
        cases pr with
        | cons _ _ => exact k6.elim
        | nil => exact ⟨x, ex, k5, index_ok (X := X) (Q := Q) o.bx.hK R2 px py (T.wb_bind.mp k6) (fun w v k rv => k g2 v H2 (l1.trans l2) R2 rv)⟩
    have few : ((backTo cp (starEach [x'] X.env)).all (fun x => !x.1) && (backToKw cp (keywordEach [] X.env)).all (fun x => x.1.isSome) && decide ([x'].length + ([] : List Keyword).length + (if ([] : List Keyword).isEmpty then 0 else 1) < 30)) = true := by
      rw [star_one c4]
      rfl
    cases a with
    | glo k =>
      have c5' := c5
      unfold chkE at c5
      have c5 : (atB tb.cnm k nm && (gloB sc nm && okN nm)) = true := c5
      simp only [Bool.and_eq_true, okN, Bool.not_eq_true'] at c5
      obtain ⟨d1, d2, d3, d4, _⟩ := c5
      obtain ⟨v, u, h1, h2, h3, h4⟩ := o.con k nm (atB_ok d1)
      have h : (T.guard (recvB true (cn k)) ((lH (evL cl io cn es) sl).bind fun q => ((Hd.val (cn k)).get q.2).bind fun x => (getAll q.1 q.2).bind fun ws => T.guard (recvB true x) ((mtW .index x ws).bind fun w => .ok ((w, false), q.2)))).wb b _ := h
      obtain ⟨k1, k2⟩ := T.wb_guard h
      have rr := rest (hd1 := .val (cn k)) (v1 := v) (Gh.le.refl g) R (h3 g) k2
      have glob : ∀ {Q' : VK}, Q' v H → tW X (.Name nm p) σ H Q' := fun q => of_pe (pe_glob (o.glo nm d2) h1 h2 d3) q
      cases hcn : cn k with
      | tup ws =>
        obtain ⟨aa, oo, e1, e2, e3, e4⟩ := h4 ws hcn
        refine of_pe (pe_bm PySem.F.plainAttrs_tuple PySem.F.slot_tuple_index PySem.F.type_tuple_index mtr_w pe_w pa_w rfl few hline (star_cons c4) rfl) (glob ⟨?_, tWA.mono rr fun xs H2 ⟨x, ex, _, z⟩ => ?_⟩)
        · rw [e1]
          exact .inr (.inl ⟨rfl, oo, e2, e3, e4⟩)
        · have ex := ex (cn k) rfl
          rw [hcn] at ex
          rcases z with ⟨_, z⟩ | ⟨⟨ys, ey⟩, _⟩
          · exact z
          · rw [ey] at ex; cases ex
      | lst ws =>
        refine of_pe (pe_bm PySem.F.plainAttrs_list PySem.F.slot_list_index PySem.F.type_list_index mtr_w pe_w pa_w rfl few hline (star_cons c4) rfl) (glob ⟨?_, tWA.mono rr fun xs H2 ⟨x, ex, _, z⟩ => ?_⟩)
        · have rv := h3 g
          rw [hcn] at rv
          cases rv with
          | lst q r => exact .inl ⟨rfl, _, .inl (.inl (R.sub _ _ q))⟩
        · have ex := ex (cn k) rfl
          rw [hcn] at ex
          rcases z with ⟨⟨ys, ey⟩, _⟩ | ⟨_, z⟩
          · rw [ey] at ex; cases ex
          · exact z
      | _ => rw [hcn] at k1; cases k1
    | var i =>
      refine of_pe (pe_bm PySem.F.plainAttrs_list PySem.F.slot_list_index PySem.F.type_list_index mtr_w pe_w pa_w rfl few hline (star_cons c4) rfl) ?_
      refine Sa.hd o c5 R (T.wb_mono (fun p1 b1 k1 g1 v1 H1 l1 R1 hv1 => ?_) (T.wb_bind.mp h))
      obtain ⟨x0, k2, px⟩ := hv1.get R1 (T.wb_bind.mp k1)
      obtain ⟨k3, k4⟩ := T.wb_guard k2
      refine ⟨?_, tWA.mono (rest l1 R1 hv1 k4) fun xs H2 ⟨x, _, gx, z⟩ => ?_⟩
      · have k3 : recvB false x0 = true := k3
        cases x0 <;> first
          | (cases k3; done)
          | skip
        obtain ⟨aa, vs, rfl, q, r⟩ := px.lst R1.sub
        exact .inl ⟨rfl, vs, .inl (.inl q)⟩
      · rcases z with ⟨⟨ys, ey⟩, _⟩ | ⟨_, z⟩
        · rw [ey] at gx; cases gx
        · exact z
    | _ => cases c3⟩
end
end Ev
end
end
section
set_option Elab.async false
set_option linter.all false
set_option maxRecDepth 100000
set_option maxHeartbeats 2000000
/-! EvAll: all expressions. -/
noncomputable section
namespace Ev
open PySem L2
set_option autoImplicit false
section
variable {tb : Tb} {N : List Str} {cl : Cl} {io : Nat → List Bool} {cn : Nat → W}
theorem pl_name {o : Option Str} {e : Expr} {F : Str → Bool} (h : (match asName e with
    | some x => F x
    | none => false) = true) : plainT e = true := by
  cases hn : asName e with
  | none => rw [hn] at h; cases h
  | some x =>
    obtain ⟨p, rfl⟩ := asName_ok hn
    rfl
mutual
theorem sndE : ∀ (x : Ex) (f : Fm), SX tb N cl io cn f x
  | .bad, f => se_bad
  | .var i, f => ST.no (se_var i) fun {sc e} c => by
    unfold chkE at c
    exact pl_name (o := none) c
  | .con w, f => ST.no (se_con w) fun {sc e} c => by
    unfold chkE at c
    cases hn : asCon e with
    | none => rw [hn] at c; cases c
    | some x =>
      obtain ⟨p, q, rfl⟩ := asCon_ok hn
      rfl
  | .glo k, f => ST.no (se_glo k) fun {sc e} c => by
    unfold chkE at c
    exact pl_name (o := none) c
  | .tup es, f => ST.no (se_tup ((sndL es f).mono fun _ h => h.1)) fun {sc e} c => by
    unfold chkE at c
    cases hn : asTup e with
    | none => rw [hn] at c; cases c
    | some x =>
      obtain ⟨p, q, rfl⟩ := asTup_ok hn
      rfl
  | .lst es, f => ST.no (se_lst ((sndL es f).mono fun _ h => h.1)) fun {sc e} c => by
    unfold chkE at c
    cases hn : asLst e with
    | none => rw [hn] at c; cases c
    | some x =>
      obtain ⟨p, rfl⟩ := asLst_ok hn
      rfl
  | .dnew, f => ST.no se_dnew fun {sc e} c => by
    unfold chkE at c
    cases hn : asDct e with
    | none => rw [hn] at c; cases c
    | some x =>
      obtain ⟨p, rfl⟩ := asDct_ok hn
      rfl
  | .op o a b, f => se_op (sndE a f).1 (sndE b f).1
  | .chain o p a b c, f => se_chain (sndE a f).1 (sndE b f).1 (sndE c f).1
  | .neg a, f => ST.no (se_neg (sndE a f).1) fun {sc e} c => by
    unfold chkE at c
    split at c
    · rename_i hc
      obtain ⟨p, rfl⟩ := asUn_ok hc
      rfl
    · cases c
  | .not a, f => se_not (sndE a f)
  | .and es, f => se_and (sndL es f)
  | .or es, f => se_or (sndL es f)
  | .ite c a b, f => se_ite2 (sndE c f) (sndE a f) (sndE b f)
  | .idx a i, f => ST.no (se_idx (sndE a f).1 (sndE i f).1) fun {sc e} c => by
    unfold chkE at c
    split at c
    · rename_i hc
      obtain ⟨p, rfl⟩ := asSub_ok hc
      rfl
    · cases c
  | .sli a lo hi, f => ST.no (se_sli (sndE a f).1 (sndO lo f) (sndO hi f)) fun {sc e} c => by
    unfold chkE at c
    split at c
    · rename_i hc
      obtain ⟨p, rfl⟩ := asSub_ok hc
      rfl
    · cases c
  | .call j es, f => se_call ((sndL es f).mono fun _ h => h.1)
  | .bi t es, f => se_bi ((sndL es f).mono fun _ h => h.1)
  | .mth m a es, f => ST.no (se_mth (sndE a f).1 ((sndL es f).mono fun _ h => h.1)) fun {sc e} c => by
    unfold chkE at c
    cases hc : asMeth e with
    | none => rw [hc] at c; cases c
    | some y =>
      obtain ⟨x, p, ap, cp, rfl, _⟩ := asMeth_ok hc
      rfl
  | .draw m l, f => ST.no (se_draw (sndE m f).1 (sndE l f).1) fun {sc e} c => by
    unfold chkE at c
    split at c
    · rename_i hc
      obtain ⟨p, q, rfl, _⟩ := calls_ok hc
      rfl
    · cases c
  | .conv tp it, f => ST.no (se_conv (sndI it f)) fun {sc e} c => by
    unfold chkE at c
    split at c
    · rename_i hc
      obtain ⟨p, q, rfl, _⟩ := calls_ok hc
      rfl
    · cases c
  | .lc own e g it ifs, f => ST.no (se_lc (fun f => sndE e f) (fun f => sndL ifs f) (si_all (sndI it f))) fun {sc e} c => by
    obtain ⟨e', g', it', ifs', scope, pos, rfl, _⟩ := chk_lc c
    rfl
theorem sndL : ∀ (es : Exs) (f : Fm), AllX (SX tb N cl io cn f) es
  | .nil, f => trivial
  | .cons e es, f => ⟨sndE e f, sndL es f⟩
theorem sndO : ∀ (o : Option Ex) (f : Fm), AllO (SE tb N cl io cn f) o
  | none, f => trivial
  | some e, f => (sndE e f).1
theorem sndI : ∀ (it : It) (f : Fm), AllI (SE tb N cl io cn f) it
  | .seq e, f => (sndE e f).1
  | .txt e, f => (sndE e f).1
  | .rng1 a, f => (sndE a f).1
  | .rng2 a b, f => ⟨(sndE a f).1, (sndE b f).1⟩
  | .rng3 a b c, f => ⟨(sndE a f).1, (sndE b f).1, (sndE c f).1⟩
  | .enum e, f => (sndE e f).1
  | .zip a b, f => ⟨(sndE a f).1, (sndE b f).1⟩
  | .enumZip a b, f => ⟨(sndE a f).1, (sndE b f).1⟩
end
end
end Ev
end
end
section
set_option Elab.async false
set_option linter.all false
set_option maxRecDepth 100000
set_option maxHeartbeats 2000000
/-! EvSt: statements: when a term is a statement; the simple ones. -/
noncomputable section
namespace Ev
open PySem L2
set_option autoImplicit false

/-! ### syntax -/
def asExpr : Stmt → Option Expr
  | .Expr e _ => some e
  | _ => none
theorem asExpr_ok {st : Stmt} {e : Expr} (h : asExpr st = some e) : ∃ p, st = .Expr e p := by
  cases st <;> first
    | (cases h; done)
    | (cases h; exact ⟨_, rfl⟩)
def asAsg : Stmt → Option (Expr × Expr)
  | .Assign [t] e _ => some (t, e)
  | _ => none
theorem asAsg_ok {st : Stmt} {x : Expr × Expr} (h : asAsg st = some x) : ∃ p, st = .Assign [x.1] x.2 p := by
  cases st with
  | Assign ts e p =>
    cases ts with
    | nil => cases h
    | cons t r =>
      cases r with
      | nil => cases h; exact ⟨_, rfl⟩
      | cons _ _ => cases h
  | _ => cases h
def asRet : Stmt → Option (Option Expr)
  | .Return e _ => some e
  | _ => none
theorem asRet_ok {st : Stmt} {e : Option Expr} (h : asRet st = some e) : ∃ p, st = .Return e p := by
  cases st <;> first
    | (cases h; done)
    | (cases h; exact ⟨_, rfl⟩)
def asIfS : Stmt → Option (Expr × List Stmt × List Stmt)
  | .If c a b _ => some (c, a, b)
  | _ => none
theorem asIfS_ok {st : Stmt} {x : Expr × List Stmt × List Stmt} (h : asIfS st = some x) : ∃ p, st = .If x.1 x.2.1 x.2.2 p := by
  cases st <;> first
    | (cases h; done)
    | (cases h; exact ⟨_, rfl⟩)
def asFor : Stmt → Option (Expr × Expr × List Stmt)
  | .For t i b [] _ => some (t, i, b)
  | _ => none
theorem asFor_ok {st : Stmt} {x : Expr × Expr × List Stmt} (h : asFor st = some x) : ∃ p, st = .For x.1 x.2.1 x.2.2 [] p := by
  cases st with
  | For t i b o p =>
    cases o with
    | nil => cases h; exact ⟨_, rfl⟩
    | cons _ _ => cases h
  | _ => cases h
def passB : Stmt → Bool
  | .Pass _ => true
  | _ => false
def brkB : Stmt → Bool
  | .Break _ => true
  | _ => false
def contB : Stmt → Bool
  | .Continue _ => true
  | _ => false
/-- x.append(e) -/
def asApp : Expr → Option (Str × Expr)
  | .Call (.Attribute (.Name x _) n ap) [e] [] cp => cond (eqS n "append" && (ap.endLine == cp.line)) (some (x, e)) none
  | _ => none
theorem asApp_ok {e : Expr} {x : Str × Expr} (h : asApp e = some x) : ∃ p ap cp, e = .Call (.Attribute (.Name x.1 p) "append" ap) [x.2] [] cp ∧ (ap.endLine == cp.line) = true := by
  unfold asApp at h
  split at h
  · rename_i y p n ap a cp
    cases hb : eqS n "append" && (ap.endLine == cp.line) with
    | false => rw [hb] at h; cases h
    | true =>
      rw [hb] at h
      cases h
      rw [Bool.and_eq_true] at hb
      have e1 := eqS_iff.mp hb.1
      subst e1
      exact ⟨_, _, _, rfl, hb.2⟩
  · cases h
def asNames : List Expr → Option (List Str)
  | [] => some []
  | e :: es => match asName e with
    | some x => (asNames es).map (x :: ·)
    | none => none
/-- comprehensions of all kinds -/
def compB : Expr → Bool
  | .ListComp .. => true
  | .SetComp .. => true
  | .DictComp .. => true
  | _ => false
theorem swap_no {e : Expr} {o : Option Expr} {l : Nat} {env : Env} (h : compB e = false) : swapsWith e o l env = pure false := by
  cases e <;> first
    | rfl
    | cases h
def offB (pr l : List Nat) : Bool := l.all fun i => !pr.elem i
theorem offB_ok {pr l : List Nat} (h : offB pr l = true) : ∀ i ∈ pr, i ∉ l := fun i hi hl => by
  unfold offB at h
  rw [List.all_eq_true] at h
  have := h i hl
  simp only [Bool.not_eq_true', List.elem_eq_mem, decide_eq_false_iff_not] at this
  exact this hi
/-- name = [..] : the list goes into the name before the block's end -/
def lcSwap (sc : Scope) (t e : Expr) : Bool := match t with
  | .Name y p => (match e with
    | .ListComp _ _ s q => (match sc.names.lookup y with
      | some .local => (p.line == q.line) && !(s.names.any fun (n, k) => n == y && (k == .local || k == .cell))
      | _ => false)
    | _ => false)
  | _ => false
def swN (sc : Scope) (ts : List Expr) : List Str := ts.filterMap fun
  | .Name id pos => if sc.names.lookup id == some .local && pos.line == (ts.head?.map (·.pos.line)).getD 0 then some id else none
  | _ => none
/-- which names are stored from the right -/
def swO (sc : Scope) (ts vs : List Expr) : Option (Option (List Str)) :=
  if !(ts.length == 2 || ts.length == 3) || vs.length != ts.length then some none
  else if vs.any starB then some none
  else if (swN sc ts).length != ts.length || (swN sc ts).eraseDups.length != (swN sc ts).length then some none
  else if vs.all (foldedForSure 8) then some none
  else if vs.all (constantsAlone 8) then none
  else some (some (swN sc ts))
theorem swO_ok {sc : Scope} {ts vs : List Expr} {r : Option (List Str)} {env : Env} {k k2 : Nat} {p p2 : Pos} (hs : env.scope = sc) (hb : env.blockKind = .function) (h : swO sc ts vs = some r) :
    swappedStores [.Tuple ts k p] (.Tuple vs k2 p2) env = pure r := by
  subst hs
  unfold swO at h
  unfold swappedStores
  have hb' : (env.blockKind != ScopeKind.function) = false := by rw [hb]; rfl
  simp only [hb', Bool.or_false]
  split at h
  · rename_i q
    cases h
    exact if_pos q
  · rename_i q
    refine (if_neg q).trans ?_
    split at h
    · rename_i q2
      cases h
      exact if_pos q2
    · rename_i q2
      refine (if_neg q2).trans ?_
      split at h
      · rename_i q3
        cases h
        exact if_pos q3
      · rename_i q3
        refine (if_neg q3).trans ?_
        split at h
        · rename_i q4
          cases h
          exact if_pos q4
        · rename_i q4
          refine (if_neg q4).trans ?_
          split at h
          · cases h
          · rename_i q5
            cases h
            exact if_neg q5
def eqSs : List Str → List Str → Bool
  | [], [] => true
  | a :: r, b :: q => eqS a b && eqSs r q
  | _, _ => false
theorem eqSs_ok : ∀ {a b : List Str}, eqSs a b = true → a = b
  | [], [], _ => rfl
  | [], _ :: _, h => by cases h
  | _ :: _, [], h => by cases h
  | a :: r, b :: q, h => by
    have h : (eqS a b && eqSs r q) = true := h
    rw [Bool.and_eq_true] at h
    rw [eqS_iff.mp h.1, eqSs_ok h.2]
/-- the names of slots, each the def's own -/
def slB (N : List Str) (sc : Scope) : List Nat → List Str → Bool
  | [], [] => true
  | g :: gs, x :: xs => atB N g x && (locB sc x && slB N sc gs xs)
  | _, _ => false
/-- all of them plain locals -/
def plB (sc : Scope) : List Str → Bool
  | [] => true
  | x :: xs => (match sc.names.lookup x with
    | some .local => true
    | _ => false) && plB sc xs
def ndB : List Nat → Bool
  | [] => true
  | g :: gs => !gs.elem g && ndB gs
def lenX : Exs → Nat
  | .nil => 0
  | .cons _ es => lenX es + 1
section
variable (tb : Tb) (N : List Str) (sc : Scope) (pr : List Nat) (no : Bool)
def chkPar (gs : List Nat) (t : Nat) (es : Exs) (tg e : Expr) : Bool := match asTup tg with
  | some ts => (match asTup e with
    | some vs => (match asNames ts with
      | some xs => slB N sc gs xs && (ndB gs && (gs.all (fun g => Nat.blt g t) && ((N.drop t).all (fun x => !visB sc x) && (Nat.beq (lenX es) gs.length && (Nat.ble (t + gs.length) N.length && (Nat.ble gs.length sizeLine && (offB pr gs && (pr.all (fun g => Nat.blt g t) && (chkL tb N sc es vs &&
          (match swO sc ts vs with
          | some none => true
          | some (some ys) => eqSs ys xs && plB sc xs
          | none => false))))))))))
      | none => false)
    | none => false)
  | none => false
mutual
def chkS (s : Sm) (st : Stmt) : Bool := match s with
  | .never => true
  | .exp e => (match asExpr st with
    | some e' => !compB e' && chkE tb N sc e e'
    | none => false)
  | .asg g e => (match asAsg st with
    | some (t, e') => offB pr (tIx g) && (!starB t && (chkG N sc g t && (chkE tb N sc e e' && (!(tupB t && tupB e') && (lcSwap sc t e' || !compB e')))))
    | none => false)
  | .par gs t es => (match asAsg st with
    | some (tg, e') => chkPar tb N sc pr gs t es tg e'
    | none => false)
  | .put i k v => (match asAsg st with
    | some (t, v') => (match asSub t with
      | some (o, k') => !sliceB k' && (!compB v' && (chkE tb N sc (.var i) o && (chkE tb N sc k k' && chkE tb N sc v v')))
      | none => false)
    | none => false)
  | .app i e => (match asExpr st with
    | some c => (match asApp c with
      | some (x, e') => atB N i x && (visB sc x && (okN x && (!starB e' && chkE tb N sc e e')))
      | none => false)
    | none => false)
  | .ret e => (match asRet st with
    | some (some e') => chkE tb N sc e e'
    | _ => false)
  | .retv i => (match asRet st with
    | some (some e') => no && chkE tb N sc (.var i) e'
    | _ => false)
  | .retN => (match asRet st with
    | some none => true
    | _ => false)
  | .ite c a b => (match asIfS st with
    | some (c', a', b') => chkE tb N sc c c' && (chkSs a a' && chkSs b b')
    | none => false)
  | .for_ g it b => (match asFor st with
    | some (t, i, b') => offB pr (tIx g) && (chkG N sc g t && (chkI tb N sc t it i && chkSs b b'))
    | none => false)
  | .pass => passB st
  | .brk => brkB st
  | .cont => contB st
def chkSs (s : Sms) (sts : List Stmt) : Bool := match s with
  | .nil => sts.isEmpty
  | .cons s r => (match sts with
    | st :: sts => chkS s st && chkSs r sts
    | [] => false)
end
end

/-! ### a def's frame -/
structure Fok (tb : Tb) (N : List Str) (cl : Cl) (io : Nat → List Bool) (cn : Nat → W) (f : Fm) (X : Cx) (sc : Scope) (no : Bool) : Prop extends Xok tb N cl io cn f X sc where
  hsc : X.env.scope = sc
  hp : PassesOwn (model X.prog X.w) X.A X.env X.xe
  nio : no = true → f.IO = []
/-- where a statement ends -/
def FlOk (f : Fm) (g : Gh) (pr : List Nat) (σ : St) (D : Ends) (fl : Fl) (b' : Nat) : Prop := match fl with
  | .nx sl' => ∀ g' σ' H', g.le g' → Rl f g' b' sl' σ' H' → (∀ i ∈ pr, σ'[i]? = σ[i]?) → D.nx σ' H'
  | .brk sl' => ∀ g' σ' H', g.le g' → Rl f g' b' sl' σ' H' → (∀ i ∈ pr, σ'[i]? = σ[i]?) → D.bk σ' H'
  | .cont sl' => ∀ g' σ' H', g.le g' → Rl f g' b' sl' σ' H' → (∀ i ∈ pr, σ'[i]? = σ[i]?) → D.ct σ' H'
  | .ret r sl' => ∀ g' σ' v H', g.le g' → Rl f g' b' sl' σ' H' → Vl f g' H' sl' σ' r v → (∀ i ∈ pr, σ'[i]? = σ[i]?) → D.rt v H'
structure SS (tb : Tb) (N : List Str) (cl : Cl) (io : Nat → List Bool) (cn : Nat → W) (f : Fm) (pr : List Nat) (no : Bool) (s : Sm) : Prop where
  run : ∀ {X : Cx} {sc : Scope} {st : Stmt}, Fok tb N cl io cn f X sc no → chkS tb N sc pr no s st = true → ∀ {sl : Sl} {σ : St} {H : Hp} {g : Gh} {b : Nat} {D : Ends}, Rl f g b sl σ H →
    (exS cl io cn s sl).wb b (FlOk f g pr σ D) → tWS X st D σ H
structure SSs (tb : Tb) (N : List Str) (cl : Cl) (io : Nat → List Bool) (cn : Nat → W) (f : Fm) (pr : List Nat) (no : Bool) (s : Sms) : Prop where
  run : ∀ {X : Cx} {sc : Scope} {st : List Stmt}, Fok tb N cl io cn f X sc no → chkSs tb N sc pr no s st = true → ∀ {sl : Sl} {σ : St} {H : Hp} {g : Gh} {b : Nat} {D : Ends}, Rl f g b sl σ H →
    (exSs cl io cn s sl).wb b (FlOk f g pr σ D) → tWSs X st D σ H
section
variable {tb : Tb} {N : List Str} {cl : Cl} {io : Nat → List Bool} {cn : Nat → W} {f : Fm} {pr : List Nat} {no : Bool}
theorem FlOk.mono {g g' : Gh} {σ σ' : St} {D : Ends} {fl : Fl} {b : Nat} (l : g.le g') (e : ∀ i ∈ pr, σ'[i]? = σ[i]?) (h : FlOk f g pr σ D fl b) : FlOk f g' pr σ' D fl b := by
  cases fl with
  | nx sl => exact fun g2 σ2 H2 l2 R2 e2 => h g2 σ2 H2 (l.trans l2) R2 fun i hi => (e2 i hi).trans (e i hi)
  | brk sl => exact fun g2 σ2 H2 l2 R2 e2 => h g2 σ2 H2 (l.trans l2) R2 fun i hi => (e2 i hi).trans (e i hi)
  | cont sl => exact fun g2 σ2 H2 l2 R2 e2 => h g2 σ2 H2 (l.trans l2) R2 fun i hi => (e2 i hi).trans (e i hi)
  | ret r sl => exact fun g2 σ2 v H2 l2 R2 vl e2 => h g2 σ2 v H2 (l.trans l2) R2 vl fun i hi => (e2 i hi).trans (e i hi)
theorem ss_never : SS tb N cl io cn f pr no .never := ⟨fun {X sc st} o c {sl σ H g b D} R h => (show T.wb .stk b _ from h).elim⟩
theorem ss_pass : SS tb N cl io cn f pr no .pass := ⟨fun {X sc st} o c {sl σ H g b D} R h => by
  have c : passB st = true := c
  cases st <;> first
    | (cases c; done)
    | exact of_ps ps_pass (h g σ H (Gh.le.refl g) R fun _ _ => rfl)⟩
theorem ss_brk : SS tb N cl io cn f pr no .brk := ⟨fun {X sc st} o c {sl σ H g b D} R h => by
  have c : brkB st = true := c
  cases st <;> first
    | (cases c; done)
    | exact of_ps ps_break (h g σ H (Gh.le.refl g) R fun _ _ => rfl)⟩
theorem ss_cont : SS tb N cl io cn f pr no .cont := ⟨fun {X sc st} o c {sl σ H g b D} R h => by
  have c : contB st = true := c
  cases st <;> first
    | (cases c; done)
    | exact of_ps ps_continue (h g σ H (Gh.le.refl g) R fun _ _ => rfl)⟩
theorem ss_exp {e : Ex} : SS tb N cl io cn f pr no (.exp e) := ⟨fun {X sc st} o c {sl σ H g b D} R h => by
  unfold chkS at c
  cases hc : asExpr st with
  | none => rw [hc] at c; cases c
  | some e' =>
    rw [hc] at c
    obtain ⟨p, rfl⟩ := asExpr_ok hc
    simp only [Bool.and_eq_true, Bool.not_eq_true'] at c
    refine of_ps (ps_expr pe_w (swap_no c.1)) ((sndE e f).1.run o.toXok c.2 R (T.wb_mono (fun r b' k g' v H' l R' vl => ?_) (T.wb_bind.mp (show (sExp _ sl).wb b _ from h))))
    exact k g' σ H' l R' fun _ _ => rfl⟩
theorem ss_ret {e : Ex} : SS tb N cl io cn f pr no (.ret e) := ⟨fun {X sc st} o c {sl σ H g b D} R h => by
  unfold chkS at c
  split at c
  · rename_i e' hc
    obtain ⟨p, rfl⟩ := asRet_ok hc
    refine of_ps (ps_ret pe_w) ((sndE e f).1.run o.toXok c R (T.wb_mono (fun r b' k g' v H' l R' vl => ?_) (T.wb_bind.mp (show (sRet _ sl).wb b _ from h))))
    exact k g' σ v H' l R' vl fun _ _ => rfl
  · cases c⟩
theorem ss_retN : SS tb N cl io cn f pr no .retN := ⟨fun {X sc st} o c {sl σ H g b D} R h => by
  unfold chkS at c
  split at c
  · rename_i hc
    obtain ⟨p, rfl⟩ := asRet_ok hc
    exact of_ps ps_retN (h g σ _ H (Gh.le.refl g) R .non fun _ _ => rfl)
  · cases c⟩
theorem ss_retv {i : Nat} : SS tb N cl io cn f pr no (.retv i) := ⟨fun {X sc st} o c {sl σ H g b D} R h => by
  unfold chkS at c
  split at c
  · rename_i e' hc
    obtain ⟨p, rfl⟩ := asRet_ok hc
    rw [Bool.and_eq_true] at c
    obtain ⟨c1, c⟩ := c
    unfold chkE at c
    cases hn : asName e' with
    | none => rw [hn] at c; cases c
    | some y =>
      rw [hn] at c
      obtain ⟨p, rfl⟩ := asName_ok hn
      simp only [Bool.and_eq_true, okN, Bool.not_eq_true'] at c
      obtain ⟨c3, c4, c5, c6, _⟩ := c
      obtain ⟨⟨w, fr⟩, e1, h⟩ := rd_wb (T.wb_bind.mp (show (sRetv i sl).wb b _ from h))
      have hN : X.N[i]? = some y := by rw [o.hN]; exact atB_ok c3
      rw [sett_eq] at h
      have R1 : Rl f g b (sl.set i none) σ H := R.setN
      cases fr with
      | false =>
        obtain ⟨v, s1, rv⟩ := R.frz i w e1
        exact of_ps (ps_ret pe_w) (w_var hN (o.vis y c4) c5 c6 s1 (h g σ v H (Gh.le.refl g) R1 rv fun _ _ => rfl))
      | true =>
        obtain ⟨a, s1, ho, hF, hD, h0⟩ := R.own i w e1
        refine of_ps (ps_ret pe_w) (w_var hN (o.vis y c4) c5 c6 s1 (h g σ _ H (Gh.le.refl g) R1 ⟨a, rfl, ho, hF, hD, ?_, fun j u q z => ?_⟩ fun _ _ => rfl))
        · rcases h0 with z | z
          · exact z
          · rw [o.nio c1] at z
            exact (List.not_mem_nil z).elim
        · rcases sl_set q with ⟨_, q'⟩ | ⟨e2, q'⟩
          · cases q'
          · exact e2 (R.inj i j w u a e1 q' s1 z)
  · cases c⟩
theorem ss_app {i : Nat} {e : Ex} : SS tb N cl io cn f pr no (.app i e) := ⟨fun {X sc st} o c {sl σ H g b D} R h => by
  unfold chkS at c
  cases hc : asExpr st with
  | none => rw [hc] at c; cases c
  | some e' =>
    rw [hc] at c
    obtain ⟨p, rfl⟩ := asExpr_ok hc
    dsimp only at c
    cases hc2 : asApp e' with
    | none => rw [hc2] at c; cases c
    | some y =>
      rw [hc2] at c
      obtain ⟨x, e1⟩ := y
      obtain ⟨p1, ap, cp, rfl, hline⟩ := asApp_ok hc2
      simp only [Bool.and_eq_true, okN, Bool.not_eq_true'] at c
      obtain ⟨c1, c2, ⟨c3, c4, _⟩, c5, c6⟩ := c
      obtain ⟨w0, e0, h⟩ := own_wb (T.wb_bind.mp (show (sApp i _ sl).wb b _ from h))
      obtain ⟨hl, h⟩ := T.wb_guard h
      obtain ⟨a, s1, ho, _⟩ := R.own i w0 e0
      have hN : X.N[i]? = some x := by rw [o.hN]; exact atB_ok c1
      refine of_ps (ps_expr (pe_bm PySem.F.plainAttrs_list PySem.F.slot_list_append PySem.F.type_list_append mt_append pe_w pa_w rfl (by rw [star_one c5]; rfl) hline (star_cons c5) rfl) (swap_no rfl)) ?_
      refine w_var hN (o.vis x c2) c3 c4 s1 ⟨?_, ?_⟩
      · cases w0 <;> first
          | (cases hl; done)
          | skip
        obtain ⟨vs, q1, _⟩ := ho
        exact .inl ⟨rfl, vs, .inl (.inl q1)⟩
      · refine w_cons c5 ((sndE e f).1.kn o.toXok c6 R (T.wb_mono (fun r b' k g' v H' l R' rv => w_nil ?_) (T.wb_bind.mp h)))
        obtain ⟨w1, e2, k⟩ := own_wb (T.wb_bind.mp k)
        obtain ⟨a', s2, ho2, hF, hD, h0⟩ := R'.own i w1 e2
        rw [s1] at s2
        cases s2
        cases w1 <;> first
          | exact ho2.elim
          | exact k.elim
          | skip
        obtain ⟨vs, q1, q2⟩ := ho2
        obtain ⟨k1, k⟩ := T.wb_guard (T.wb_bind.mp k)
        have k1 : _ < sizeLine := Nat.le_of_ble_eq_true k1
        refine ⟨a, vs, v, rfl, rfl, q1, by rw [← q2.len]; exact k1, ?_⟩
        have k : FlOk f g pr σ D (.nx (sett r.2 i (some (.lst (_ ++ [r.1.1]), true)))) b' := k
        rw [sett_eq] at k
        refine k g' σ _ l ?_ fun _ _ => rfl
        have no : NoSlot (r.2.set i none) σ a := fun j u q z => by
          rcases sl_set q with ⟨_, q'⟩ | ⟨e3, q'⟩
          · cases q'
          · exact e3 (R'.inj i j _ u a e2 q' s1 z)
        have R2 := (R'.setN (i := i)).chg (o := .lst (vs ++ [v])) hF hD h0 no
        have R3 := R2.setO (i := i) (w := .lst (_ ++ [r.1.1])) (a := a) ⟨vs ++ [v], upd_same, q2.append (.cons rv .nil)⟩ hF hD h0 fun j u _ q => no j u q
        rw [set_same s1, List.set_set] at R3
        exact R3⟩
end
end Ev
end
end
section
set_option Elab.async false
set_option linter.all false
set_option maxRecDepth 100000
set_option maxHeartbeats 2000000
/-! EvSt2: stores, choices, loops. -/
noncomputable section
namespace Ev
open PySem L2
set_option autoImplicit false
section
variable {tb : Tb} {N : List Str} {cl : Cl} {io : Nat → List Bool} {cn : Nat → W} {f : Fm} {pr : List Nat} {no : Bool}
theorem Fok.bk {X : Cx} {sc : Scope} (o : Fok tb N cl io cn f X sc no) : X.env.blockKind = .function := by
  unfold Env.blockKind
  rw [o.knd]
  rfl
theorem swapped_no {sc : Scope} {tt : Tg} {t e : Expr} {env : Env} (c : chkG N sc tt t = true) (h : (tupB t && tupB e) = false) : swappedStores [t] e env = pure none := by
  cases tt with
  | nm i =>
    unfold chkG at c
    cases hn : asName t with
    | none => rw [hn] at c; cases c
    | some x =>
      obtain ⟨p, rfl⟩ := asName_ok hn
      rfl
  | tp ts =>
    unfold chkG at c
    cases hn : asTup t with
    | none => rw [hn] at c; cases c
    | some x =>
      obtain ⟨p, q, rfl⟩ := asTup_ok hn
      cases e <;> first
        | rfl
        | (cases h; done)
theorem ss_asg {t : Tg} {e : Ex} : SS tb N cl io cn f pr no (.asg t e) := ⟨fun {X sc st} o c {sl σ H g b D} R h => by
  unfold chkS at c
  cases hc : asAsg st with
  | none => rw [hc] at c; cases c
  | some y =>
    rw [hc] at c
    obtain ⟨tg, e'⟩ := y
    obtain ⟨p, rfl⟩ := asAsg_ok hc
    simp only [Bool.and_eq_true, Bool.not_eq_true'] at c
    obtain ⟨c1, c2, c3, c4, c5, c6⟩ := c
    have h : (sAsg t (evE cl io cn e) sl).wb b _ := h
    have off := offB_ok c1
    -- what the store reaches
    have fin : (evE cl io cn e sl).wb b (fun r b' => ∀ g' v H', g.le g' → Rl f g' b' r.2 σ H' → Vl f g' H' r.2 σ r.1 v → gOf f.K t v σ H' D.nx) := by
      refine T.wb_mono (fun r b' k g' v H' l R' vl => ?_) (T.wb_bind.mp h)
      exact setG_ok R' vl (T.wb_bind.mp k) fun sl' σ' k2 R2 so => k2 g' σ' H' l R2 fun i hi => so.2 i (off i hi)
    cases hs : lcSwap sc tg e' with
    | false =>
      rw [hs] at c6
      have c6 : compB e' = false := by
        cases q : compB e' with
        | false => rfl
        | true => rw [q] at c6; cases c6
      refine of_ps (ps_asg pe_w (pg_of o.toXok c3) (swap_no c6) (swapped_no c3 c5) (by rw [each_cons c2]; rfl)) ?_
      rw [o.bx.hK]
      exact (sndE e f).1.run o.toXok c4 R fin
    | true =>
      unfold lcSwap at hs
      split at hs
      · rename_i y py
        split at hs
        · rename_i q1 q2 q3 q4
          cases hl : sc.names.lookup y with
          | none => rw [hl] at hs; cases hs
          | some k =>
            rw [hl] at hs
            cases k <;> first
              | (cases hs; done)
              | skip
            simp only [Bool.and_eq_true, Bool.not_eq_true'] at hs
            obtain ⟨hs1, hs2⟩ := hs
            -- the term is a comprehension, the target a name
            cases t with
            | tp ts =>
              unfold chkG at c3
              cases c3
            | nm i =>
              unfold chkG at c3
              have c3 : (atB N i y && locB sc y) = true := c3
              rw [Bool.and_eq_true] at c3
              cases e with
              | lc own x t it ifs =>
                obtain ⟨e'', g', it', ifs', scope, pos, ee, d0, d1, d2, d3, d4, d5, d6⟩ := chk_lc c4
                cases ee
                refine of_ps (ps_setLc (i := i) (g := gOf X.K t) (tt := ttB X _ _) (te := teB X _ _) o.bx.calm (by rw [o.hN]; exact o.nd) (by rw [o.hN]; exact atB_ok c3.1) (o.ll y hl) (sw_true o.knd (o.ll y hl) hs1 hs2) pi_w (blk_to o.toXok d0) (fun s H C l fp => pg_of (o.toXok.blk d0.kind s H C l fp) d2) pts_B pe_B (fold_ok d6)) ?_
                refine lc_main (Q := fun x H1 => gName i x σ H1 D.nx) o.toXok d0 (fun f => sndE x f) (fun f => sndL ifs f) (si_all (sndI it f)) d1 d2 d3 d4 d5 R ?_
                exact fin
              | _ =>
                unfold chkE at c4
                first
                  | (cases c4; done)
                  | exact (show T.wb .stk b _ from T.wb_bind.mp h).elim
                  | trace_state
        · cases hs
      · cases hs⟩

theorem PSet.or {X : Cx} {t u : TSet} (h : PSet X t) (h' : PSet X u) : PSet X (fun o i v H Q => t o i v H Q ∨ u o i v H Q) := fun pins s σ H o i v ov iv w Q I r1 r2 r3 q => q.elim (h pins s σ H o i v ov iv w Q I r1 r2 r3) (h' pins s σ H o i v ov iv w Q I r1 r2 r3)
theorem set_dct {X : Cx} (hu : X.A.units + 1 < cLine) : PSet X (fun o i v H Q => ∃ a H', o = .ref a ∧ DPut H a i v H' ∧ Q H') := fun pins s σ H o i v ov iv u Q I r1 r2 r3 ⟨a, H', e, d, q⟩ => by
  subst e
  obtain rfl : ov = Value.ref a := r1
  exact d_setItem hu I d r2 r3 fun s' I' => ⟨H', I', q⟩
theorem assign_sub {o i : Expr} {pos : Pos} {env : Env} (h : sliceB i = false) (v : Value) : assign (.Subscript o i pos) env v = (do
      let ov ← holding [v] (eval o env)
      let iv ← holding [v, ov] (eval i env)
      standAt pos
      holding [v, ov, iv] (setItem ov iv v)
      release [v, ov, iv] []) := by
  cases i <;> first
    | rfl
    | cases h
theorem ss_put {i : Nat} {k v : Ex} : SS tb N cl io cn f pr no (.put i k v) := ⟨fun {X sc st} o c {sl σ H g b D} R h => by
  unfold chkS at c
  cases hc : asAsg st with
  | none => rw [hc] at c; cases c
  | some y =>
    rw [hc] at c
    obtain ⟨tg, v'⟩ := y
    obtain ⟨p, rfl⟩ := asAsg_ok hc
    dsimp only at c
    cases hc2 : asSub tg with
    | none => rw [hc2] at c; cases c
    | some z =>
      rw [hc2] at c
      obtain ⟨ob, k'⟩ := z
      obtain ⟨p2, rfl⟩ := asSub_ok hc2
      simp only [Bool.and_eq_true, Bool.not_eq_true'] at c
      obtain ⟨c1, c2, c3, c4, c5⟩ := c
      unfold chkE at c3
      cases hn : asName ob with
      | none => rw [hn] at c3; cases c3
      | some y =>
        rw [hn] at c3
        obtain ⟨p3, rfl⟩ := asName_ok hn
        simp only [Bool.and_eq_true, okN, Bool.not_eq_true'] at c3
        obtain ⟨d1, d2, d3, d4, _⟩ := c3
        have hN : X.N[i]? = some y := by rw [o.hN]; exact atB_ok d1
        have hu1 : X.A.units + 1 < cLine := by have := o.bx.hu; omega
        show tWS X (.Assign [.Subscript (.Name y p3) k' p2] v' p) D σ H
        refine of_ps (ps_asg (g := gSub (tW X (.Name y p3)) (tW X k') _) pe_w (pg_sub pe_w pe_w (PSet.or set_list (set_dct hu1)) (assign_sub c1)) (swap_no (o := some (.Subscript (.Name y p3) k' p2)) (l := p.line) (env := X.env) c2) rfl rfl) ?_
        refine (sndE v f).1.kn o.toXok c5 R (T.wb_mono (fun r b1 k1 g1 v1 H1 l1 R1 rv1 => ?_) (T.wb_bind.mp (show (sPut i _ _ sl).wb b _ from h)))
        obtain ⟨w0, e0, k1⟩ := own_wb (T.wb_bind.mp k1)
        obtain ⟨a, s1, _⟩ := R1.own i w0 e0
        refine w_var hN (o.vis y d2) d3 d4 s1 ((sndE k f).1.kn o.toXok c4 R1 (T.wb_mono (fun r2 b2 k2 g2 v2 H2 l2 R2 rv2 => ?_) (T.wb_bind.mp k1)))
        obtain ⟨w1, e2, k3⟩ := own_wb (T.wb_bind.mp k2)
        obtain ⟨a', s2, ho2, hF, hD, h0⟩ := R2.own i w1 e2
        rw [s1] at s2
        cases s2
        have nos : NoSlot (r2.2.set i none) σ a := fun j u q z => by
          rcases sl_set q with ⟨_, q'⟩ | ⟨e3, q'⟩
          · cases q'
          · exact e3 (R2.inj i j _ u a e2 q' s1 z)
        -- the thing changed lies in its slot
        have fin : ∀ {w : W} {u : HO}, OA f.K f.G g2 (upd H2 a u) w a → FlOk f g pr σ D (.nx (sett r2.2 i (some (w, true)))) b2 → D.nx σ (upd H2 a u) := fun {w u} oa k => by
          rw [sett_eq] at k
          refine k g2 σ _ (l1.trans l2) ?_ fun _ _ => rfl
          have R3 := ((R2.setN (i := i)).chg (o := u) hF hD h0 nos).setO (i := i) (w := w) (a := a) oa hF hD h0 fun j u _ q => nos j u q
          rw [set_same s1, List.set_set] at R3
          exact R3
        have k4 := T.wb_bind.mp k3
        cases w1 <;> first
          | exact ho2.elim
          | skip
        · obtain ⟨vs, q1, q2⟩ := ho2
          obtain ⟨⟨wk, frk⟩, slk⟩ := r2
          cases wk <;> first
            | exact k4.elim
            | skip
          rename_i n
          cases rv2
          have k4 : T.wb (match ixOf _ n with
            | some j => T.ok (W.lst (sett _ j r.1.1))
            | none => T.stk) b2 _ := k4
          split at k4
          · rename_i j hj
            left
            refine ⟨a, vs, n, j, rfl, rfl, q1, by rw [← q2.len, ← ixOf_N]; exact hj, fin (w := .lst (sett _ j r.1.1)) ⟨_, upd_same, ?_⟩ k4⟩
            rw [sett_eq]
            exact q2.set (rv1.le l2) j
          · exact k4.elim
        · obtain ⟨vs, q1, q2⟩ := ho2
          obtain ⟨⟨wk, frk⟩, slk⟩ := r2
          have k4 : T.wb (match keyOf wk with
            | some k => T.guard (Nat.blt _ sizeLine) (T.ok (W.dct (Ev.putK _ k r.1.1)))
            | none => T.stk) b2 _ := k4
          split at k4
          · rename_i kk hk
            have ek := keyOf_V (f := f) (g := g2) (H := H2) hk (.inl rv2)
            subst ek
            obtain ⟨k5, k6⟩ := T.wb_guard k4
            have k5 : _ < sizeLine := Nat.le_of_ble_eq_true k5
            right
            exact ⟨a, _, rfl, DPut.k q1 (by rw [← q2.len]; exact k5), fin (w := .dct (Ev.putK _ kk r.1.1)) ⟨_, upd_same, putK_V (rv1.le l2) q2⟩ k6⟩
          · exact k4.elim⟩
theorem ss_ite {c : Ex} {p q : Sms} (Sp : SSs tb N cl io cn f pr no p) (Sq : SSs tb N cl io cn f pr no q) : SS tb N cl io cn f pr no (.ite c p q) := ⟨fun {X sc st} o ck {sl σ H g b D} R h => by
  unfold chkS at ck
  cases hc : asIfS st with
  | none => rw [hc] at ck; cases ck
  | some y =>
    rw [hc] at ck
    obtain ⟨c', p', q'⟩ := y
    obtain ⟨ps, rfl⟩ := asIfS_ok hc
    simp only [Bool.and_eq_true] at ck
    refine of_ps (ps_if pt_w pss_w pss_w) ((sndE c f).2.run o.toXok ck.1 R (T.wb_mono (fun r b' k => ?_) (T.wb_bind.mp (show (sIte _ _ _ sl).wb b _ from h))))
    obtain ⟨t, e1, k⟩ := boolOf_wb (T.wb_bind.mp k)
    refine ⟨t, e1, fun g' H' l R' => ?_⟩
    cases t with
    | true =>
      rw [if_pos rfl]
      exact Sp.run o ck.2.1 R' (T.wb_mono (fun fl b2 k2 => FlOk.mono l (fun _ _ => rfl) k2) k)
    | false =>
      rw [if_neg (by decide)]
      exact Sq.run o ck.2.2 R' (T.wb_mono (fun fl b2 k2 => FlOk.mono l (fun _ _ => rfl) k2) k)⟩
structure ForW (f : Fm) (g1 : Gh) (pr : List Nat) (σ0 : St) (turn : W → Sl → T Fl) (items : List W) (Post : Fl → Nat → Prop) (i m : Nat) (σ : St) (H : Hp) : Prop where
  ex : ∃ g' b' sl', m = items.length - i ∧ i ≤ items.length ∧ g1.le g' ∧ Rl f g' b' sl' σ H ∧ (∀ j ∈ pr, σ[j]? = σ0[j]?) ∧ (forGo turn (items.drop i) sl').wb b' Post
theorem ss_for {t : Tg} {it : It} {bd : Sms} (Sb : SSs tb N cl io cn f pr no bd) : SS tb N cl io cn f pr no (.for_ t it bd) := ⟨fun {X sc st} o ck {sl σ H g b D} R h => by
  unfold chkS at ck
  cases hc : asFor st with
  | none => rw [hc] at ck; cases ck
  | some y =>
    rw [hc] at ck
    obtain ⟨tg, i', b'⟩ := y
    obtain ⟨ps, rfl⟩ := asFor_ok hc
    simp only [Bool.and_eq_true] at ck
    obtain ⟨c1, c2, c3, c4⟩ := ck
    have off := offB_ok c1
    have c5 : setB i' = false := by
      unfold chkI at c3
      simp only [Bool.and_eq_true, Bool.not_eq_true'] at c3
      exact c3.1
    refine of_ps (ps_for o.hp o.bx.calm pi_w (pg_of o.toXok c2) pss_w (fold_ok c5)) ?_
    refine (si_all (sndI it f)).run o.toXok c3 R (T.wb_mono (fun p b1 k g1 J H1 l1 R1 wk => ?_) (T.wb_bind.mp (show (sFor t _ _ sl).wb b _ from h)))
    obtain ⟨items, sl1⟩ := p
    refine ⟨ForW f g1 pr σ (sTurn t (exSs cl io cn bd)) items (FlOk f g pr σ D), ⟨items.length, ⟨g1, b1, sl1, by rw [Nat.sub_zero], Nat.zero_le _, Gh.le.refl g1, R1, fun _ _ => rfl, k⟩⟩, ?_⟩
    rintro i m σ2 H2 ⟨g2, b2, sl2, rfl, hi, l2, R2, e2, k2⟩
    by_cases hlt : i < items.length
    · right
      have hw : items[i]? = some items[i] := List.getElem?_eq_getElem hlt
      rw [List.drop_eq_getElem_cons hlt] at k2
      have k2 := T.wb_bind.mp k2
      obtain ⟨go, yl⟩ := wk.go i _ hw f g2 b2 sl2 σ2 H2 rfl rfl l2 R2
      refine ⟨go, ForW f g1 pr σ (sTurn t (exSs cl io cn bd)) items (FlOk f g pr σ D) (i + 1) (items.length - (i + 1)), fun σ' H' q => ⟨items.length - (i + 1), by omega, q⟩, fun xv H3 y => ?_⟩
      obtain ⟨g3, l3, R3, rv⟩ := yl xv H3 y
      rw [o.bx.hK]
      refine setG_ok (fr := false) R3 rv (T.wb_bind.mp k2) fun sl4 σ4 k4 R4 so => ?_
      have e4 : ∀ j ∈ pr, σ4[j]? = σ[j]? := fun j hj => (so.2 j (off j hj)).trans (e2 j hj)
      refine Sb.run o c4 R4 (T.wb_mono (fun fl b5 k5 => ?_) k4)
      cases fl with
      | nx sl5 => exact fun g5 σ5 H5 l5 R5 e5 => ⟨g5, b5, sl5, rfl, hlt, (l2.trans l3).trans l5, R5, fun j hj => (e5 j hj).trans (e4 j hj), k5⟩
      | cont sl5 => exact fun g5 σ5 H5 l5 R5 e5 => ⟨g5, b5, sl5, rfl, hlt, (l2.trans l3).trans l5, R5, fun j hj => (e5 j hj).trans (e4 j hj), k5⟩
      | brk sl5 => exact fun g5 σ5 H5 l5 R5 e5 => (show FlOk f g pr σ D (.nx sl5) b5 from k5) g5 σ5 H5 (((l1.trans l2).trans l3).trans l5) R5 fun j hj => (e5 j hj).trans (e4 j hj)
      | ret r sl5 => exact fun g5 σ5 v H5 l5 R5 vl e5 => (show FlOk f g pr σ D (.ret r sl5) b5 from k5) g5 σ5 v H5 (((l1.trans l2).trans l3).trans l5) R5 vl fun j hj => (e5 j hj).trans (e4 j hj)
    · left
      have ei : i = items.length := by omega
      subst ei
      rw [List.drop_length] at k2
      exact ⟨wk.stop f g2 b2 sl2 σ2 H2 rfl rfl l2 R2, (show FlOk f g pr σ D (.nx sl2) b2 from k2) g2 σ2 H2 (l1.trans l2) R2 e2⟩⟩
theorem sss_nil : SSs tb N cl io cn f pr no .nil := ⟨fun {X sc st} o c {sl σ H g b D} R h => by
  have c : st.isEmpty = true := by
    unfold chkSs at c
    exact c
  rw [List.isEmpty_iff] at c
  subst c
  exact of_pss pss_nil (h g σ H (Gh.le.refl g) R fun _ _ => rfl)⟩
theorem sss_cons {s : Sm} {r : Sms} (S : SS tb N cl io cn f pr no s) (Sr : SSs tb N cl io cn f pr no r) : SSs tb N cl io cn f pr no (.cons s r) := ⟨fun {X sc st} o c {sl σ H g b D} R h => by
  unfold chkSs at c
  cases st with
  | nil => cases c
  | cons s' r' =>
    dsimp only at c
    rw [Bool.and_eq_true] at c
    refine of_pss (pss_cons ps_w pss_w) (S.run o c.1 R (T.wb_mono (fun fl b' k => ?_) (T.wb_bind.mp (show (sSeq _ _ sl).wb b _ from h))))
    cases fl with
    | nx sl2 => exact fun g2 σ2 H2 l2 R2 e2 => Sr.run o c.2 R2 (T.wb_mono (fun fl b3 k3 => FlOk.mono l2 e2 k3) k)
    | brk sl2 => exact fun g2 σ2 H2 l2 R2 e2 => (show FlOk f g pr σ D (.brk sl2) b' from k) g2 σ2 H2 l2 R2 e2
    | cont sl2 => exact fun g2 σ2 H2 l2 R2 e2 => (show FlOk f g pr σ D (.cont sl2) b' from k) g2 σ2 H2 l2 R2 e2
    | ret r2 sl2 => exact fun g2 σ2 v H2 l2 R2 vl e2 => (show FlOk f g pr σ D (.ret r2 sl2) b' from k) g2 σ2 v H2 l2 R2 vl e2⟩
end
end Ev
end
end
section
set_option Elab.async false
set_option linter.all false
set_option maxRecDepth 100000
set_option maxHeartbeats 2000000
/-! EvPar: a, b = x, y. -/
noncomputable section
namespace Ev
open PySem L2
set_option autoImplicit false
def setAll : List (Nat × V) → St → St
  | [], σ => σ
  | p :: ps, σ => setAll ps (σ.set p.1 (some p.2))
structure StoreAt (σ : St) (ps : List (Nat × V)) (σ' : St) : Prop where
  len : σ'.length = σ.length
  out : ∀ i, i ∉ ps.map (·.1) → σ'[i]? = σ[i]?
  at_ : ∀ p ∈ ps, p.1 < σ.length → σ'[p.1]? = some (some p.2)
theorem setAll_at : ∀ {ps : List (Nat × V)} {σ : St}, (ps.map (·.1)).Nodup → StoreAt σ ps (setAll ps σ)
  | [], σ, _ => ⟨rfl, fun _ _ => rfl, fun _ h => (List.not_mem_nil h).elim⟩
  | p :: ps, σ, nd => by
    rw [List.map_cons, List.nodup_cons] at nd
    obtain ⟨h1, h2, h3⟩ := setAll_at (ps := ps) (σ := σ.set p.1 (some p.2)) nd.2
    refine ⟨h1.trans List.length_set, fun i hi => ?_, fun q hq hl => ?_⟩
    · rw [List.map_cons, List.mem_cons, not_or] at hi
      show (setAll ps (σ.set p.1 (some p.2)))[i]? = _
      rw [h2 i hi.2, List.getElem?_set_ne (Ne.symm hi.1)]
    · rcases List.mem_cons.mp hq with e | e
      · subst e
        show (setAll ps (σ.set q.1 (some q.2)))[q.1]? = _
        rw [h2 _ nd.1, List.getElem?_set_self hl]
      · exact h3 q e (by rw [List.length_set]; exact hl)
theorem StoreAt.rev {σ σ' : St} {ps : List (Nat × V)} (h : StoreAt σ ps.reverse σ') : StoreAt σ ps σ' := ⟨h.len, fun i hi => h.out i (by rw [List.map_reverse, List.mem_reverse]; exact hi), fun p hp => h.at_ p (List.mem_reverse.mpr hp)⟩
section
variable {X : Cx} {pins : List (Addr × Obj)} {H : Hp} {D : Ends}
/-- names stored one after another -/
theorem names_ok {A : Around} {E : Value → Shared → Prop} {Q : Unit → Shared → Prop} (hN : X.N.Nodup) : ∀ {ps : List (Nat × V)} {xs : List Str} {us : List Value} {σ : St} {s : Shared}, Inv X pins σ H s → Vals (ps.map (·.2)) us → ps.length = xs.length → (∀ (k : Nat) p x, ps[k]? = some p → xs[k]? = some x → X.N[p.1]? = some x ∧ X.env.scope.names.lookup x = some .local) →
    (∀ s', Inv X pins (setAll ps σ) H s' → Q () s') → wpAny (model X.prog X.w) A (assignInOrder (xs.map fun n => bindName X.env n) us) Q E s
  | [], [], us, σ, s, I, r, _, _, h => by
    cases r
    exact PyProof.Rows.assignInOrder_nil (h s I)
  | p :: ps, x :: xs, us, σ, s, I, r, hl, hx, h => by
    cases r with
    | cons r1 r2 =>
      obtain ⟨n1, n2⟩ := hx 0 p x rfl rfl
      refine PyProof.Rows.assignInOrder_cons (wpAny_bindName (store_ok I hN n1 (.inl n2) r1 (fun s' I' => ?_) (.inr n2)))
      exact names_ok hN I' r2 (Nat.succ.inj hl) (fun k q y h1 h2 => hx (k + 1) q y (by simpa using h1) (by simpa using h2)) h
  | [], _ :: _, _, _, _, _, _, hl, _, _ => by cases hl
  | _ :: _, [], _, _, _, _, _, hl, _, _ => by cases hl
/-- a, b = x, y : stored from the right -/
def tParN (gs : List Nat) (ta : TA) : TS := fun D σ H => ta σ H fun vs H1 => vs.length = gs.length ∧ ∀ σ' H', StoreAt σ (gs.zip vs) σ' → Same H1 H' → D.nx σ' H'
theorem zip_rev {α β : Type} : ∀ {a : List α} {c : List β}, a.length = c.length → a.reverse.zip c.reverse = (a.zip c).reverse
  | [], [], _ => rfl
  | x :: a, y :: c, h => by
    have ih := zip_rev (a := a) (c := c) (Nat.succ.inj h)
    rw [List.reverse_cons, List.reverse_cons, List.zip_append (by rw [List.length_reverse, List.length_reverse]; exact Nat.succ.inj h), ih]
    show _ = ((x, y) :: a.zip c).reverse
    rw [List.reverse_cons]
    rfl
  | [], _ :: _, h => by cases h
  | _ :: _, [], h => by cases h
theorem zip_fst {α β : Type} : ∀ {a : List α} {c : List β}, a.length = c.length → (a.zip c).map (·.1) = a
  | [], [], _ => rfl
  | x :: a, y :: c, h => by rw [List.zip_cons_cons, List.map_cons, zip_fst (Nat.succ.inj h)]
  | [], _ :: _, h => by cases h
  | _ :: _, [], h => by cases h
theorem zip_snd {α β : Type} : ∀ {a : List α} {c : List β}, a.length = c.length → (a.zip c).map (·.2) = c
  | [], [], _ => rfl
  | x :: a, y :: c, h => by rw [List.zip_cons_cons, List.map_cons, zip_snd (Nat.succ.inj h)]
  | [], _ :: _, h => by cases h
  | _ :: _, [], h => by cases h
theorem ps_parS {gs : List Nat} {xs : List Str} {ts vs : List Expr} {ta : TA} {kt k2 : Nat} {pt pt2 pos : Pos} (hc : X.calm = true) (hN : X.N.Nodup) (hg : gs.Nodup) (hl : gs.length = xs.length) (hx : ∀ (k : Nat) g x, gs[k]? = some g → xs[k]? = some x → X.N[g]? = some x ∧ X.env.scope.names.lookup x = some .local)
    (hz : gs.length ≤ sizeLine) (ha : PA X vs ta) (hw : swappedStores [.Tuple ts kt pt] (.Tuple vs k2 pt2) X.env = pure (some xs)) :
    PS X (.Assign [.Tuple ts kt pt] (.Tuple vs k2 pt2) pos) (tParN gs ta) := by
  refine ⟨fun pins s σ H D I h => ?_⟩
  rw [exec_Assign_arm]
  refine wpAny_bind (wpAny_standAt ?_)
  rw [show swapsWithSole [.Tuple ts kt pt] (.Tuple vs k2 pt2) pos.line X.env = pure false from rfl]
  refine wpAny_bind (wpAny_pure ?_)
  rw [if_neg (by decide)]
  refine wpAny_bind (PyProof.Rows.Tuple_ (thn (ha.run _ pins s σ H _ I h) fun us s1 ⟨ws, H1, I1, r1, q0, q1⟩ => ?_))
  have hlu := r1.length
  refine wpAny_newObj_type ?_ (by show us.toArray.size ≤ sizeLine; rw [List.size_toArray]; omega)
  have I2 : Inv X pins σ H1 { s1 with heap := s1.heap.push { cls := .type "tuple", data := .seq us.toArray } } := I1.kept (t' := s1.toks) fun b o e => Heap.get?_push_of_some _ e
  rw [hw]
  refine wpAny_bind (wpAny_pure ?_)
  show wpAny (model X.prog X.w) X.A (do rule "assign.swapped-stores"; let items ← unpackItems (.ref s1.heap.objs.size) xs.length none; assignInOrder (xs.reverse.map fun n => bindName X.env n) items.reverse; pure Flow.next) _ _ _
  have hsz : xs.length = us.toArray.size := by rw [List.size_toArray]; omega
  rw [hsz]
  refine wpAny_bind (wpAny_rule (wpAny_bind (PyProof.Rows.unpackItems_tuple (items := us.toArray) (I.ok.hd hc) (PyProof.Rows.IsTup.new s1.heap _) fun h' hx' => ?_)))
  have I3 := I2.kept (h' := h') (t' := s1.toks) fun b o e => hx' b o (Nat.ne_of_lt (Heap.lt_size e)) e
  have hgw : gs.length = ws.length := q0.symm
  have hrl : gs.reverse.length = ws.reverse.length := by rw [List.length_reverse, List.length_reverse]; exact hgw
  refine wpAny_bind (names_ok (ps := gs.reverse.zip ws.reverse) hN I3 ?_ ?_ ?_ fun s2 I4 => wpAny_pure ⟨_, H1, I4, ?_⟩)
  · rw [zip_snd hrl, List.toList_toArray]
    exact r1.reverse
  · rw [List.length_zip, List.length_reverse, List.length_reverse, List.length_reverse]
    omega
  · intro k p x h1 h2
    have h3 : gs.reverse[k]? = some p.1 := by
      have := congrArg (Option.map (·.1)) h1
      rw [← List.getElem?_map, zip_fst hrl] at this
      exact this
    have hk : k < gs.length := by
      have := (List.getElem?_eq_some_iff.mp h3).1
      rw [List.length_reverse] at this
      exact this
    rw [List.getElem?_reverse hk] at h3
    rw [List.getElem?_reverse (by omega)] at h2
    exact hx (gs.length - 1 - k) p.1 x h3 (by rw [hl]; exact h2)
  · refine q1 _ H1 ?_ (Same.refl _)
    refine StoreAt.rev ?_
    rw [← zip_rev hgw]
    refine setAll_at ?_
    rw [zip_fst hrl]
    exact List.pairwise_reverse.mpr (hg.imp fun h => Ne.symm h)
end

section
variable {tb : Tb} {N : List Str} {cl : Cl} {io : Nat → List Bool} {cn : Nat → W} {f : Fm} {pr : List Nat} {no : Bool} {X : Cx} {sc : Scope} {σ : St} {H : Hp}
theorem gs_names {K : PySem.W.Frag} {Q : St → Hp → Prop} : ∀ {gs : List Nat} {vs : List V} {σ : St}, vs.length = gs.length → Q (setAll (gs.zip vs) σ) H → gsOf K (gs.map Tg.nm) vs σ H Q
  | [], [], σ, _, h => ⟨rfl, h⟩
  | g :: gs, v :: vs, σ, hl, h => ⟨v, vs, rfl, gs_names (gs := gs) (Nat.succ.inj hl) h⟩
  | [], _ :: _, _, h, _ => by cases h
  | _ :: _, [], _, h, _ => by cases h
theorem names_chk : ∀ {ts : List Expr} {xs : List Str} {gs : List Nat}, asNames ts = some xs → slB N sc gs xs = true → chkGs N sc (gs.map Tg.nm) ts = true ∧ gs.length = xs.length
  | [], xs, gs, h, c => by
    cases h
    cases gs with
    | nil => exact ⟨rfl, rfl⟩
    | cons _ _ => cases c
  | t :: ts, xs, gs, h, c => by
    unfold asNames at h
    cases hn : asName t with
    | none => rw [hn] at h; cases h
    | some x =>
      rw [hn] at h
      dsimp only at h
      cases hr : asNames ts with
      | none => rw [hr] at h; cases h
      | some ys =>
        rw [hr] at h
        have h : x :: ys = xs := Option.some.inj h
        subst h
        cases gs with
        | nil => cases c
        | cons g gs =>
          have c : (atB N g x && (locB sc x && slB N sc gs ys)) = true := c
          simp only [Bool.and_eq_true] at c
          obtain ⟨h1, h2⟩ := names_chk hr c.2.2
          obtain ⟨p, rfl⟩ := asName_ok hn
          refine ⟨?_, congrArg (· + 1) h2⟩
          rw [List.map_cons]
          unfold chkGs
          dsimp only
          rw [h1]
          unfold chkG
          show (!starB (Expr.Name x p) && ((atB N g x && locB sc x) && true)) = true
          rw [c.1, c.2.1]
          rfl
theorem slB_at : ∀ {gs : List Nat} {xs : List Str}, slB N sc gs xs = true → ∀ (k : Nat) g x, gs[k]? = some g → xs[k]? = some x → N[g]? = some x
  | [], _, _, k, g, x, h, _ => by simp at h
  | g0 :: gs, [], c, _, _, _, _, _ => by cases c
  | g0 :: gs, x0 :: xs, c, 0, g, x, h1, h2 => by
    have c : (atB N g0 x0 && (locB sc x0 && slB N sc gs xs)) = true := c
    rw [Bool.and_eq_true] at c
    cases h1
    cases h2
    exact atB_ok c.1
  | g0 :: gs, x0 :: xs, c, k + 1, g, x, h1, h2 => by
    have c : (atB N g0 x0 && (locB sc x0 && slB N sc gs xs)) = true := c
    rw [Bool.and_eq_true, Bool.and_eq_true] at c
    exact slB_at c.2.2 k g x (by simpa using h1) (by simpa using h2)
theorem plB_at : ∀ {xs : List Str}, plB sc xs = true → ∀ (k : Nat) x, xs[k]? = some x → sc.names.lookup x = some .local
  | [], _, k, x, h => by simp at h
  | x0 :: xs, c, k, x, h => by
    unfold plB at c
    rw [Bool.and_eq_true] at c
    cases k with
    | succ k => exact plB_at c.2 k x (by simpa using h)
    | zero =>
      have h : x0 = x := by simpa using h
      subst h
      have c := c.1
      split at c
      · assumption
      · cases c
theorem ndB_ok : ∀ {gs : List Nat}, ndB gs = true → gs.Nodup
  | [], _ => List.nodup_nil
  | g :: gs, c => by
    have c : (!gs.elem g && ndB gs) = true := c
    simp only [Bool.and_eq_true, Bool.not_eq_true', List.elem_eq_mem, decide_eq_false_iff_not] at c
    exact List.nodup_cons.mpr ⟨c.1, ndB_ok c.2⟩
/-- slots that no name of the text has -/
def GE (t : Nat) (σ σ' : St) : Prop := σ'.length = σ.length ∧ ∀ i, i < t → σ'[i]? = σ[i]?
theorem GE.symm {t : Nat} {σ σ' : St} (h : GE t σ σ') : GE t σ' σ := ⟨h.1.symm, fun i hi => (h.2 i hi).symm⟩
theorem GE.trans {t : Nat} {σ1 σ2 σ3 : St} (a : GE t σ1 σ2) (c : GE t σ2 σ3) : GE t σ1 σ3 := ⟨c.1.trans a.1, fun i h => (c.2 i h).trans (a.2 i h)⟩
theorem Inv.ghost {t : Nat} {σ σ' : St} {pins : List (Addr × Obj)} {s : Shared} (hv : ∀ (i : Nat) x, t ≤ i → X.N[i]? = some x → ¬ Vis X.env.scope x) (h : GE t σ σ') (I : Inv X pins σ H s) : Inv X pins σ' H s :=
  { I with
    loc := by
      obtain ⟨m, h1, h2⟩ := I.loc
      refine ⟨m, h1, fun i x v e1 e2 e3 => ?_⟩
      by_cases hi : i < t
      · rw [h.2 i hi] at e2
        exact h2 i x v e1 e2 e3
      · exact (hv i x (Nat.le_of_not_lt hi) e1 e3).elim
    len := h.1.trans I.len }
theorem tW.ghost {t : Nat} {σ' : St} {e : Expr} {Q : VK} (hv : ∀ (i : Nat) x, t ≤ i → X.N[i]? = some x → ¬ Vis X.env.scope x) (h : GE t σ σ') (q : tW X e σ' H Q) : tW X e σ H Q := fun pins s I =>
  thn (q pins s (Inv.ghost hv h I)) fun u s1 ⟨v, H1, I1, r, q1⟩ => ⟨v, H1, Inv.ghost hv h.symm I1, r, q1⟩
theorem lPar_ok {t : Nat} (hv : ∀ (i : Nat) x, t ≤ i → X.N[i]? = some x → ¬ Vis X.env.scope x) (o : Xok tb N cl io cn f X sc) : ∀ {es : Exs} {fs : List Expr} {t' : Nat}, chkL tb N sc es fs = true → t ≤ t' → t' + lenX es ≤ σ.length → ∀ {sl : Sl} {σ1 : St} {H : Hp} {g : Gh} {b : Nat} {Q : List V → Hp → Prop}, Rl f g b sl σ1 H → GE t σ σ1 →
    (lPar (evL cl io cn es) t' sl).wb b (fun sl' b' => ∀ g' vs H' σ2, g.le g' → GE t σ σ2 → (∀ i, (i < t' ∨ t' + lenX es ≤ i) → σ2[i]? = σ1[i]?) → (∀ (k : Nat) v, vs[k]? = some v → σ2[t' + k]? = some (some v)) → vs.length = lenX es → Rl f g' b' sl' σ2 H' → Q vs H') → tWA X fs σ H Q
  | .nil, fs, t', c, _, _, sl, σ1, H, g, b, Q, R, ge, h => by
    have c : fs.isEmpty = true := c
    rw [List.isEmpty_iff] at c
    subst c
    exact w_nil (h g [] H σ1 (Gh.le.refl g) ge (fun _ _ => rfl) (fun k v e => by simp at e) rfl R)
  | .cons x es, fs, t', c, ht, hl, sl, σ1, H, g, b, Q, R, ge, h => by
    cases fs with
    | nil => cases c
    | cons e fs =>
      have c : (!starB e && (chkE tb N sc x e && chkL tb N sc es fs)) = true := c
      simp only [Bool.and_eq_true, Bool.not_eq_true'] at c
      have hl : t' + (lenX es + 1) ≤ σ.length := hl
      refine w_cons c.1 (tW.ghost hv ge ((sndE x f).1.run o c.2.1 R (T.wb_mono (fun r b1 k1 g1 v H1 l1 R1 vl => ?_) (T.wb_bind.mp h))))
      rw [sett_eq] at k1
      have R2 : Rl f g1 b1 (r.2.set t' (some r.1)) (σ1.set t' (some v)) H1 := by
        obtain ⟨⟨w, fr⟩, sl1⟩ := r
        cases fr with
        | false => exact R1.setF vl
        | true =>
          obtain ⟨a, rfl, ho, hF, hD, h0, hs⟩ := vl
          exact R1.setO ho hF hD (.inl h0) fun j u _ q => hs j u q
      have ge2 : GE t σ (σ1.set t' (some v)) := ⟨by rw [List.length_set]; exact ge.1, fun i hi => by
        rw [List.getElem?_set_ne (by omega)]
        exact ge.2 i hi⟩
      refine lPar_ok hv o c.2.2 (Nat.le_succ_of_le ht) (by omega) R2 ge2 (T.wb_mono (fun sl2 b2 k2 g2 vs H2 σ2 l2 ge3 lo at_ len R3 => ?_) k1)
      refine k2 g2 (v :: vs) H2 σ2 (l1.trans l2) ge3 (fun i hi => ?_) (fun k u e => ?_) (congrArg (· + 1) len) R3
      · have hi : i < t' ∨ t' + (lenX es + 1) ≤ i := hi
        rw [lo i (by omega), List.getElem?_set_ne (by omega)]
      · cases k with
        | zero =>
          have e : v = u := by simpa using e
          subst e
          rw [Nat.add_zero, lo t' (.inl (Nat.lt_succ_self _)), List.getElem?_set_self (by rw [ge.1]; omega)]
        | succ k =>
          have := at_ k u (by simpa using e)
          rw [show t' + (k + 1) = t' + 1 + k by omega]
          exact this
theorem moveS_ok {t0 : Nat} : ∀ {gs : List Nat} {t : Nat} {sl : Sl} {σ : St} {vs : List V} {g : Gh} {b : Nat} {P : Sl → Nat → Prop}, Rl f g b sl σ H → t0 ≤ t → (∀ x ∈ gs, x < t0) → (∀ i, t0 ≤ i → i < t → ∀ r, sl[i]? ≠ some (some r)) → vs.length = gs.length → (∀ (k : Nat) v, vs[k]? = some v → σ[t + k]? = some (some v)) → (moveS gs t sl).wb b P →
    ∃ sl', P sl' b ∧ Rl f g b sl' (setAll (gs.zip vs) σ) H ∧ ∀ i, t0 ≤ i → i < t + gs.length → ∀ r, sl'[i]? ≠ some (some r)
  | [], t, sl, σ, vs, g, b, P, R, _, _, hn, hl, _, h => by
    cases vs with
    | cons _ _ => cases hl
    | nil => exact ⟨sl, h, R, fun i h1 h2 => hn i h1 h2⟩
  | x :: gs, t, sl, σ, vs, g, b, P, R, ht, hg, hn, hl, at_, h => by
    cases vs with
    | nil => cases hl
    | cons v vs =>
      obtain ⟨⟨w, fr⟩, e1, h⟩ := rd_wb (T.wb_bind.mp h)
      rw [sett_eq, sett_eq] at h
      have hx := hg x (List.mem_cons_self ..)
      have s0 : σ[t]? = some (some v) := by
        have := at_ 0 v rfl
        rwa [Nat.add_zero] at this
      have R0 : Rl f g b (sl.set t none) σ H := R.setN
      have R1 : Rl f g b ((sl.set t none).set x (some (w, fr))) (σ.set x (some v)) H := by
        cases fr with
        | false =>
          obtain ⟨u, s1, rv⟩ := R.frz t w e1
          rw [s0] at s1
          cases s1
          exact R0.setF rv
        | true =>
          obtain ⟨a, s1, ho, hF, hD, h0⟩ := R.own t w e1
          rw [s0] at s1
          cases s1
          refine R0.setO ho hF hD h0 fun j u _ q z => ?_
          rcases sl_set q with ⟨_, q'⟩ | ⟨e2, q'⟩
          · cases q'
          · exact e2 (R.inj t j w u a e1 q' s0 z)
      obtain ⟨sl', h', R', q⟩ := moveS_ok (t := t + 1) (vs := vs) R1 (Nat.le_succ_of_le ht) (fun y hy => hg y (List.mem_cons_of_mem _ hy)) (fun i h1 h2 r e => by
        rcases sl_set e with ⟨e2, _⟩ | ⟨_, e2⟩
        · omega
        · rcases sl_set e2 with ⟨_, e3⟩ | ⟨e4, e3⟩
          · cases e3
          · exact hn i h1 (by omega) r e3) (Nat.succ.inj hl) (fun k u e => by
        rw [List.getElem?_set_ne (by omega), show t + 1 + k = t + (k + 1) by omega]
        exact at_ (k + 1) u (by simpa using e)) h
      exact ⟨sl', h', R', fun i h1 h2 r e => q i h1 (by rw [List.length_cons] at h2; omega) r e⟩
theorem ss_par {gs : List Nat} {t : Nat} {es : Exs} : SS tb N cl io cn f pr no (.par gs t es) := ⟨fun {X sc st} o c {sl σ H g b D} R h => by
  unfold chkS at c
  cases hc : asAsg st with
  | none => rw [hc] at c; cases c
  | some y =>
    rw [hc] at c
    obtain ⟨tg, e'⟩ := y
    obtain ⟨p, rfl⟩ := asAsg_ok hc
    replace c : chkPar tb N sc pr gs t es tg e' = true := c
    unfold chkPar at c
    split at c
    · rename_i ts h1
      split at c
      · rename_i vs h2
        split at c
        · rename_i xs h3
          obtain ⟨k1, p1, rfl⟩ := asTup_ok h1
          obtain ⟨k2, p2, rfl⟩ := asTup_ok h2
          simp only [Bool.and_eq_true] at c
          obtain ⟨c1, c2, c3, c4, c5, c6, c7, c8, c9, c10, c11⟩ := c
          obtain ⟨n1, n2⟩ := names_chk h3 c1
          have nd := ndB_ok c2
          have gt : ∀ x ∈ gs, x < t := fun x hx => Nat.le_of_ble_eq_true (List.all_eq_true.mp c3 x hx)
          have pt : ∀ x ∈ pr, x < t := fun x hx => Nat.le_of_ble_eq_true (List.all_eq_true.mp c9 x hx)
          have hv : ∀ (i : Nat) x, t ≤ i → X.N[i]? = some x → ¬ Vis X.env.scope x := fun i x hi hx hvis => by
            rw [o.hN] at hx
            rw [o.hsc] at hvis
            have hm : x ∈ N.drop t := by
              refine List.mem_of_getElem? (i := i - t) ?_
              rw [List.getElem?_drop, show t + (i - t) = i by omega]
              exact hx
            have := List.all_eq_true.mp c4 x hm
            unfold visB at this
            rcases hvis with z | z | z <;> (rw [z] at this; cases this)
          have c5 : lenX es = gs.length := Nat.eq_of_beq_eq_true c5
          have c6 : t + gs.length ≤ N.length := Nat.le_of_ble_eq_true c6
          have c7 : gs.length ≤ sizeLine := Nat.le_of_ble_eq_true c7
          have off := offB_ok c8
          have hNd : X.N.Nodup := by rw [o.hN]; exact o.nd
          -- the values, and what the stores then reach
          have main : σ.length = X.N.length → tWA X vs σ H fun ws H1 => ws.length = gs.length ∧ ∀ σ' H', StoreAt σ (gs.zip ws) σ' → Same H1 H' → D.nx σ' H' := fun hlen => by
            refine lPar_ok hv o.toXok (t' := t) c10 (Nat.le_refl _) (by rw [hlen, o.hN]; omega) R ⟨rfl, fun _ _ => rfl⟩ (T.wb_mono (fun sl1 b1 k1 g1 ws H1 σ1 l1 ge lo at_ len R1 => ?_) (T.wb_bind.mp (show (sPar gs t _ sl).wb b _ from h)))
            have len : ws.length = gs.length := len.trans c5
            refine ⟨len, fun σ' H' sa sm => ?_⟩
            obtain ⟨sl2, k2, R2, q2⟩ := moveS_ok (t0 := t) R1 (Nat.le_refl _) gt (fun i h1 h2 => by omega) len at_ (T.wb_bind.mp k1)
            have sb := setAll_at (ps := gs.zip ws) (σ := σ1) (by rw [zip_fst len.symm]; exact nd)
            have hl2 : σ'.length = (setAll (gs.zip ws) σ1).length := by rw [sa.len, sb.len, ge.1]
            refine k2 g1 σ' H' l1 ((R2.sig hl2 fun i r e => ?_).mono sm) fun i hi => ?_
            · by_cases hi : i ∈ gs
              · rw [← zip_fst len.symm] at hi
                obtain ⟨q, hq, eq⟩ := List.mem_map.mp hi
                have eq : q.1 = i := eq
                subst eq
                have hlt : q.1 < σ.length := by
                  rw [zip_fst len.symm] at hi
                  have := gt _ hi
                  rw [hlen, o.hN]
                  omega
                rw [sa.at_ q hq hlt, sb.at_ q hq (by rw [ge.1]; exact hlt)]
              · have hi' : i ∉ (gs.zip ws).map (·.1) := by rw [zip_fst len.symm]; exact hi
                rw [sa.out i hi', sb.out i hi']
                by_cases hit : i < t
                · exact (ge.2 i hit).symm
                · by_cases hin : i < t + gs.length
                  · exact (q2 i (Nat.le_of_not_lt hit) hin r e).elim
                  · exact (lo i (.inr (by rw [c5]; omega))).symm
            · exact sa.out i (by rw [zip_fst len.symm]; exact off i hi)
          show tWS X (.Assign [.Tuple ts k1 p1] (.Tuple vs k2 p2) p) D σ H
          intro pins s I
          cases hsw : swO sc ts vs with
          | none => rw [hsw] at c11; cases c11
          | some r =>
            rw [hsw] at c11
            have hw := swO_ok (k := k1) (k2 := k2) (p := p1) (p2 := p2) o.hsc o.bk hsw
            cases r with
            | some ys =>
              have c11 : (eqSs ys xs && plB sc xs) = true := c11
              rw [Bool.and_eq_true] at c11
              have e1 := eqSs_ok c11.1
              subst e1
              refine of_ps (ps_parS o.bx.calm hNd nd n2 (fun k g x e1 e2 => ⟨by rw [o.hN]; exact slB_at c1 k g x e1 e2, o.ll x (plB_at c11.2 k x e2)⟩) c7 pa_w hw) (main I.len) pins s I
            | none =>
              refine of_ps (ps_asg (g := gTup X.K (gs.map Tg.nm).length (gsOf X.K (gs.map Tg.nm))) pe_w (pg_tup o.bx.calm (pgs_of o.toXok n1) (chkGs_each n1).1 (chkGs_each n1).2) rfl hw rfl) ?_ pins s I
              refine w_tup (tWA.mono (main I.len) fun ws H1 ⟨len, q⟩ => ⟨by rw [len]; exact c7, fun pp hpp => ?_⟩)
              refine ⟨pp, ws, rfl, .inl (.inl upd_same), by rw [List.length_map]; exact len, gs_names len (q _ _ (setAll_at (by rw [zip_fst len.symm]; exact nd)) (same_upd hpp))⟩
        · cases c
      · cases c
    · cases c⟩
/-! ### all statements -/
mutual
theorem sndS : ∀ (s : Sm), SS tb N cl io cn f pr no s
  | .exp e => ss_exp
  | .par gs t es => ss_par
  | .asg g e => ss_asg
  | .put i k v => ss_put
  | .app i e => ss_app
  | .ret e => ss_ret
  | .retv i => ss_retv
  | .retN => ss_retN
  | .ite c a b => ss_ite (sndSs a) (sndSs b)
  | .for_ g it b => ss_for (sndSs b)
  | .pass => ss_pass
  | .brk => ss_brk
  | .cont => ss_cont
  | .never => ss_never
theorem sndSs : ∀ (s : Sms), SSs tb N cl io cn f pr no s
  | .nil => sss_nil
  | .cons s r => sss_cons (sndS s) (sndSs r)
end
end
end Ev
end
end
section
set_option Elab.async false
set_option linter.all false
set_option maxRecDepth 100000
set_option maxHeartbeats 2000000
/-! EvFn: defs. -/
noncomputable section
namespace Ev
open PySem L2
set_option autoImplicit false
abbrev NX : CXT := fun _ _ _ _ _ _ => False
abbrev NE : XK := fun _ _ _ => False
/-- what a def promises where nothing is being written out -/
structure FnG (P : Program) (w : World) (K : PySem.W.Frag) (mg : Str → Option Value) (base : Heap) (k : Nat) (a : Addr) (fd : FuncData) (ps : List Str) (sp : List V → Hp → VK → Prop) : Prop where
  len : ∀ vs H Q, sp vs H Q → vs.length = ps.length
  run : ∀ (A : Around) (outer : List Env) (s : Shared) (H : Hp) (args : Args) (us : List Value) (vs : List V) (Q : VK), Room k A → A.guards = some [] → Env0 P w K mg base A outer s H → BindsTo s fd args (ps.zip us) → Vals vs us → sp vs H Q →
    codeAny (model P w) A (.call (.ref a) args) (CR NX outer P w H s Q NE) s
section
variable {P : Program} {w : World} {K : PySem.W.Frag} {mg : Str → Option Value} {base : Heap} {x qual : Str} {params : Arguments} {body : List Stmt} {scope : Scope} {a : Addr} {fd : FuncData} {N ps : List Str} {k : Nat} {sp : List V → Hp → VK → Prop}
theorem FnG.of (F : FunD K x qual params body scope [] [] a fd) (S : FnScope N ps scope) (hlen : ∀ vs H Q, sp vs H Q → vs.length = ps.length)
    (hb : ∀ (cdv : Value) (A : Around) (outer : List Env) (s : Shared) (H : Hp) (vs : List V) (Q : VK), Room k (A.deeper (PyProof.Rows.envOfC qual scope s.heap.objs.size a cdv)) → A.guards = some [] → sp vs H Q →
      tWSs (cxOf NX P w K mg base N qual scope a cdv A outer s H NE).nox body { nx := fun _ H' => Q .non H', rt := Q } (start N vs) H) : FnG P w K mg base (k + 1) a fd ps sp := by
  obtain ⟨oc, od, dV, kV, doc, pm, an, cdv, ct, osl, rfl, lk, hcd, _, _⟩ := F.ex
  refine ⟨hlen, fun A outer s H args us vs Q room gu e0 bt rel hsp => ?_⟩
  have inK : K.In s.heap := e0.mod.kin.keeps fun c o e => (e0.bs c o e).1
  have noL : s.heap.NoLimit := e0.mod.nolimit.keeps fun c o e => (e0.bs c o e).1
  refine codeAny_call_function room.depth (inK _ _ lk) rfl S.co S.gen rfl (PySem.W.codeRec_of inK hcd) (bt _ _ _ _ ?_)
  refine wpAny_newFunctionEnv_cells S.kind (fun y hy => ?_) fun env he s1 inc => ?_
  · obtain ⟨n, v⟩ := y
    rcases S.par n (List.of_mem_zip hy).1 with q | q
    · exact .inl q
    · exact .inr ⟨q, PySem.W.cellsFrom_some _ _ _ (.inl q)⟩
  · subst he
    refine ⟨noL.keeps inc.toInCall.keep, codeAny_func ?_⟩
    have J := inv_start (CX := NX) (E := NE) S room.hd e0 (hlen _ _ _ hsp) rel inc
    refine wpAny_mono ((PSs.nox pss_w).run [] s1 _ H _ J (hb cdv A outer s H vs Q (room.deeper _) gu hsp)) (fun fl s' q => ?_) fun e s' q => q
    cases fl with
    | ret u =>
      obtain ⟨v, σ', H', J', rv, q⟩ := q
      exact ⟨v, H', J'.os, J'.bare, J'.base, J'.hok, rv, q⟩
    | next =>
      obtain ⟨σ', H', J', q⟩ := q
      exact ⟨.non, H', J'.os, J'.bare, J'.base, J'.hok, rfl, q⟩
    | brk => exact (let ⟨_, _, _, q⟩ := q; q.elim)
    | cont => exact (let ⟨_, _, _, q⟩ := q; q.elim)
theorem FnG.call {X : Cx} {H : Hp} {Q : VK} {vs : List V} (F : FnG X.prog X.w X.K X.mg X.base k a fd ps sp) (room : Room k X.A) (gu : X.A.guards = some []) (bd : Binds X.K fd ps []) (h : sp vs H Q) : CallW X (.ref a) vs H Q := fun pins s σ us I r => by
  have hl : us.length = ps.length := by rw [← r.length]; exact F.len _ _ _ h
  have bt := bd s us I.kIn (by rw [List.append_nil]; exact hl)
  rw [List.append_nil] at bt
  refine wpAny_call (codeAny_mono (F.run X.A X.stack s H ⟨us, []⟩ us vs Q room gu I.env0 bt r h) fun res s' q => ?_)
  cases res with
  | error e => exact q.elim
  | ok fl =>
    cases fl with
    | ret u => exact I.after q
    | next => exact q.elim
    | brk => exact q.elim
    | cont => exact q.elim
end

/-! ### a call, by frames -/
section
variable {f : Fm} {g g' : Gh} {b b' : Nat} {sl : Sl} {σ : St} {H H' : Hp} {args : List R} {vs : List V} {as : List Addr}
theorem ArgsR.len : ∀ {args : List R} {vs : List V} {as : List Addr}, ArgsR f g H sl σ args vs as → args.length = vs.length
  | _, _, _, .nil => rfl
  | _, _, _, .frz _ r => congrArg (· + 1) r.len
  | _, _, _, .own _ _ _ _ _ _ r => congrArg (· + 1) r.len
theorem ArgsR.mem : ∀ {args : List R} {vs : List V} {as : List Addr}, ArgsR f g H sl σ args vs as → ∀ a ∈ as, (∃ o, H a = some o) ∧ g.F a = none ∧ a ∉ dAdr g.D ∧ (f.H0 a = none ∨ a ∈ f.IO) ∧ NoSlot sl σ a
  | _, _, _, .nil => fun _ h => (List.not_mem_nil h).elim
  | _, _, _, .frz _ r => r.mem
  | _, _, _, .own (a := a) h1 h2 h3 h4 h5 _ r => fun c hc => by
    rcases List.mem_cons.mp hc with e | e
    · subst e
      exact ⟨h1.some, h2, h3, h4, h5⟩
    · exact r.mem c e
theorem ArgsR.frzAt : ∀ {args : List R} {vs : List V} {as : List Addr}, ArgsR f g H sl σ args vs as → ∀ (i : Nat) w, args[i]? = some (w, false) → ∃ v, vs[i]? = some v ∧ RV f.K f.G g w v
  | _, _, _, .nil => fun i w h => by simp at h
  | _, _, _, .frz rv r => fun i w h => by
    cases i with
    | zero => cases h; exact ⟨_, rfl, rv⟩
    | succ i => exact r.frzAt i w (by simpa using h)
  | _, _, _, .own _ _ _ _ _ _ r => fun i w h => by
    cases i with
    | zero => cases h
    | succ i => exact r.frzAt i w (by simpa using h)
theorem ArgsR.ownAt : ∀ {args : List R} {vs : List V} {as : List Addr}, ArgsR f g H sl σ args vs as → ∀ (i : Nat) w, args[i]? = some (w, true) → ∃ a, vs[i]? = some (.ref a) ∧ OA f.K f.G g H w a ∧ a ∈ as
  | _, _, _, .nil => fun i w h => by simp at h
  | _, _, _, .frz rv r => fun i w h => by
    cases i with
    | zero => cases h
    | succ i => exact r.ownAt i w (by simpa using h)
  | _, _, _, .own h1 _ _ _ _ _ r => fun i w h => by
    cases i with
    | zero => cases h; exact ⟨_, rfl, h1, List.mem_cons_self ..⟩
    | succ i =>
      obtain ⟨a, q1, q2, q3⟩ := r.ownAt i w (by simpa using h)
      exact ⟨a, by simpa using q1, q2, List.mem_cons_of_mem _ q3⟩
theorem ArgsR.injAt : ∀ {args : List R} {vs : List V} {as : List Addr}, ArgsR f g H sl σ args vs as → ∀ (i j : Nat) w w' a, args[i]? = some (w, true) → args[j]? = some (w', true) → vs[i]? = some (.ref a) → vs[j]? = some (.ref a) → i = j
  | _, _, _, .nil => fun i j w w' a h => by simp at h
  | _, _, _, .frz rv r => fun i j w w' a h1 h2 h3 h4 => by
    cases i with
    | zero => cases h1
    | succ i =>
      cases j with
      | zero => cases h2
      | succ j => exact congrArg (· + 1) (r.injAt i j w w' a (by simpa using h1) (by simpa using h2) (by simpa using h3) (by simpa using h4))
  | _, _, _, .own (a := a0) (rs := rs) (vs := vs) _ _ _ _ _ na r => fun i j w w' a h1 h2 h3 h4 => by
    have off : ∀ (k : Nat) u, rs[k]? = some (u, true) → vs[k]? = some (.ref a0) → False := fun k u q1 q2 => by
      obtain ⟨c, z1, _, z3⟩ := r.ownAt k u q1
      rw [q2] at z1
      cases z1
      exact na z3
    cases i with
    | zero =>
      cases j with
      | zero => rfl
      | succ j =>
        cases h3
        exact (off j w' (by simpa using h2) (by simpa using h4)).elim
    | succ i =>
      cases j with
      | zero =>
        cases h4
        exact (off i w (by simpa using h1) (by simpa using h3)).elim
      | succ j => exact congrArg (· + 1) (r.injAt i j w w' a (by simpa using h1) (by simpa using h2) (by simpa using h3) (by simpa using h4))
/-- the callee's frame -/
def Fm.into (f : Fm) (g : Gh) (H : Hp) (as : List Addr) : Fm := ⟨f.K, f.G, H, g, as, f.nod⟩
theorem getA {α : Type} {xs : List α} {n i : Nat} {y : α} (h : (xs.map some ++ List.replicate n none)[i]? = some (some y)) : xs[i]? = some y := by
  by_cases hi : i < xs.length
  · rw [List.getElem?_append_left (by rw [List.length_map]; exact hi), List.getElem?_map] at h
    cases e : xs[i]? with
    | none => rw [e] at h; cases h
    | some z =>
      rw [e] at h
      have h : some z = some y := Option.some.inj h
      exact h
  · rw [List.getElem?_append_right (by rw [List.length_map]; exact Nat.le_of_not_lt hi), List.getElem?_replicate] at h
    split at h <;> cases h
theorem getB {α : Type} {xs : List α} {n i : Nat} {y : α} (h : xs[i]? = some y) : (xs.map some ++ List.replicate n none)[i]? = some (some y) := by
  have hi := (List.getElem?_eq_some_iff.mp h).1
  rw [List.getElem?_append_left (by rw [List.length_map]; exact hi), List.getElem?_map, h]
  rfl
theorem Rl.into {n m : Nat} (R : Rl f g b sl σ H) (ar : ArgsR f g H sl σ args vs as) (hn : args.length + n = vs.length + m) : Rl (f.into g H as) g b (args.map some ++ List.replicate n none) (vs.map some ++ List.replicate m none) H where
  sub := R.sub
  kee := fun c o h _ _ => h
  new := fun c o h => .inl h
  dF := R.dF
  orc := R.orc
  d0 := fun c h => .inl h
  dn := R.dn
  ioS := fun c h => (ar.mem c h).1
  len := by simp only [List.length_append, List.length_map, List.length_replicate]; exact hn
  frz := fun i w h => by
    obtain ⟨v, h1, h2⟩ := ar.frzAt i w (getA h)
    exact ⟨v, getB h1, h2⟩
  own := fun i w h => by
    obtain ⟨a, h1, h2, h3⟩ := ar.ownAt i w (getA h)
    obtain ⟨_, q2, q3, _⟩ := ar.mem a h3
    exact ⟨a, getB h1, h2, q2, q3, .inr h3⟩
  inj := fun i j w w' a h1 h2 h3 h4 => ar.injAt i j w w' a (getA h1) (getA h2) (getA h3) (getA h4)
theorem le_dAdr (l : g.le g') {a : Addr} (h : a ∈ dAdr g.D) : a ∈ dAdr g'.D := by
  cases e : g.D with
  | none => rw [e] at h; exact (List.not_mem_nil h).elim
  | some d =>
    rw [l.2 d e]
    rw [e] at h
    exact h
theorem OrcAt.some {d : Addr × Addr × Addr} (o : OrcAt b d H) {a : Addr} (h : a ∈ dAdr (some d)) : ∃ u, H a = some u := by
  obtain ⟨cs, gs, n, h1, h2, h3, _⟩ := o.ex
  obtain ⟨m, c, l⟩ := d
  simp only [dAdr, List.mem_cons, List.not_mem_nil, or_false] at h
  rcases h with e | e | e
  · subst e; exact ⟨_, h1⟩
  · subst e; exact ⟨_, h2⟩
  · subst e; exact ⟨_, h3⟩
/-- back in the caller's frame -/
theorem Rl.back {sl' : Sl} {σ' : St} (R : Rl f g b sl σ H) (ar : ArgsR f g H sl σ args vs as) (l : g.le g') (R' : Rl (f.into g H as) g' b' sl' σ' H') : Rl f g' b' sl σ H' := by
  have nd : ∀ {c : Addr} {o : HO}, H c = some o → c ∉ dAdr g.D → c ∉ dAdr g'.D := fun {c o} h1 h2 h3 => by
    rcases R'.d0 c h3 with z | z
    · exact h2 z
    · have z : H c = none := z
      rw [h1] at z
      cases z
  have keep : ∀ {c : Addr} {o : HO}, H c = some o → c ∉ as → c ∉ dAdr g'.D → H' c = some o := fun {c o} h1 h2 h3 => R'.kee c o h1 h2 h3
  exact {
    sub := R'.sub
    kee := fun c o h1 h2 h3 => by
      have hg : c ∉ dAdr g.D := fun z => h3 (le_dAdr l z)
      refine keep (R.kee c o h1 h2 hg) (fun z => ?_) h3
      rcases (ar.mem c z).2.2.2.1 with y | y
      · rw [h1] at y; cases y
      · exact h2 y
    new := fun c o h => by
      rcases R'.new c o h with z | z | z
      · exact R.new c o z
      · exact .inr (.inl (R.free0 z))
      · exact .inr (ar.mem c z).2.2.2.1
    dF := R'.dF
    orc := R'.orc
    d0 := fun c h => by
      rcases R'.d0 c h with z | z
      · exact R.d0 c z
      · exact .inr (R.free0 z)
    dn := R'.dn
    ioS := fun c h => by
      obtain ⟨o, e⟩ := R.ioS c h
      by_cases h1 : c ∈ as
      · exact R'.ioS c h1
      · by_cases h2 : c ∈ dAdr g'.D
        · cases hd : g'.D with
          | none => rw [hd] at h2; exact (List.not_mem_nil h2).elim
          | some d =>
            rw [hd] at h2
            exact (R'.orc d hd).some h2
        · exact ⟨o, keep e h1 h2⟩
    len := R.len
    frz := fun i u h => by
      obtain ⟨v, h1, h2⟩ := R.frz i u h
      exact ⟨v, h1, h2.le l⟩
    own := fun i u h => by
      obtain ⟨c, h1, h2, h3, h4, h5⟩ := R.own i u h
      obtain ⟨o, e⟩ := h2.some
      have na : c ∉ as := fun z => (ar.mem c z).2.2.2.2 i u h h1
      refine ⟨c, h1, h2.le l fun o' e' => keep e' na (nd e' h4), ?_, nd e h4, h5⟩
      cases q : g'.F c with
      | none => rfl
      | some o' =>
        rcases R'.new c o' q with z | z | z
        · have z : g.F c = some o' := z
          rw [h3] at z; cases z
        · have z : H c = none := z
          rw [e] at z; cases z
        · exact (na z).elim
    inj := R.inj }
theorem Vl.back {sl' : Sl} {σ' : St} {r : R} {v : V} (R : Rl f g b sl σ H) (ar : ArgsR f g H sl σ args vs as) (vl : Vl (f.into g H as) g' H' sl' σ' r v) : Vl f g' H' sl σ r v ∧ (r.2 = true → ∀ a ∈ as, v ≠ .ref a) := by
  obtain ⟨w, fr⟩ := r
  cases fr with
  | false => exact ⟨vl, fun h => by cases h⟩
  | true =>
    obtain ⟨a, rfl, ho, hF, hD, h0, _⟩ := vl
    have h0 : H a = none := h0
    refine ⟨⟨a, rfl, ho, hF, hD, R.free0 h0, R.freeS h0⟩, fun _ c hc e => ?_⟩
    cases e
    obtain ⟨o, e⟩ := (ar.mem a hc).1
    rw [h0] at e
    cases e
end
end Ev
end
end
section
set_option Elab.async false
set_option linter.all false
set_option maxRecDepth 100000
set_option maxHeartbeats 2000000
/-! EvDef: all defs of a law keep what the evaluator says. -/
noncomputable section
namespace Ev
open PySem L2
set_option autoImplicit false
def prOf : List Bool → Nat → List Nat
  | [], _ => []
  | b :: r, k => cond b (k :: prOf r (k + 1)) (prOf r (k + 1))
def noOf (io : List Bool) : Bool := io.all fun b => !b
theorem prOf_mem : ∀ {io : List Bool} {k i : Nat}, io[i]? = some true → k + i ∈ prOf io k
  | [], _, i, h => by simp at h
  | b :: r, k, 0, h => by
    have h : b = true := by simpa using h
    subst h
    exact List.mem_cons_self ..
  | b :: r, k, i + 1, h => by
    have := prOf_mem (io := r) (k := k + 1) (i := i) (by simpa using h)
    rw [show k + (i + 1) = k + 1 + i by omega]
    cases b with
    | true => exact List.mem_cons_of_mem _ this
    | false => exact this
section
variable {f : Fm} {g g' : Gh} {b : Nat} {sl : Sl} {σ : St} {H H' : Hp}
theorem flB_none : ∀ {io : List Bool} {args : List R} {vs : List V} {as : List Addr}, flB io args = true → noOf io = true → ArgsR f g H sl σ args vs as → as = []
  | _, _, _, _, _, _, .nil => rfl
  | [], _ :: _, _, _, c, _, _ => by cases c
  | t :: io, _, _, _, c, n, .frz _ r => by
    have c : ((t == false) && flB io _) = true := c
    rw [Bool.and_eq_true] at c
    have n : ((!t) && noOf io) = true := n
    rw [Bool.and_eq_true] at n
    exact flB_none c.2 n.2 r
  | t :: io, _, _, _, c, n, .own _ _ _ _ _ _ r => by
    have c : ((t == true) && flB io _) = true := c
    rw [Bool.and_eq_true] at c
    have n : ((!t) && noOf io) = true := n
    rw [Bool.and_eq_true] at n
    have e : t = true := eq_of_beq c.1
    subst e
    cases n.1
theorem outs_ok {P : List W → Nat → Prop} {H0 : Hp} : ∀ {bs : List Bool} {args : List R} {vs : List V} {as : List Addr} {slE : Sl} {σE : St}, ArgsR f g H0 sl σ args vs as → flB bs args = true → (∀ (i : Nat) v, bs[i]? = some true → vs[i]? = some v → σE[i]? = some (some v)) →
    (∀ (i : Nat) w, slE[i]? = some (some (w, true)) → ∃ a, σE[i]? = some (some (.ref a)) ∧ OA f.K f.G g' H' w a ∧ g'.F a = none ∧ a ∉ dAdr g'.D) → (outs bs slE).wb b P → ∃ ws, P ws b ∧ TmR f g' H' as ws
  | [], _, _, _, slE, _, .nil, _, _, _, h => ⟨[], by cases slE <;> exact h, .nil⟩
  | [], _, _, _, _, _, .frz _ _, c, _, _, _ => by cases c
  | [], _, _, _, _, _, .own _ _ _ _ _ _ _, c, _, _, _ => by cases c
  | _ :: _, _, _, _, _, _, .nil, c, _, _, _ => by cases c
  | t :: bs, _, _, _, slE, σE, .frz (vs := vs) rv r, c, hσ, ho, h => by
    have c : ((t == false) && flB bs _) = true := c
    rw [Bool.and_eq_true] at c
    have e : t = false := eq_of_beq c.1
    subst e
    cases slE with
    | nil => exact h.elim
    | cons o slE =>
      refine outs_ok (σE := σE.tail) (slE := slE) r c.2 (fun i v h1 h2 => ?_) (fun i w h1 => ?_) h
      · have := hσ (i + 1) v (by simpa using h1) (by simpa using h2)
        cases σE with
        | nil => simp at this
        | cons _ _ => simpa using this
      · obtain ⟨a, q1, q2⟩ := ho (i + 1) w (by simpa using h1)
        cases σE with
        | nil => simp at q1
        | cons _ _ => exact ⟨a, by simpa using q1, q2⟩
  | t :: bs, _, _, _, slE, σE, .own (a := a0) (vs := vs) h1' h2' h3' h4' h5' h6' r, c, hσ, ho, h => by
    have c : ((t == true) && flB bs _) = true := c
    rw [Bool.and_eq_true] at c
    have e : t = true := eq_of_beq c.1
    subst e
    cases slE with
    | nil => exact h.elim
    | cons o slE =>
      cases o with
      | none => exact h.elim
      | some wr =>
        obtain ⟨w1, fr⟩ := wr
        cases fr with
        | false => exact h.elim
        | true =>
          obtain ⟨ws, k, tm⟩ := outs_ok (σE := σE.tail) (slE := slE) r c.2 (fun i v h1 h2 => by
              have := hσ (i + 1) v (by simpa using h1) (by simpa using h2)
              cases σE with
              | nil => simp at this
              | cons _ _ => simpa using this) (fun i w h1 => by
              obtain ⟨a, q1, q2⟩ := ho (i + 1) w (by simpa using h1)
              cases σE with
              | nil => simp at q1
              | cons _ _ => exact ⟨a, by simpa using q1, q2⟩) (T.wb_bind.mp h)
          obtain ⟨a, q1, q2, q3, q4⟩ := ho 0 w1 rfl
          have := hσ 0 (.ref a0) rfl rfl
          rw [this] at q1
          cases q1
          exact ⟨w1 :: ws, k, .cons q2 q3 q4 tm⟩
end

/-! ### the defs of a text -/
structure DefOk (tb : Tb) (fns : List Fk) (K : PySem.W.Frag) (mg : Str → Option Value) (j : Nat) (x : Str) : Prop where
  ex : ∃ a : Addr, mg x = some (.ref a) ∧ PySem.W.keepIn K (.ref a) = true ∧ (fns[j]? = some .begun ∨ ∃ (fd : FuncData) (qual : Str) (params : Arguments) (body : List Stmt) (scope : Scope) (N ps : List Str) (fn : Fn),
    FunD K x qual params body scope [] [] a fd ∧ FnScope N ps scope ∧ Binds K fd ps [] ∧ fns[j]? = some (.code fn) ∧ fn.np = ps.length ∧ fn.ns = N.length ∧ chkSs tb N scope (prOf fn.io 0) (noOf fn.io) fn.body body = true)
/-- a place from which n calls may go down -/
structure Pl (P : Program) (w : World) (K : PySem.W.Frag) (mg : Str → Option Value) (base : Heap) (n : Nat) (X : Cx) : Prop where
  prog : X.prog = P
  w : X.w = w
  K : X.K = K
  mg : X.mg = mg
  base : X.base = base
  calm : X.calm = true
  room : Room n X.A
  gu : X.A.guards = some []
structure Wd (P : Program) (w : World) (K : PySem.W.Frag) (mg : Str → Option Value) (base : Heap) (tb : Tb) (fns : List Fk) (cn : Nat → W) (G : Nat → Option Addr) (r0 : Nat) : Prop where
  bi : ∀ x ∈ allBi, mg x = none
  con : ∀ (k : Nat) x, tb.cnm[k]? = some x → ∃ v u, mg x = some u ∧ RelV v u ∧ (∀ g : Gh, RV K G g (cn k) v) ∧ TupC K (cn k) v
  defs : ∀ (j : Nat) x, tb.fnm[j]? = some x → DefOk tb fns K mg j x
  drw : ∃ a, mg "_law_draw" = some (.ref a) ∧ PySem.W.keepIn K (.ref a) = true ∧
    ∀ X' f', Pl P w K mg base r0 X' → f'.K = K → f'.G = G → ∀ g b sl σ H v (n : Int) (Q : VK), Rl f' g (b + 1) sl σ H → RV f'.K f'.G g .orc v → 0 < n → n < 1073741824 →
      (∀ d, d < n.toNat → ∀ g' H', g.le g' → Rl f' g' b sl σ H' → Q (.int d) H') → CallW X' (.ref a) [v, .int n] H Q
/-- what a call of the def number j gives -/
def Gives (cl : Cl) (j : Nat) (a : Addr) (X : Cx) (f : Fm) : Prop :=
  ∀ g b sl σ H (args : List R) (vs : List V) (as : List Addr) (Q : VK), Rl f g b sl σ H → ArgsR f g H sl σ args vs as →
    (cl j args).wb b (fun r b' => ∀ g' v H', g.le g' → Rl f g' b' sl σ H' → TmR f g' H' as r.2 → Vl f g' H' sl σ r.1 v → (r.1.2 = true → ∀ a ∈ as, v ≠ .ref a) → Q v H') → CallW X (.ref a) vs H Q
section
variable {P : Program} {w : World} {K : PySem.W.Frag} {mg : Str → Option Value} {base : Heap} {tb : Tb} {fns : List Fk} {cn : Nat → W} {G : Nat → Option Addr} {r0 : Nat}
/-- the context of a def's body -/
theorem Wd.fok (W0 : Wd P w K mg base tb fns cn G r0) {n : Nat} {cl : Cl} {io : Nat → List Bool} (ih : ∀ (j : Nat) x, tb.fnm[j]? = some x → ∃ a, mg x = some (.ref a) ∧ PySem.W.keepIn K (.ref a) = true ∧ ∀ X f, Pl P w K mg base (n + r0) X → f.K = K → f.G = G → Gives cl j a X f)
    {N ps : List Str} {scope : Scope} {qual : Str} {a : Addr} {cdv : Value} {A : Around} {outer : List Env} {s : Shared} {H : Hp} {f : Fm} {no : Bool} (S : FnScope N ps scope) (room : Room (n + r0) (A.deeper (PyProof.Rows.envOfC qual scope s.heap.objs.size a cdv))) (gu : A.guards = some []) (hK : f.K = K) (hG : f.G = G) (nio : no = true → f.IO = []) :
    Fok tb N cl io cn f (cxOf NX P w K mg base N qual scope a cdv A outer s H NE).nox scope no where
  bx := ⟨hK.symm, by have := room.un; show (A.deeper _).units + 70 < cLine; omega, gu, rfl⟩
  hh := room.hd
  hN := rfl
  nd := S.nd
  vis := fun x h => by
    show Vis scope x
    unfold visB at h
    cases e : scope.names.lookup x with
    | none => rw [e] at h; cases h
    | some k =>
      rw [e] at h
      cases k <;> first
        | (cases h; done)
        | exact .inl e
        | exact .inr (.inl e)
        | exact .inr (.inr e)
  glo := fun x h => by
    show scope.names.lookup x = some .globalImplicit
    unfold gloB at h
    cases e : scope.names.lookup x with
    | none => rw [e] at h; cases h
    | some k =>
      rw [e] at h
      cases k <;> first
        | (cases h; done)
        | rfl
  loc := fun x h => by
    refine ⟨?_, .inl rfl⟩
    show Loc scope x
    unfold locB at h
    cases e : scope.names.lookup x with
    | none => rw [e] at h; cases h
    | some k =>
      rw [e] at h
      cases k <;> first
        | (cases h; done)
        | exact .inl e
        | exact .inr e
  cf := fun x h => h
  ll := fun x h => h
  knd := S.kind
  bi := W0.bi
  con := fun k x h => by
    obtain ⟨v, u, h1, h2, h3, h4⟩ := W0.con k x h
    exact ⟨v, u, h1, h2, fun g => by rw [hK, hG]; exact h3 g, h4⟩
  fn := fun j x h => by
    obtain ⟨c, h1, h2, h3⟩ := ih j x h
    exact ⟨c, h1, h2, fun X' f' sb k1 k2 => h3 X' f' ⟨sb.prog, sb.w, sb.K, sb.mg, sb.base, sb.calm, by rw [sb.A]; exact room, by rw [sb.A]; exact gu⟩ (k1.trans hK) (k2.trans hG)⟩
  drw := by
    obtain ⟨c, h1, h2, h3⟩ := W0.drw
    exact ⟨c, h1, h2, fun X' f' sb k1 k2 => h3 X' f' ⟨sb.prog, sb.w, sb.K, sb.mg, sb.base, sb.calm, by rw [sb.A]; exact room.mono (Nat.le_add_left ..), by rw [sb.A]; exact gu⟩ (k1.trans hK) (k2.trans hG)⟩
  hsc := rfl
  hp := PassesOwn.never
  nio := nio
theorem fn_all (W0 : Wd P w K mg base tb fns cn G r0) : ∀ (n j : Nat) x, tb.fnm[j]? = some x → ∃ a, mg x = some (.ref a) ∧ PySem.W.keepIn K (.ref a) = true ∧ ∀ X f, Pl P w K mg base (n + r0) X → f.K = K → f.G = G → Gives (callN fns cn n) j a X f
  | 0, j, x, h => by
    obtain ⟨a, h1, h2, _⟩ := (W0.defs j x h).ex
    exact ⟨a, h1, h2, fun X f _ _ _ g b sl σ H args vs as Q R ar q => q.elim⟩
  | n + 1, j, x, h => by
    obtain ⟨a, h1, h2, h3⟩ := (W0.defs j x h).ex
    refine ⟨a, h1, h2, fun X f pl hK hG g b sl σ H args vs as Q R ar q => ?_⟩
    rcases h3 with h3 | ⟨fd, qual, params, body, scope, N, ps, fn, F, S, bd, hf, np, ns, ck⟩
    · unfold callN at q
      rw [nth_eq, h3] at q
      exact q.elim
    · -- the def's promise: whatever the evaluator says
      have G1 : FnG P w K mg base (n + r0 + 1) a fd ps (fun vs H Q => ∃ f g b sl σ args as, f.K = K ∧ f.G = G ∧ Rl f g b sl σ H ∧ ArgsR f g H sl σ args vs as ∧
          (callN fns cn (n + 1) j args).wb b (fun r b' => ∀ g' v H', g.le g' → Rl f g' b' sl σ H' → TmR f g' H' as r.2 → Vl f g' H' sl σ r.1 v → (r.1.2 = true → ∀ a ∈ as, v ≠ .ref a) → Q v H')) := by
        refine FnG.of F S (fun vs H Q ⟨f, g, b, sl, σ, args, as, _, _, _, ar, q⟩ => ?_) fun cdv A outer s H vs Q room gu ⟨f, g, b, sl, σ, args, as, hK, hG, R, ar, q⟩ => ?_
        · unfold callN at q
          rw [nth_eq, hf] at q
          obtain ⟨q1, _⟩ := T.wb_guard q
          rw [Bool.and_eq_true] at q1
          rw [← ar.len, ← np]
          exact Nat.eq_of_beq_eq_true q1.2
        · unfold callN at q
          rw [nth_eq, hf] at q
          obtain ⟨q1, q⟩ := T.wb_guard q
          rw [Bool.and_eq_true] at q1
          have la : args.length = fn.np := Nat.eq_of_beq_eq_true q1.2
          have lv := ar.len
          have lN : ps.length ≤ N.length := by
            have := congrArg List.length S.pre
            rw [List.length_take] at this
            omega
          have R1 : Rl (f.into g H as) g b (args.map some ++ List.replicate (fn.ns - fn.np) none) (start N vs) H := R.into ar (by rw [ns, np, la, np] at *; omega)
          have fk := W0.fok (n := n) (cl := callN fns cn n) (io := ioOf fns) (f := f.into g H as) (no := noOf fn.io) (a := a) (qual := qual) (cdv := cdv) (A := A) (outer := outer) (s := s) (H := H) (fn_all W0 n) S room gu hK hG (fun z => flB_none q1.1 z ar)
          refine (sndSs fn.body).run fk ck R1 (T.wb_mono (fun fl b' k => ?_) (T.wb_bind.mp q))
          have fin : ∀ {r : Ev.R × List W} {g' : Gh} {σ' : St} {sl' : Sl} {v : V} {H' : Hp} {b' : Nat}, g.le g' → Rl (f.into g H as) g' b' sl' σ' H' → Vl (f.into g H as) g' H' sl' σ' r.1 v → TmR f g' H' as r.2 → (∀ g' v H', g.le g' → Rl f g' b' sl σ H' → TmR f g' H' as r.2 → Vl f g' H' sl σ r.1 v → (r.1.2 = true → ∀ a ∈ as, v ≠ .ref a) → Q v H') → Q v H' := fun {r g' σ' sl' v H' b'} l R' vl tm k => by
            obtain ⟨v1, v2⟩ := vl.back R ar
            exact k g' v H' l (R.back ar l R') tm v1 v2
          have outk : ∀ {g' : Gh} {σ' : St} {sl' : Sl} {H' : Hp} {b' : Nat} {Pq : List W → Nat → Prop}, Rl (f.into g H as) g' b' sl' σ' H' → (∀ i ∈ prOf fn.io 0, σ'[i]? = (start N vs)[i]?) → (outs fn.io sl').wb b' Pq → ∃ ws, Pq ws b' ∧ TmR f g' H' as ws := fun {g' σ' sl' H' b' Pq} R' e k => by
            refine outs_ok (σE := σ') ar q1.1 (fun i v h1 h2 => ?_) (fun i u h1 => ?_) k
            · have := prOf_mem (io := fn.io) (k := 0) h1
              rw [Nat.zero_add] at this
              rw [e i this]
              exact getB h2
            · obtain ⟨c, z1, z2, z3, z4, _⟩ := R'.own i u h1
              exact ⟨c, z1, z2, z3, z4⟩
          cases fl with
          | brk sl' => exact k.elim
          | cont sl' => exact k.elim
          | nx sl' =>
            intro g' σ' H' l R' e
            obtain ⟨ws, k2, tm⟩ := outk R' e (T.wb_bind.mp k)
            exact fin (r := ((.non, false), ws)) l R' .non tm k2
          | ret r sl' =>
            intro g' σ' v H' l R' vl e
            obtain ⟨ws, k2, tm⟩ := outk R' e (T.wb_bind.mp k)
            exact fin (r := (r, ws)) l R' vl tm k2
      obtain ⟨e1, e2, e3, e4, e5, e6, room, gu⟩ := pl
      subst e1 e2 e3 e4 e5
      exact G1.call (room.mono (by omega)) gu bd ⟨f, g, b, sl, σ, args, as, hK, hG, R, ar, q⟩
end
end Ev
end
end
section
set_option Elab.async false
set_option linter.all false
set_option maxRecDepth 100000
set_option maxHeartbeats 2000000
/-! EvLaw: a law's end over the evaluator. -/
noncomputable section
namespace Ev
open PySem PySem.Spec L2
set_option autoImplicit false
/-- the law's def is called by the caller, whose place is known -/
theorem callG {P : Program} {w : World} {K : PySem.W.Frag} {mg mb : Str → Option Value} {k : Nat} {fa a : Addr} {fd : FuncData} {x : Str} {sp : List V → Hp → VK → Prop} {s : Shared} {us : List Value} {ns : List Int}
    (inK : K.In s.heap) (nsM : s.heap.Ns mainGlobals mg) (nsB : s.heap.Ns builtinsNs mb) (boot : ∀ x : Str, x ≠ "__name__" → mb x = bootBuiltins x) (noL : s.heap.NoLimit) (noG : s.gens = #[])
    (ha : s.heap.get? a = some { cls := .type "list", data := .seq us.toArray }) (hin : PyProof.Rows.IntsAre us ns) (hl : ns.length ≤ sizeLine) (room : Room k callerA)
    (F : ∀ base : Heap, K.In base → base.Ns mainGlobals mg → FnG P w K mg base k fa fd [x] sp) (bind : ∀ (s : Shared) (u : Value), BindsTo s fd ⟨[u], []⟩ [(x, u)])
    (want : ∀ H : Hp, Only H → SqL K H a (ns.map V.int) → sp [.ref a] H (fun v _ => v = .bl true)) :
    codeAny (model P w) callerA (.call (.ref fa) ⟨[.ref a], []⟩) (fun r s' => r = .ok (.ret (.bool true)) ∧ OldK s.heap s'.heap ∧ s'.os = s.os ∧ PyProof.Rows.AllBare s'.gens) s := by
  -- H: nothing is told but the script (or nothing at all, where the script is written in the module)
  have core : ∀ H : Hp, Only H → SqL K H a (ns.map V.int) → HOk P w H s.heap → (∀ c, H c ≠ none → c = a ∧ K.lookup a = none) →
      codeAny (model P w) callerA (.call (.ref fa) ⟨[.ref a], []⟩) (fun r s' => r = .ok (.ret (.bool true)) ∧ OldK s.heap s'.heap ∧ s'.os = s.os ∧ PyProof.Rows.AllBare s'.gens) s := fun H only sq hok one => by
    have dictFree : ∀ {c : Addr} {o : Obj} {es : Array DictEntry} {ep : Nat}, s.heap.get? c = some o → o.data = .dict es ep → H c = none := fun {c o es ep} e d => by
      cases q : H c with
      | none => rfl
      | some u =>
        obtain ⟨ec, _⟩ := one c (by rw [q]; exact Option.some_ne_none _)
        subst ec
        rw [ha] at e
        cases e
        exact nomatch (show Data.seq us.toArray _ = Data.dict es ep from d)
    have nsH : ∀ {c : Addr} {m : Str → Option Value}, s.heap.Ns c m → (hidT s.heap H).Ns c m := fun {c m} ⟨o, es, ep, e, d, r⟩ => ⟨o, es, ep, hidT_get e (dictFree e d), d, r⟩
    have inH : K.In (hidT s.heap H) := fun c o e => hidT_get (inK c o e) (by
      cases q : H c with
      | none => rfl
      | some u =>
        obtain ⟨ec, lk⟩ := one c (by rw [q]; exact Option.some_ne_none _)
        subst ec
        rw [lk] at e
        cases e)
    have md : Mod K mg (hidT s.heap H) := by
      obtain ⟨mc, l1, l2⟩ := noL
      exact ⟨inH, nsH nsM, ⟨mb, nsH nsB, boot⟩, ⟨mc, nsH l1, l2⟩⟩
    have e0 : Env0 P w K mg (hidT s.heap H) callerA [] s H := { frames := rfl, mod := md, bs := fun c o e => of_hidT e, bsz := Nat.le_of_eq (hidT_size _ _), funs := trivial, frf := fun c z => (List.not_mem_nil (show c ∈ ([] : List Addr) from z)).elim, hok := hok, bare := .of_eq noG }
    refine codeAny_mono ((F _ inH (nsH nsM)).run callerA [] s H ⟨[.ref a], []⟩ [.ref a] [.ref a] _ room rfl e0 (bind s (.ref a)) (.cons rfl .nil) (want H only sq)) fun r s' z => ?_
    cases r with
    | error e => exact z.elim
    | ok fl =>
      cases fl with
      | next => exact z.elim
      | brk => exact z.elim
      | cont => exact z.elim
      | ret u =>
        obtain ⟨v, H', os, bare, un, hok', rv, q⟩ := z
        have q : v = .bl true := q
        subst q
        have eu : u = Value.bool true := rv
        subst eu
        refine ⟨rfl, OldK.of_keep fun c o e => ?_, os, bare⟩
        rcases only c with n | ⟨ob, xs, n⟩
        · exact un.keep c o e n (fun y => (List.not_mem_nil (show c ∈ ([] : List Addr) from y)).elim) (fun y => (List.not_mem_nil y).elim)
        · have n' := un.frzs c ob _ n
          have g1 := (hok c _ n).1
          have g2 := (hok' c _ n').1
          rw [e] at g1
          cases g1
          exact g2
  have rel := vals_ints hin
  cases lk : K.lookup a with
  | some o =>
    have e := inK a o lk
    rw [ha] at e
    cases e
    refine core (fun _ => none) (fun _ => .inl rfl) (.inr ⟨_, us.toArray, _, lk, rfl, rfl, rfl, by rw [List.size_toArray, hin.length]; exact hl, by simpa using rel⟩) (fun c u z => nomatch (show (none : Option HO) = some u from z)) fun c z => (z rfl).elim
  | none =>
    have hat : ∀ {c : Addr} {u : HO}, (if c = a then some (HO.frz { cls := .type "list", data := .seq us.toArray } (.lst (ns.map V.int))) else none) = some u → c = a ∧ u = .frz { cls := .type "list", data := .seq us.toArray } (.lst (ns.map V.int)) := fun {c u} z => by
      split at z
      · rename_i e
        cases z
        exact ⟨e, rfl⟩
      · cases z
    refine core (fun c => if c = a then some (.frz { cls := .type "list", data := .seq us.toArray } (.lst (ns.map V.int))) else none) (fun c => ?_) (.inl (.inr ⟨_, if_pos rfl⟩)) (fun c u z => ?_) fun c z => ?_
    · by_cases e : c = a
      · exact .inr ⟨_, _, if_pos e⟩
      · exact .inl (if_neg e)
    · obtain ⟨rfl, rfl⟩ := hat z
      exact ⟨ha, by rw [List.length_map]; exact hl, us, _, rel, ha⟩
    · by_cases e : c = a
      · exact ⟨e, lk⟩
      · exact (z (if_neg e)).elim
/-- a law, from its def's promise -/
theorem walkG {l : PySem.W.OpenLaw} {n k : Nat} {q : Program} {loose : List Str} {XP : (Str → Option Value) → Heap → Prop} {YP : World → Heap → Prop} {d : DefRec} {x : Str}
    (hn : l.most = some n) (hn2 : n ≤ sizeLine) (hdf : d.params.defaults = []) (room : Room k callerA)
    (F : ∀ (w : World) (mg : Str → Option Value) (fa : Addr) (h : Heap), YP w h → h.Ns mainGlobals mg → mg d.name = some (.ref fa) →
      ∃ (K : PySem.W.Frag) (fd : FuncData) (sp : List V → Hp → VK → Prop), K.In h ∧ (∀ (s : Shared) (u : Value), BindsTo s fd ⟨[u], []⟩ [(x, u)]) ∧
        (∀ (H : Hp) (a : Addr) (ns : List Int), ns.length ≤ n → Only H → SqL K H a (ns.map V.int) → sp [.ref a] H (fun v _ => v = .bl true)) ∧
        ∀ base : Heap, K.In base → base.Ns mainGlobals mg → FnG l.prog w K mg base k fa fd [x] sp) :
    PySem.W.WalkO q loose XP YP l.row.toRowW d [] (fun f vs => PySem.call f vs) := by
  refine Att.attach_call hn hdf fun w _ s mg mb fa o pm cd doc a us ns G Y _ _ _ hmg hobj hints hlen hg => ?_
  obtain ⟨K, fd, sp, inK, bind, want, hF⟩ := F w mg fa _ Y G.T.g hmg
  exact callG inK G.T.g G.T.b G.T.builtins G.T.nolimit hg hobj hints (Nat.le_trans hlen hn2) room hF bind fun H only sq => want H a ns hlen only sq
end Ev
end
end
section
set_option Elab.async false
set_option linter.all false
set_option maxRecDepth 100000
set_option maxHeartbeats 2000000
/-! EvTop: the law's own def: what stands ahead of the drawing state, the drawing state, what stands behind it. -/
noncomputable section
namespace Ev
open PySem L2
set_option autoImplicit false
section
variable {tb : Tb} {N : List Str} {cl : Cl} {io : Nat → List Bool} {cn : Nat → W} {f : Fm} {pr : List Nat} {no : Bool} {X : Cx} {sc : Scope}
theorem pre_ok (o : Fok tb N cl io cn f X sc no) {rest : List Stmt} {D : Ends} : ∀ {s : Sms} {st : List Stmt}, chkSs tb N sc pr no s st = true → ∀ {sl : Sl} {σ : St} {H : Hp} {g : Gh} {b : Nat}, Rl f g b sl σ H →
    (exSs cl io cn s sl).wb b (FlOk f g pr σ { D with nx := fun σ' H' => tWSs X rest D σ' H' }) → tWSs X (st ++ rest) D σ H
  | .nil, st, c, sl, σ, H, g, b, R, h => by
    have c : st.isEmpty = true := by
      unfold chkSs at c
      exact c
    rw [List.isEmpty_iff] at c
    subst c
    exact h g σ H (Gh.le.refl g) R fun _ _ => rfl
  | .cons s r, st, c, sl, σ, H, g, b, R, h => by
    unfold chkSs at c
    cases st with
    | nil => cases c
    | cons s' r' =>
      dsimp only at c
      rw [Bool.and_eq_true] at c
      rw [List.cons_append]
      refine of_pss (pss_cons ps_w pss_w) ((sndS s).run o c.1 R (T.wb_mono (fun fl b' k => ?_) (T.wb_bind.mp (show (sSeq _ _ sl).wb b _ from h))))
      cases fl with
      | nx sl2 => exact fun g2 σ2 H2 l2 R2 e2 => pre_ok o c.2 R2 (T.wb_mono (fun fl b3 k3 => FlOk.mono l2 e2 k3) k)
      | brk sl2 => exact fun g2 σ2 H2 l2 R2 e2 => (show FlOk f g pr σ _ (.brk sl2) b' from k) g2 σ2 H2 l2 R2 e2
      | cont sl2 => exact fun g2 σ2 H2 l2 R2 e2 => (show FlOk f g pr σ _ (.cont sl2) b' from k) g2 σ2 H2 l2 R2 e2
      | ret r2 sl2 => exact fun g2 σ2 v H2 l2 R2 vl e2 => (show FlOk f g pr σ _ (.ret r2 sl2) b' from k) g2 σ2 v H2 l2 R2 vl e2
end
theorem T.wb_le {α : Type} {Q : α → Nat → Prop} : ∀ {t : T α} {b : Nat}, t.wb b Q → t.wb b (fun a b' => b' ≤ b ∧ Q a b')
  | .ok a, b, h => ⟨Nat.le_refl _, h⟩
  | .exc _ _, _, h => h
  | .stk, _, h => h
  | .draw l k, 0, h => h
  | .draw l k, b + 1, h => fun d hd => T.wb_mono (fun a b' ⟨h1, h2⟩ => ⟨Nat.le_succ_of_le h1, h2⟩) (T.wb_le (h d hd))
/-- a law's body in two parts: ahead, i: the slot of the drawing state, behind -/
structure Lw where
  ns : Nat
  pre : Sms
  i : Nat
  post : Sms
/-- what the law comes to, of a script of c numbers -/
def fin2 : Fl → T R
  | .ret r _ => .ok r
  | _ => .stk
def isScr (c : Nat) : R → Bool
  | (.scr n, false) => Nat.beq n c
  | _ => false
def lawN (fns : List Fk) (cn : Nat → W) (l : Lw) (n c : Nat) : T R :=
  (exSs (callN fns cn n) (ioOf fns) cn l.pre (some (.scr c, false) :: List.replicate (l.ns - 1) none)).bind fun fl => match fl with
    | .nx sl => (rd sl 0).bind fun r => T.guard (isScr c r) ((exSs (callN fns cn n) (ioOf fns) cn l.post (sett sl l.i (some (.orc, false)))).bind fin2)
    | .ret r _ => .ok r
    | _ => .stk
/-- m = _law_begun(script) -/
def begB (N : List Str) (sc : Scope) (i : Nat) (st : Stmt) : Bool := match asAsg st with
  | some (t, e) => (match asName t with
    | some m => (match calls sc "_law_begun" e with
      | some [a] => (match asName a with
        | some x => atB N 0 x && (visB sc x && (okN x && (atB N i m && locB sc m)))
        | none => false)
      | _ => false)
    | none => false)
  | none => false
/-- the drawing state's beginning -/
def Begins (P : Program) (w : World) (K : PySem.W.Frag) (mg : Str → Option Value) (base : Heap) (r0 : Nat) : Prop :=
  ∃ a, mg "_law_begun" = some (.ref a) ∧ PySem.W.keepIn K (.ref a) = true ∧ ∀ X, Pl P w K mg base r0 X → ∀ (H : Hp) (p : Addr) (ns : List Int) (Q : VK), SqL K H p (ns.map V.int) → ns.length ≤ 63 →
    (∀ d H', Same H H' → (∀ c ∈ dAdr (some d), H c = none) → OrcAt BIG d H' → Q (.ref d.1) H') → CallW X (.ref a) [.ref p] H Q
section
variable {P : Program} {w : World} {K : PySem.W.Frag} {mg : Str → Option Value} {base : Heap} {tb : Tb} {fns : List Fk} {cn : Nat → W} {G : Nat → Option Addr} {r0 n : Nat}
theorem law_ok (W0 : Wd P w K mg base tb fns cn G r0) (BG : Begins P w K mg base r0) {a : Addr} {fd : FuncData} {qual x : Str} {params : Arguments} {scope : Scope} {N : List Str} {pre' post' : List Stmt} {stB : Stmt} {l : Lw} {xs : Str}
    (F : FunD K x qual params (pre' ++ stB :: post') scope [] [] a fd) (S : FnScope N [xs] scope) (hns : l.ns = N.length) (c1 : chkSs tb N scope [] false l.pre pre' = true) (c2 : begB N scope l.i stB = true) (c3 : chkSs tb N scope [] false l.post post' = true)
    (h : ∀ c, c ≤ 63 → (lawN fns cn l n c).wb BIG (fun r _ => r = (.bl true, false))) :
    FnG P w K mg base (n + r0 + 1) a fd [xs] (fun vs H Q => ∃ (p : Addr) (ns : List Int), vs = [.ref p] ∧ ns.length ≤ 63 ∧ SqL K H p (ns.map V.int) ∧ ∀ H', Q (.bl true) H') := by
  refine FnG.of F S (fun vs H Q ⟨p, ns, e, _⟩ => by rw [e]; rfl) fun cdv A outer s H vs Q room gu ⟨p, ns, ev, hl, sq, hQ⟩ => ?_
  subst ev
  obtain ⟨n0, hN0⟩ : ∃ m, N.length = m + 1 := by
    have := congrArg List.length S.pre
    rw [List.length_take, List.length_singleton] at this
    exact ⟨N.length - 1, by omega⟩
  have f0 := W0.fok (n := n) (cl := callN fns cn n) (io := ioOf fns) (f := ⟨K, G, H, ⟨H, none⟩, [], true⟩) (no := false) (a := a) (qual := qual) (cdv := cdv) (A := A) (outer := outer) (s := s) (H := H) (fn_all W0 n) S room gu rfl rfl (fun z => by cases z)
  have f1 := W0.fok (n := n) (cl := callN fns cn n) (io := ioOf fns) (f := ⟨K, G, H, ⟨H, none⟩, [], false⟩) (no := false) (a := a) (qual := qual) (cdv := cdv) (A := A) (outer := outer) (s := s) (H := H) (fn_all W0 n) S room gu rfl rfl (fun z => by cases z)
  have rv0 : RV K G ⟨H, none⟩ (.scr ns.length) (.ref p) := .scr sq rfl
  have R0 : Rl ⟨K, G, H, ⟨H, none⟩, [], true⟩ ⟨H, none⟩ BIG (some (.scr ns.length, false) :: List.replicate (l.ns - 1) none) (start N [.ref p]) H := {
    sub := Same.refl _
    kee := fun _ _ h _ _ => h
    new := fun _ _ h => .inl h
    dF := fun _ h => (List.not_mem_nil h).elim
    orc := fun _ h => by cases h
    d0 := fun _ h => (List.not_mem_nil h).elim
    dn := fun _ => rfl
    ioS := fun _ h => (List.not_mem_nil h).elim
    len := by
      show (some (W.scr ns.length, false) :: List.replicate (l.ns - 1) (none : Option (W × Bool))).length = (List.map some [V.ref p] ++ List.replicate (N.length - [V.ref p].length) none).length
      simp only [List.length_cons, List.length_replicate, List.length_append, List.length_map, List.length_nil]
      omega
    frz := fun i w e => by
      cases i with
      | zero =>
        have e : some (some (W.scr ns.length, false)) = some (some (w, false)) := by simpa using e
        cases e
        exact ⟨.ref p, rfl, rv0⟩
      | succ i =>
        rw [List.getElem?_cons_succ, List.getElem?_replicate] at e
        split at e <;> cases e
    own := fun i w e => by
      cases i with
      | zero => simp at e
      | succ i =>
        rw [List.getElem?_cons_succ, List.getElem?_replicate] at e
        split at e <;> cases e
    inj := fun i j w w' c e => by
      cases i with
      | zero => simp at e
      | succ i =>
        rw [List.getElem?_cons_succ, List.getElem?_replicate] at e
        split at e <;> cases e }
  refine pre_ok f0 c1 R0 (T.wb_mono (fun fl b1 ⟨hb1, k1⟩ => ?_) (T.wb_le (T.wb_bind.mp (h ns.length hl))))
  cases fl with
  | brk sl => exact k1.elim
  | cont sl => exact k1.elim
  | ret r sl =>
    intro g' σ' v H' l' R' vl e
    have k1 : r = (.bl true, false) := k1
    subst k1
    cases vl
    exact hQ H'
  | nx sl1 =>
    intro g1 σ1 H1 l1 R1 _
    obtain ⟨r, e0, k1⟩ := rd_wb (T.wb_bind.mp k1)
    obtain ⟨k2, k3⟩ := T.wb_guard k1
    obtain ⟨w1, fr⟩ := r
    have ew : w1 = .scr ns.length ∧ fr = false := by
      unfold isScr at k2
      split at k2
      · rename_i c he
        cases he
        exact ⟨by rw [Nat.eq_of_beq_eq_true k2], rfl⟩
      · cases k2
    obtain ⟨rfl, rfl⟩ := ew
    obtain ⟨v, s1, rv⟩ := R1.frz 0 _ e0
    -- the statement
    unfold begB at c2
    cases q1 : asAsg stB with
    | none => rw [q1] at c2; cases c2
    | some y =>
      rw [q1] at c2
      obtain ⟨t, e⟩ := y
      obtain ⟨ps, rfl⟩ := asAsg_ok q1
      dsimp only at c2
      cases q2 : asName t with
      | none => rw [q2] at c2; cases c2
      | some m =>
        rw [q2] at c2
        obtain ⟨pm, rfl⟩ := asName_ok q2
        dsimp only at c2
        split at c2
        · rename_i ar q3
          obtain ⟨p4, p5, rfl, hg⟩ := calls_ok q3
          cases q4 : asName ar with
          | none => rw [q4] at c2; cases c2
          | some z =>
            rw [q4] at c2
            obtain ⟨p6, rfl⟩ := asName_ok q4
            simp only [Bool.and_eq_true, okN, Bool.not_eq_true'] at c2
            obtain ⟨d1, d2, ⟨d3, d4, _⟩, d5, d6⟩ := c2
            obtain ⟨ba, m1, m2, m3⟩ := BG
            obtain ⟨lo, lf⟩ := f0.loc m d6
            refine of_pss (pss_cons ps_w pss_w) (of_ps (ps_set (i := l.i) (te := tW _ _) S.nd (atB_ok d5) lo pe_w rfl lf) ?_)
            refine w_callF (f0.glo _ hg) m1 m2 (by decide +kernel) rfl (w_cons rfl (w_var (atB_ok d1) (f0.vis z d2) d3 d4 s1 (w_nil ?_)))
            cases rv with
            | scr sq1 el =>
              rename_i pa ms
              refine m3 _ ⟨rfl, rfl, rfl, rfl, rfl, rfl, room.mono (Nat.le_add_left ..), gu⟩ H1 pa ms _ (SqL.le R1.sub sq1) (by rw [el]; exact hl) fun dd H2 sm fr orc => ?_
              have gD : g1.D = none := R1.dn rfl
              have l2 : g1.le ⟨g1.F, some dd⟩ := ⟨Same.refl _, fun d e => by rw [gD] at e; cases e⟩
              have R2 : Rl ⟨K, G, H, ⟨H, none⟩, [], false⟩ ⟨g1.F, some dd⟩ b1 sl1 σ1 H2 := {
                sub := R1.sub.trans sm
                kee := fun c o e1 e2 _ => sm c o (R1.kee c o e1 e2 (by rw [gD]; exact List.not_mem_nil))
                new := R1.new
                dF := fun c hc => R1.freeF (fr c hc)
                orc := fun d hd => by
                  cases hd
                  exact orc.le hb1 fun _ _ _ h => h
                d0 := fun c hc => .inr (R1.free0 (fr c hc))
                dn := fun h => by cases h
                ioS := fun _ h => (List.not_mem_nil h).elim
                len := R1.len
                frz := fun i u e => by
                  obtain ⟨v, h1, h2⟩ := R1.frz i u e
                  exact ⟨v, h1, h2.le l2⟩
                own := fun i u e => by
                  obtain ⟨c, h1, h2, h3, _, h5⟩ := R1.own i u e
                  obtain ⟨o, eo⟩ := h2.some
                  refine ⟨c, h1, h2.le l2 fun o' eo' => sm c o' eo', h3, fun hc => ?_, h5⟩
                  rw [fr c hc] at eo
                  cases eo
                inj := R1.inj }
              have R3 := R2.setF (i := l.i) (w := .orc) (v := .ref dd.1) (.orc (m := dd.1) (c := dd.2.1) (l := dd.2.2) rfl)
              rw [sett_eq] at k3
              refine (sndSs l.post).run f1 c3 R3 (T.wb_mono (fun fl b4 k4 => ?_) (T.wb_bind.mp k3))
              cases fl with
              | nx sl => exact k4.elim
              | brk sl => exact k4.elim
              | cont sl => exact k4.elim
              | ret r sl =>
                intro g' σ' v H' l' R' vl e
                have k4 : r = (.bl true, false) := k4
                subst k4
                cases vl
                exact hQ H'
        · cases c2
end
end Ev
end
end
section
set_option Elab.async false
set_option linter.all false
set_option maxRecDepth 100000
set_option maxHeartbeats 2000000
/-! EvHead: the facts of a law's module (constants, defs), read off the head. -/
noncomputable section
namespace Ev
open PySem L2
set_option autoImplicit false
/-! ### plain arguments -/
def plainA (p : Arguments) (ps : List Str) : Bool := p.posonlyargs.isEmpty && (p.vararg.isNone && (p.kwonlyargs.isEmpty && (p.kwarg.isNone && decide (p.args.map (·.arg) = ps) && decide (ps.Nodup))))
theorem look_zip {α : Type} : ∀ {ps : List Str} {us : List α}, us.length = ps.length → ∀ n ∈ ps, ((ps.zip us).lookup n).isSome = true
  | [], _, _, n, h => (List.not_mem_nil h).elim
  | p :: ps, [], hl, _, _ => by simp at hl
  | p :: ps, u :: us, hl, n, h => by
    rw [List.zip_cons_cons, List.lookup_cons]
    cases e : n == p with
    | true => rfl
    | false =>
      rcases List.mem_cons.mp h with z | z
      · rw [z, beq_self_eq_true] at e; cases e
      · exact look_zip (by simpa using hl) n z
theorem fm_congr {α β : Type} {f g : α → Option β} : ∀ {l : List α}, (∀ n ∈ l, f n = g n) → l.filterMap f = l.filterMap g
  | [], _ => rfl
  | x :: l, h => by
    rw [List.filterMap_cons, List.filterMap_cons, h x (List.mem_cons_self ..), fm_congr fun n hn => h n (List.mem_cons_of_mem _ hn)]
theorem fm_zip {α : Type} : ∀ {ps : List Str} {us : List α}, ps.Nodup → us.length = ps.length → (ps.filterMap fun n => ((ps.zip us).lookup n).map (n, ·)) = ps.zip us
  | [], _, _, _ => rfl
  | p :: ps, [], _, hl => by simp at hl
  | p :: ps, u :: us, nd, hl => by
    have nd := List.nodup_cons.mp nd
    rw [List.zip_cons_cons, List.filterMap_cons, List.lookup_cons, beq_self_eq_true]
    show (p, u) :: _ = _
    congr 1
    refine Eq.trans (fm_congr fun n hn => ?_) (fm_zip (us := us) nd.2 (by simpa using hl))
    rw [List.lookup_cons]
    have : (n == p) = false := by
      cases e : n == p with
      | false => rfl
      | true => exact (nd.1 (beq_iff_eq.mp e ▸ hn)).elim
    rw [this]
theorem bind_plain {x qual : Str} {p : Arguments} {body : List Stmt} {scope : Scope} {ps : List Str} (h : plainA p ps = true) (kV doc pm : Value) (an : Option Addr) (cdv ct : Value) (us : List Value) (hl : us.length = ps.length) :
    bindArgs (PySem.W.fnOf x qual p body scope .none kV doc pm an cdv ct) ⟨us, []⟩ = pure (ps.zip us) := by
  obtain ⟨a1, a2, a3, a4, a5, a6, a7⟩ := p
  simp only [plainA, Bool.and_eq_true, List.isEmpty_iff, Option.isNone_iff_eq_none, decide_eq_true_eq] at h
  obtain ⟨h1, h2, h3, ⟨h4, h5⟩, h6⟩ := h
  subst h1 h2 h3 h4 h5
  have mis : (List.filter (fun n => (List.lookup n ((List.map (fun x => x.arg) a2).zip us)).isNone) (List.map (fun x => x.arg) a2)) = [] := by
    rw [List.filter_eq_nil_iff]
    intro n hn
    have := look_zip hl n hn
    simp only [Option.isNone_iff_eq_none]
    intro z
    rw [z] at this
    cases this
  have ng : ¬ (us.length > (List.map (fun x => x.arg) a2).length) := by omega
  have fz := fm_zip h6 hl
  unfold bindArgs
  simp only [PySem.W.fnOf, List.map_nil, List.nil_append, List.forIn_nil, pure_bind, List.append_nil, Option.isNone_none, Bool.and_true]
  have sq : seqItems? Value.none = pure none := rfl
  rw [sq, pure_bind]
  generalize hps : List.map (fun x : Arg => x.arg) a2 = ps at *
  rw [if_neg (by rw [decide_eq_true_eq]; exact ng)]
  simp only [Option.getD_none, List.drop_nil, List.length_nil, Nat.sub_zero, List.take_length, mis, List.isEmpty_nil, Bool.not_true, Bool.false_eq_true, if_false, List.drop_length, List.zip_nil_left, List.zip_nil_right, List.forIn_nil, pure_bind, fz]
/-! ### constants -/
mutual
/-- the module's value u is w -/
def conV (K : PySem.W.Frag) : W → Value → Bool
  | .non, u => (match u with | .none => true | _ => false)
  | .bl b, u => (match u with | .bool c => b == c | _ => false)
  | .int i, u => (match u with | .int j _ => eqI i j | _ => false)
  | .str x, u => (match u with | .str y _ => eqS x y | _ => false)
  | .tup ws, u => (match u with
    | .ref a => (match K.lookup a with
      | some ⟨.type c, none, .seq its _, _⟩ => decide (c = "tuple") && (decide (its.size ≤ sizeLine) && conVs K ws its.toList)
      | _ => false)
    | _ => false)
  | .rpr _, _ => false
  | .lst _, _ => false
  | .dct _, _ => false
  | .fn _, _ => false
  | .orc, _ => false
  | .scr _, _ => false
def conVs (K : PySem.W.Frag) : List W → List Value → Bool
  | [], us => us.isEmpty
  | w :: ws, us => (match us with
    | [] => false
    | u :: us => conV K w u && conVs K ws us)
end
section
variable {K : PySem.W.Frag} {G : Nat → Option Addr}
mutual
theorem conV_ok : ∀ {w : W} {u : Value}, conV K w u = true → ∃ v, RelV v u ∧ (∀ g : Gh, RV K G g w v) ∧ TupC K w v
  | .non, u, h => by
    unfold conV at h
    split at h
    · exact ⟨.non, rfl, fun _ => .non, fun _ e => by cases e⟩
    · cases h
  | .bl b, u, h => by
    unfold conV at h
    split at h
    · rename_i c
      have e : b = c := eq_of_beq h
      subst e
      exact ⟨.bl b, rfl, fun _ => .bl b, fun _ e => by cases e⟩
    · cases h
  | .int i, u, h => by
    unfold conV at h
    split at h
    · rename_i j t
      rw [eqI_dec] at h
      have e := of_decide_eq_true h
      subst e
      exact ⟨.int i, ⟨t, rfl⟩, fun _ => .int i, fun _ e => by cases e⟩
    · cases h
  | .str x, u, h => by
    unfold conV at h
    split at h
    · rename_i y t
      have e := eqS_iff.mp h
      subst e
      exact ⟨.str x, ⟨t, rfl⟩, fun _ => .str x, fun _ e => by cases e⟩
    · cases h
  | .tup ws, u, h => by
    unfold conV at h
    split at h
    · rename_i a
      split at h
      · rename_i c its n sl q
        simp only [Bool.and_eq_true, decide_eq_true_eq] at h
        obtain ⟨h1, h2, h3⟩ := h
        obtain ⟨vs, r1, r2⟩ := conVs_ok h3
        refine ⟨.ref a, rfl, fun g => .tup (.inr ⟨_, its, n, q, congrArg Value.type h1, rfl, h2, r1⟩) (r2 g), fun _ _ => ⟨a, _, rfl, q, congrArg Value.type h1, rfl⟩⟩
      · cases h
    · cases h
  | .rpr _, _, h => by unfold conV at h; cases h
  | .lst _, _, h => by unfold conV at h; cases h
  | .dct _, _, h => by unfold conV at h; cases h
  | .fn _, _, h => by unfold conV at h; cases h
  | .orc, _, h => by unfold conV at h; cases h
  | .scr _, _, h => by unfold conV at h; cases h
theorem conVs_ok : ∀ {ws : List W} {us : List Value}, conVs K ws us = true → ∃ vs, Vals vs us ∧ ∀ g : Gh, RVs K G g ws vs
  | [], us, h => by
    unfold conVs at h
    rw [List.isEmpty_iff] at h
    subst h
    exact ⟨[], .nil, fun _ => .nil⟩
  | w :: ws, us, h => by
    unfold conVs at h
    split at h
    · cases h
    · rename_i u us
      rw [Bool.and_eq_true] at h
      obtain ⟨v, r1, r2, _⟩ := conV_ok h.1
      obtain ⟨vs, r3, r4⟩ := conVs_ok h.2
      exact ⟨v :: vs, .cons r1 r3, fun g => .cons (r2 g) (r4 g)⟩
end
end
def mconB (K : PySem.W.Frag) (c : Str × W) : Bool := match PySem.W.nsIn K mainGlobals c.1 with
  | some (some u) => conV K c.2 u
  | _ => false
/-! ### the hook -/
abbrev AlX : Type := He.AlD × Bool
def obsX (fa : List He.Fa) (fn : List He.DefD) (cs : List (Str × W)) (K : PySem.W.Frag) : AlX := (He.obsD fa fn K, cs.all (mconB K))
def SaysX (fa : List He.Fa) (fn : List He.DefD) (cs : List (Str × W)) (K : PySem.W.Frag) : Prop := obsX fa fn cs K = (He.valD fn, true)
def obsXG (n : Nat) (fa : List He.Fa) (fn : List He.DefD) (cs : List (Str × W)) (g : Addr → Option Obj) : AlX := obsX fa fn cs (He.frG g (He.asD g n))
def hookX (n : Nat) (fa : List He.Fa) (fn : List He.DefD) (cs : List (Str × W)) : PySem.W.Hook where
  α := AlX
  obs := fun s => obsXG n fa fn cs s.heap.get?
  val := fun _ => (He.valD fn, true)
  says := fun _ h => ∃ K : PySem.W.Frag, K.In h ∧ SaysX fa fn cs K
  of := fun _ _ e => ⟨_, He.frG_in, e⟩
  keeps := fun _ _ _ ⟨K, hK, c⟩ k => ⟨K, PySem.W.Frag.In.keeps hK k, c⟩
theorem obsXG_eq {n : Nat} {fa : List He.Fa} {fn : List He.DefD} {cs : List (Str × W)} {g : Addr → Option Obj} {s : Shared} (h : ∀ a, g a = s.heap.get? a) : obsXG n fa fn cs g = (hookX n fa fn cs).obs s := by
  have e : g = s.heap.get? := funext h
  rw [e] <;> rfl
theorem SaysX.d {fa : List He.Fa} {fn : List He.DefD} {cs : List (Str × W)} {K : PySem.W.Frag} (c : SaysX fa fn cs K) : He.SaysD fa fn K := congrArg Prod.fst c
theorem SaysX.c {fa : List He.Fa} {fn : List He.DefD} {cs : List (Str × W)} {K : PySem.W.Frag} (c : SaysX fa fn cs K) : cs.all (mconB K) = true := congrArg Prod.snd c
/-! ### the defs of a law: a row for each -/
structure Rw where
  d : He.DefD
  N : List Str
def faOf (fnm : List Str) : List He.Fa := fnm.map .glo ++ allBi.map .free
def scopeB (N ps : List Str) (sc : Scope) : Bool := (match sc.kind with | .function => true | _ => false) && (!sc.isCoroutine && (!sc.isGenerator && (decide N.Nodup && (decide (N.take ps.length = ps) && ((ps.all fun x => match sc.names.lookup x with
  | some .local => true
  | some .cell => true
  | _ => false) && sc.names.all fun y => match y.2 with
  | .free => false
  | _ => true)))))
theorem scopeB_ok {N ps : List Str} {sc : Scope} (h : scopeB N ps sc = true) : FnScope N ps sc := by
  simp only [scopeB, Bool.and_eq_true, Bool.not_eq_true', decide_eq_true_eq, List.all_eq_true] at h
  obtain ⟨h1, h2, h3, h4, h5, h6, h7⟩ := h
  refine ⟨?_, h2, h3, h4, h5, fun x hx => ?_, fun y hy e => ?_⟩
  · split at h1
    · assumption
    · cases h1
  · have := h6 x hx
    split at this
    · rename_i e; exact .inl e
    · rename_i e; exact .inr e
    · cases this
  · have := h7 y hy
    rw [e] at this
    cases this
def rowB (tb : Tb) (k : Fk) (r : Rw) : Bool := match k with
  | .begun => true
  | .code fn => plainA r.d.params (r.N.take fn.np) && (scopeB r.N (r.N.take fn.np) r.d.scope && (r.d.dfl.isEmpty && (r.d.kwd.isEmpty && (Nat.beq (r.N.take fn.np).length fn.np && (Nat.beq fn.ns r.N.length && chkSs tb r.N r.d.scope (prOf fn.io 0) (noOf fn.io) fn.body r.d.body)))))
def rowsB (tb : Tb) : List Fk → List Rw → List Str → Bool
  | [], [], [] => true
  | k :: ks, r :: rs, x :: xs => decide (r.d.name = x) && (decide (r.d.at_ = (x, none)) && (rowB tb k r && rowsB tb ks rs xs))
  | _, _, _ => false
theorem rowsB_get {tb : Tb} : ∀ {ks : List Fk} {rs : List Rw} {xs : List Str}, rowsB tb ks rs xs = true → ∀ {j : Nat} {x : Str}, xs[j]? = some x → ∃ k r, ks[j]? = some k ∧ rs[j]? = some r ∧ r.d.name = x ∧ r.d.at_ = (x, none) ∧ rowB tb k r = true
  | [], [], [], _, j, x, h => by simp at h
  | k :: ks, r :: rs, y :: xs, c, j, x, h => by
    simp only [rowsB, Bool.and_eq_true, decide_eq_true_eq] at c
    obtain ⟨c1, c2, c3, c4⟩ := c
    cases j with
    | zero =>
      have h : y = x := by simpa using h
      subst h
      exact ⟨k, r, rfl, rfl, c1, c2, c3⟩
    | succ j =>
      obtain ⟨k', r', h1, h2, h3⟩ := rowsB_get c4 (j := j) (x := x) (by simpa using h)
      exact ⟨k', r', by simpa using h1, by simpa using h2, h3⟩
  | [], [], _ :: _, c, _, _, _ => by cases c
  | [], _ :: _, _, c, _, _, _ => by cases c
  | _ :: _, [], _, c, _, _, _ => by cases c
  | _ :: _, _ :: _, [], c, _, _, _ => by cases c
section
variable {tb : Tb} {fns : List Fk} {rows : List Rw} {cs : List (Str × W)} {K : PySem.W.Frag} {h : Heap} {mg : Str → Option Value}
theorem glo_at (X : K.In h) (G : h.Ns mainGlobals mg) (c : SaysX (faOf tb.fnm) (rows.map Rw.d) cs K) {j : Nat} {x : Str} (e : tb.fnm[j]? = some x) : mg x = some (.ref (He.ga K x)) := by
  refine He.glo_ok X G (c.d.fact j ?_)
  unfold faOf
  rw [List.getElem?_append_left (by rw [List.length_map]; exact (List.getElem?_eq_some_iff.mp e).1), List.getElem?_map, e]
  rfl
theorem def_at (c : SaysX (faOf tb.fnm) (rows.map Rw.d) cs K) {j : Nat} {r : Rw} (e : rows[j]? = some r) : ∃ fd, FunD K r.d.name r.d.qual r.d.params r.d.body r.d.scope (r.d.dvs K) (r.d.kws K) (He.fAd K r.d.at_) fd :=
  c.d.def_ j (by rw [List.getElem?_map, e]; rfl)
theorem defs_at (X : K.In h) (G : h.Ns mainGlobals mg) (c : SaysX (faOf tb.fnm) (rows.map Rw.d) cs K) (rb : rowsB tb fns rows tb.fnm = true) : ∀ (j : Nat) x, tb.fnm[j]? = some x → DefOk tb fns K mg j x := fun j x e => by
  obtain ⟨k, r, h1, h2, h3, h4, h5⟩ := rowsB_get rb e
  obtain ⟨fd, F⟩ := def_at c h2
  have ea : He.fAd K r.d.at_ = He.ga K x := by rw [h4]; rfl
  rw [ea, h3] at F
  refine ⟨_, glo_at X G c e, F.kp, ?_⟩
  cases k with
  | begun => exact .inl h1
  | code fn =>
    simp only [rowB, Bool.and_eq_true, List.isEmpty_iff] at h5
    obtain ⟨p1, p2, p3, p4, p5, p6, p7⟩ := h5
    have e1 : r.d.dvs K = [] := by unfold He.DefD.dvs; rw [p3]; rfl
    have e2 : r.d.kws K = [] := by unfold He.DefD.kws; rw [p4]; rfl
    rw [e1, e2] at F
    exact .inr ⟨fd, _, _, _, _, r.N, r.N.take fn.np, fn, F, scopeB_ok p2, FunD.bindsN F fun kV doc pm an cdv ct us hl => bind_plain p1 kV doc pm an cdv ct us hl, h1, (Nat.eq_of_beq_eq_true p5).symm, Nat.eq_of_beq_eq_true p6, p7⟩
theorem bi_at (X : K.In h) (G : h.Ns mainGlobals mg) (c : SaysX (faOf tb.fnm) (rows.map Rw.d) cs K) : ∀ x ∈ allBi, mg x = none := fun x hx => by
  obtain ⟨i, e⟩ := List.getElem?_of_mem hx
  refine He.free_ok X G (c.d.fact (tb.fnm.length + i) ?_)
  unfold faOf
  rw [List.getElem?_append_right (by rw [List.length_map]; omega), List.length_map, Nat.add_sub_cancel_left, List.getElem?_map, e]
  rfl
/-- where the def number j stands -/
def gaOf (tb : Tb) (K : PySem.W.Frag) (j : Nat) : Option Addr := (tb.fnm[j]?).map (He.ga K)
theorem con_at {cn : Nat → W} (X : K.In h) (G : h.Ns mainGlobals mg) (c : SaysX (faOf tb.fnm) (rows.map Rw.d) cs K) (hc : tb.cnm = cs.map (·.1)) (hn : ∀ (k : Nat) x w, cs[k]? = some (x, w) → cn k = w) : ∀ (k : Nat) x, tb.cnm[k]? = some x → ∃ v u, mg x = some u ∧ RelV v u ∧ (∀ g : Gh, RV K (gaOf tb K) g (cn k) v) ∧ TupC K (cn k) v := fun k x e => by
  rw [hc, List.getElem?_map] at e
  cases q : cs[k]? with
  | none => rw [q] at e; cases e
  | some p =>
    obtain ⟨y, w⟩ := p
    rw [q] at e
    have e : y = x := by simpa using e
    subst e
    have cc := List.all_eq_true.mp c.c _ (List.mem_of_getElem? q)
    unfold mconB at cc
    rw [hn k y w q]
    split at cc
    · rename_i u eu
      obtain ⟨v, r1, r2, r3⟩ := conV_ok (G := gaOf tb K) cc
      exact ⟨v, u, PySem.W.mg_of X G eu, r1, r2, r3⟩
    · cases cc
end
end Ev
end
end
section
set_option Elab.async false
set_option linter.all false
set_option maxRecDepth 100000
set_option maxHeartbeats 4000000
noncomputable section
namespace Ov
open PySem Ev
/-- is_tuple_of: 0=value 1=many -/
def nm0 : List Str := ["value", "many"]
def fk0 : Fk := .code ⟨2, 2, [false, false], (.cons (.ret (.and (.cons (.bi .isTuple (.cons (.var 0) .nil)) (.cons (.op .eq (.bi .len (.cons (.var 0) .nil)) (.var 1)) .nil)))) .nil)⟩
/-- is_name_of_two: 0=value -/
def nm1 : List Str := ["value"]
def fk1 : Fk := .code ⟨1, 1, [false], (.cons (.ret (.and (.cons (.bi .isStr (.cons (.var 0) .nil)) (.cons (.op .isin (.var 0) (.glo 0)) .nil)))) .nil)⟩
/-- is_habit: 0=value -/
def nm2 : List Str := ["value"]
def fk2 : Fk := .code ⟨1, 1, [false], (.cons (.ite (.or (.cons (.not (.call 0 (.cons (.var 0) (.cons (.con (.int 2)) .nil)))) (.cons (.not (.bi .isStr (.cons (.idx (.var 0) (.con (.int 0))) .nil))) (.cons (.op .notin (.idx (.var 0) (.con (.int 0))) (.glo 1)) .nil)))) (.cons (.ret (.con (.bl false))) .nil) .nil) (.cons (.ret (.or (.cons (.op .is (.idx (.var 0) (.con (.int 1))) (.con (.bl true))) (.cons (.op .is (.idx (.var 0) (.con (.int 1))) (.con (.bl false))) .nil)))) .nil))⟩
/-- need_customs: 0=customs 1=number 2=habit -/
def nm3 : List Str := ["customs", "number", "habit"]
def fk3 : Fk := .code ⟨1, 3, [false], (.cons (.ite (.not (.call 0 (.cons (.var 0) (.cons (.con (.int 3)) .nil)))) (.cons .never .nil) .nil) (.cons (.for_ (.tp [(.nm 1), (.nm 2)]) (.enum (.var 0)) (.cons (.ite (.not (.call 2 (.cons (.var 2) .nil))) (.cons .never .nil) .nil) .nil)) (.cons (.ret (.var 0)) .nil)))⟩
/-- habit_in: 0=customs 1=name -/
def nm4 : List Str := ["customs", "name"]
def fk4 : Fk := .code ⟨2, 2, [false, false], (.cons (.ret (.idx (.var 0) (.mth .index (.glo 0) (.cons (.var 1) .nil)))) .nil)⟩
/-- need_habit: 0=customs 1=name -/
def nm5 : List Str := ["customs", "name"]
def fk5 : Fk := .code ⟨2, 2, [false, false], (.cons (.exp (.call 3 (.cons (.var 0) .nil))) (.cons (.ite (.not (.call 1 (.cons (.var 1) .nil))) (.cons .never .nil) .nil) (.cons (.ret (.call 4 (.cons (.var 0) (.cons (.var 1) .nil)))) .nil)))⟩
/-- custom_of: 0=customs 1=name -/
def nm6 : List Str := ["customs", "name"]
def fk6 : Fk := .code ⟨2, 2, [false, false], (.cons (.ret (.idx (.call 5 (.cons (.var 0) (.cons (.var 1) .nil))) (.con (.int 0)))) .nil)⟩
/-- is_from_to: 0=thing 1=least 2=most -/
def nm7 : List Str := ["thing", "least", "most"]
def fk7 : Fk := .code ⟨3, 3, [false, false, false], (.cons (.ret (.and (.cons (.bi .isInt (.cons (.var 0) .nil)) (.cons (.not (.bi .isBool (.cons (.var 0) .nil))) (.cons (.chain .le .le (.var 1) (.var 0) (.var 2)) .nil))))) .nil)⟩
/-- is_pair_under: 0=thing 1=below -/
def nm8 : List Str := ["thing", "below"]
def fk8 : Fk := .code ⟨2, 2, [false, false], (.cons (.ite (.or (.cons (.not (.bi .isTuple (.cons (.var 0) .nil))) (.cons (.op .ne (.bi .len (.cons (.var 0) .nil)) (.con (.int 2))) .nil))) (.cons (.ret (.con (.bl false))) .nil) .nil) (.cons (.ret (.and (.cons (.call 7 (.cons (.idx (.var 0) (.con (.int 0))) (.cons (.con (.int 0)) (.cons (.op .sub (.var 1) (.con (.int 1))) .nil)))) (.cons (.call 7 (.cons (.idx (.var 0) (.con (.int 1))) (.cons (.con (.int 0)) (.cons (.op .sub (.var 1) (.con (.int 1))) .nil)))) .nil)))) .nil))⟩
/-- need_plan_of_deeds: 0=plan 1=many 2=deeds 3=outs 4=number 5=deed 6=value -/
def nm9 : List Str := ["plan", "many", "deeds", "outs", "number", "deed", "value"]
def fk9 : Fk := .code ⟨1, 7, [false], (.cons (.ite (.or (.cons (.not (.bi .isTuple (.cons (.var 0) .nil))) (.cons (.op .ne (.bi .len (.cons (.var 0) .nil)) (.con (.int 3))) .nil))) (.cons .never .nil) .nil) (.cons (.asg (.tp [(.nm 1), (.nm 2), (.nm 3)]) (.var 0)) (.cons (.ite (.not (.call 7 (.cons (.var 1) (.cons (.con (.int 1)) (.cons (.glo 4) .nil))))) (.cons .never .nil) .nil) (.cons (.ite (.or (.cons (.not (.bi .isTuple (.cons (.var 2) .nil))) (.cons (.op .gt (.bi .len (.cons (.var 2) .nil)) (.glo 3)) .nil))) (.cons .never .nil) .nil) (.cons (.for_ (.tp [(.nm 4), (.nm 5)]) (.enum (.var 2)) (.cons (.ite (.not (.call 8 (.cons (.var 5) (.cons (.op .add (.var 1) (.var 4)) .nil)))) (.cons .never .nil) .nil) .nil)) (.cons (.ite (.or (.cons (.not (.bi .isTuple (.cons (.var 3) .nil))) (.cons (.op .gt (.bi .len (.cons (.var 3) .nil)) (.glo 2)) .nil))) (.cons .never .nil) .nil) (.cons (.for_ (.tp [(.nm 4), (.nm 6)]) (.enum (.var 3)) (.cons (.ite (.not (.call 7 (.cons (.var 6) (.cons (.con (.int 0)) (.cons (.op .sub (.op .add (.var 1) (.bi .len (.cons (.var 2) .nil))) (.con (.int 1))) .nil))))) (.cons .never .nil) .nil) .nil)) (.cons (.ret (.var 0)) .nil))))))))⟩
/-- need_many: 0=many -/
def nm10 : List Str := ["many"]
def fk10 : Fk := .code ⟨1, 1, [false], (.cons (.ite (.not (.call 7 (.cons (.var 0) (.cons (.con (.int 1)) (.cons (.glo 4) .nil))))) (.cons .never .nil) .nil) (.cons (.ret (.var 0)) .nil))⟩
/-- need_goals: 0=many 1=goals 2=number 3=goal -/
def nm11 : List Str := ["many", "goals", "number", "goal"]
def fk11 : Fk := .code ⟨2, 4, [false, false], (.cons (.exp (.call 10 (.cons (.var 0) .nil))) (.cons (.ite (.or (.cons (.not (.bi .isTuple (.cons (.var 1) .nil))) (.cons (.op .gt (.bi .len (.cons (.var 1) .nil)) (.glo 2)) .nil))) (.cons .never .nil) .nil) (.cons (.for_ (.tp [(.nm 2), (.nm 3)]) (.enum (.var 1)) (.cons (.ite (.or (.cons (.not (.call 8 (.cons (.var 3) (.cons (.var 0) .nil)))) (.cons (.op .gt (.idx (.var 3) (.con (.int 0))) (.idx (.var 3) (.con (.int 1)))) .nil))) (.cons .never .nil) .nil) .nil)) (.cons (.ret (.var 1)) .nil))))⟩
/-- need_value: 0=plan 1=value -/
def nm12 : List Str := ["plan", "value"]
def fk12 : Fk := .code ⟨2, 2, [false, false], (.cons (.ite (.not (.call 7 (.cons (.var 1) (.cons (.con (.int 0)) (.cons (.op .sub (.op .add (.idx (.var 0) (.con (.int 0))) (.bi .len (.cons (.idx (.var 0) (.con (.int 1))) .nil))) (.con (.int 1))) .nil))))) (.cons .never .nil) .nil) .nil)⟩
/-- word_sizes: 0=plan 1=found 2=left 3=right -/
def nm13 : List Str := ["plan", "found", "left", "right"]
def fk13 : Fk := .code ⟨1, 4, [false], (.cons (.asg (.nm 1) (.op .mul (.lst (.cons (.con (.int 1)) .nil)) (.idx (.var 0) (.con (.int 0))))) (.cons (.for_ (.tp [(.nm 2), (.nm 3)]) (.seq (.idx (.var 0) (.con (.int 1)))) (.cons (.app 1 (.op .add (.idx (.var 1) (.var 2)) (.idx (.var 1) (.var 3)))) .nil)) (.cons (.retv 1) .nil)))⟩
/-- values_needed: 0=plan 1=some 2=many 3=wanted 4=value 5=left 6=right 7=is_wanted -/
def nm14 : List Str := ["plan", "some", "many", "wanted", "value", "left", "right", "is_wanted"]
def fk14 : Fk := .code ⟨2, 8, [false, false], (.cons (.asg (.nm 2) (.idx (.var 0) (.con (.int 0)))) (.cons (.asg (.nm 3) (.op .mul (.lst (.cons (.con (.bl false)) .nil)) (.op .add (.var 2) (.bi .len (.cons (.idx (.var 0) (.con (.int 1))) .nil))))) (.cons (.for_ (.nm 4) (.seq (.var 1)) (.cons (.put 3 (.var 4) (.con (.bl true))) .nil)) (.cons (.for_ (.nm 4) (.rng3 (.op .sub (.bi .len (.cons (.var 3) .nil)) (.con (.int 1))) (.op .sub (.var 2) (.con (.int 1))) (.neg (.con (.int 1)))) (.cons (.ite (.idx (.var 3) (.var 4)) (.cons (.asg (.tp [(.nm 5), (.nm 6)]) (.idx (.idx (.var 0) (.con (.int 1))) (.op .sub (.var 4) (.var 2)))) (.cons (.put 3 (.var 5) (.con (.bl true))) (.cons (.put 3 (.var 6) (.con (.bl true))) .nil))) .nil) .nil)) (.cons (.ret (.lc [4, 7] (.var 4) (.tp [(.nm 4), (.nm 7)]) (.enum (.var 3)) (.cons (.var 7) .nil))) .nil)))))⟩
/-- need_short: 0=plan 1=value -/
def nm15 : List Str := ["plan", "value"]
def fk15 : Fk := .code ⟨2, 2, [false, false], (.cons (.exp (.call 12 (.cons (.call 9 (.cons (.var 0) .nil)) (.cons (.var 1) .nil)))) (.cons (.ite (.op .gt (.idx (.call 13 (.cons (.var 0) .nil)) (.var 1)) (.glo 5)) (.cons .never .nil) .nil) .nil))⟩
/-- tree_in: 0=plan 1=value 2=found 3=many 4=one 5=left 6=right 7=#0 8=#1 -/
def nm16 : List Str := ["plan", "value", "found", "many", "one", "left", "right", "#0", "#1"]
def fk16 : Fk := .code ⟨2, 9, [false, false], (.cons (.par [2, 3] 7 (.cons .dnew (.cons (.idx (.var 0) (.con (.int 0))) .nil))) (.cons (.for_ (.nm 4) (.seq (.call 14 (.cons (.var 0) (.cons (.lst (.cons (.var 1) .nil)) .nil)))) (.cons (.ite (.op .lt (.var 4) (.var 3)) (.cons (.put 2 (.var 4) (.var 4)) .nil) (.cons (.asg (.tp [(.nm 5), (.nm 6)]) (.idx (.idx (.var 0) (.con (.int 1))) (.op .sub (.var 4) (.var 3)))) (.cons (.put 2 (.var 4) (.tup (.cons (.idx (.var 2) (.var 5)) (.cons (.idx (.var 2) (.var 6)) .nil)))) .nil))) .nil)) (.cons (.ret (.idx (.var 2) (.var 1))) .nil)))⟩
/-- word_in: 0=plan 1=value 2=found 3=many 4=one 5=left 6=right 7=#0 8=#1 -/
def nm17 : List Str := ["plan", "value", "found", "many", "one", "left", "right", "#0", "#1"]
def fk17 : Fk := .code ⟨2, 9, [false, false], (.cons (.par [2, 3] 7 (.cons .dnew (.cons (.idx (.var 0) (.con (.int 0))) .nil))) (.cons (.for_ (.nm 4) (.seq (.call 14 (.cons (.var 0) (.cons (.lst (.cons (.var 1) .nil)) .nil)))) (.cons (.ite (.op .lt (.var 4) (.var 3)) (.cons (.put 2 (.var 4) (.tup (.cons (.var 4) .nil))) .nil) (.cons (.asg (.tp [(.nm 5), (.nm 6)]) (.idx (.idx (.var 0) (.con (.int 1))) (.op .sub (.var 4) (.var 3)))) (.cons (.put 2 (.var 4) (.op .add (.idx (.var 2) (.var 5)) (.idx (.var 2) (.var 6)))) .nil))) .nil)) (.cons (.ret (.idx (.var 2) (.var 1))) .nil)))⟩
/-- plan_tree: 0=plan 1=value -/
def nm18 : List Str := ["plan", "value"]
def fk18 : Fk := .code ⟨2, 2, [false, false], (.cons (.exp (.call 15 (.cons (.var 0) (.cons (.var 1) .nil)))) (.cons (.ret (.call 16 (.cons (.var 0) (.cons (.var 1) .nil)))) .nil))⟩
/-- plan_word: 0=plan 1=value -/
def nm19 : List Str := ["plan", "value"]
def fk19 : Fk := .code ⟨2, 2, [false, false], (.cons (.exp (.call 15 (.cons (.var 0) (.cons (.var 1) .nil)))) (.cons (.ret (.call 17 (.cons (.var 0) (.cons (.var 1) .nil)))) .nil))⟩
/-- lots_of_items: 0=plan 1=found 2=bit 3=item 4=left 5=right 6=#0 7=#1 -/
def nm20 : List Str := ["plan", "found", "bit", "item", "left", "right", "#0", "#1"]
def fk20 : Fk := .code ⟨1, 8, [false], (.cons (.par [1, 2] 6 (.cons (.lst .nil) (.cons (.con (.int 1)) .nil))) (.cons (.for_ (.nm 3) (.rng1 (.idx (.var 0) (.con (.int 0)))) (.cons (.app 1 (.var 2)) (.cons (.asg (.nm 2) (.op .mul (.con (.int 2)) (.var 2))) .nil))) (.cons (.for_ (.tp [(.nm 4), (.nm 5)]) (.seq (.idx (.var 0) (.con (.int 1)))) (.cons (.app 1 (.op .bor (.idx (.var 1) (.var 4)) (.idx (.var 1) (.var 5)))) .nil)) (.cons (.retv 1) .nil))))⟩
/-- is_from_right: 0=plan 1=value 2=first 3=last 4=many 5=here 6=item 7=#0 8=#1 -/
def nm21 : List Str := ["plan", "value", "first", "last", "many", "here", "item", "#0", "#1"]
def fk21 : Fk := .code ⟨4, 9, [false, false, false, false], (.cons (.par [4, 5] 7 (.cons (.idx (.var 0) (.con (.int 0))) (.cons (.var 1) .nil))) (.cons (.for_ (.nm 6) (.rng2 (.var 2) (.var 3)) (.cons (.ite (.or (.cons (.op .lt (.var 5) (.var 4)) (.cons (.op .ne (.idx (.idx (.idx (.var 0) (.con (.int 1))) (.op .sub (.var 5) (.var 4))) (.con (.int 0))) (.var 6)) .nil))) (.cons (.ret (.con (.bl false))) .nil) .nil) (.cons (.asg (.nm 5) (.idx (.idx (.idx (.var 0) (.con (.int 1))) (.op .sub (.var 5) (.var 4))) (.con (.int 1)))) .nil))) (.cons (.ret (.op .eq (.var 5) (.var 3))) .nil)))⟩
/-- does_make: 0=custom 1=plan 2=value 3=goal 4=first 5=last 6=lots -/
def nm22 : List Str := ["custom", "plan", "value", "goal", "first", "last", "lots"]
def fk22 : Fk := .code ⟨4, 7, [false, false, false, false], (.cons (.asg (.tp [(.nm 4), (.nm 5)]) (.var 3)) (.cons (.ite (.op .eq (.var 0) (.con (.str ⟨#[110, 111, 110, 101]⟩))) (.cons (.ret (.call 21 (.cons (.var 1) (.cons (.var 2) (.cons (.var 4) (.cons (.var 5) .nil)))))) .nil) .nil) (.cons (.asg (.nm 6) (.call 20 (.cons (.var 1) .nil))) (.cons (.ite (.op .ne (.idx (.var 6) (.var 2)) (.bi .sum (.cons (.sli (.var 6) (some (.var 4)) (some (.op .add (.var 5) (.con (.int 1))))) .nil))) (.cons (.ret (.con (.bl false))) .nil) .nil) (.cons (.ite (.op .eq (.var 0) (.con (.str ⟨#[111, 110, 99, 101]⟩))) (.cons (.ret (.con (.bl true))) .nil) .nil) (.cons (.ite (.op .ne (.idx (.call 13 (.cons (.var 1) .nil)) (.var 2)) (.op .sub (.op .add (.var 5) (.con (.int 1))) (.var 4))) (.cons (.ret (.con (.bl false))) .nil) .nil) (.cons (.ret (.or (.cons (.op .eq (.var 0) (.con (.str ⟨#[97, 110, 121]⟩))) (.cons (.op .eq (.call 17 (.cons (.var 1) (.cons (.var 2) .nil))) (.conv true (.rng2 (.var 4) (.op .add (.var 5) (.con (.int 1)))))) .nil)))) .nil)))))))⟩
/-- first_wrong_goal: 0=customs 1=name 2=plan 3=goals 4=custom 5=number 6=value 7=goal -/
def nm23 : List Str := ["customs", "name", "plan", "goals", "custom", "number", "value", "goal"]
def fk23 : Fk := .code ⟨4, 8, [false, false, false, false], (.cons (.asg (.nm 4) (.call 6 (.cons (.call 3 (.cons (.var 0) .nil)) (.cons (.var 1) .nil)))) (.cons (.exp (.call 11 (.cons (.idx (.call 9 (.cons (.var 2) .nil)) (.con (.int 0))) (.cons (.var 3) .nil)))) (.cons (.for_ (.tp [(.nm 5), (.tp [(.nm 6), (.nm 7)])]) (.enumZip (.idx (.var 2) (.con (.int 2))) (.var 3)) (.cons (.ite (.not (.call 22 (.cons (.var 4) (.cons (.var 2) (.cons (.var 6) (.cons (.var 7) .nil)))))) (.cons (.retv 5) .nil) .nil) .nil)) (.cons (.ret (.ite (.op .eq (.bi .len (.cons (.idx (.var 2) (.con (.int 2))) .nil)) (.bi .len (.cons (.var 3) .nil))) (.con .non) (.bi .min2 (.cons (.bi .len (.cons (.idx (.var 2) (.con (.int 2))) .nil)) (.cons (.bi .len (.cons (.var 3) .nil)) .nil))))) .nil))))⟩
/-- is_right_plan: 0=customs 1=name 2=plan 3=goals -/
def nm24 : List Str := ["customs", "name", "plan", "goals"]
def fk24 : Fk := .code ⟨4, 4, [false, false, false, false], (.cons (.ret (.op .is (.call 23 (.cons (.var 0) (.cons (.var 1) (.cons (.var 2) (.cons (.var 3) .nil))))) (.con .non))) .nil)⟩
/-- _law_mixed: 0=_law_cell 1=_law_n 2=_law_blend -/
def nm25 : List Str := ["_law_cell", "_law_n", "_law_blend"]
def fk25 : Fk := .code ⟨2, 3, [false, false], (.cons (.asg (.nm 2) (.op .add (.op .add (.op .mod (.bi .int (.cons (.op .mul (.op .mul (.var 0) (.op .add (.con (.int 1)) (.op .mul (.con (.int 2)) (.var 1)))) (.con (.int 48271))) .nil)) (.con (.int 2147483647))) (.op .mul (.op .mul (.con (.int 7919)) (.var 1)) (.var 1))) (.op .mul (.con (.int 104729)) (.var 1)))) (.cons (.ret (.op .fdiv (.op .mod (.bi .int (.cons (.op .mul (.var 2) (.con (.int 69621))) .nil)) (.con (.int 2147483629))) (.con (.int 7)))) .nil))⟩
/-- _law_folded: 0=_law_script 1=_law_found 2=_law_n 3=_law_cell -/
def nm26 : List Str := ["_law_script", "_law_found", "_law_n", "_law_cell"]
def fk26 : Fk := .begun
/-- _law_draw: 0=_law_m 1=_law_limit 2=_law_n 3=_law_lot 4=_law_here 5=_law_cell -/
def nm27 : List Str := ["_law_m", "_law_limit", "_law_n", "_law_lot", "_law_here", "_law_cell"]
def fk27 : Fk := .begun
/-- _law_begun: 0=_law_script 1=_law_m 2=_law_cell -/
def nm28 : List Str := ["_law_script", "_law_m", "_law_cell"]
def fk28 : Fk := .begun
/-- _law_like: 0=_law_got 1=_law_due -/
def nm29 : List Str := ["_law_got", "_law_due"]
def fk29 : Fk := .code ⟨2, 2, [false, false], (.cons (.ret (.op .eq (.bi .repr (.cons (.var 0) .nil)) (.bi .repr (.cons (.var 1) .nil)))) .nil)⟩
/-- _law_of: 0=_law_m 1=_law_some -/
def nm30 : List Str := ["_law_m", "_law_some"]
def fk30 : Fk := .code ⟨2, 2, [false, false], (.cons (.ret (.idx (.var 1) (.draw (.var 0) (.bi .len (.cons (.var 1) .nil))))) .nil)⟩
/-- _law_is_int: 0=_law_thing 1=_law_low 2=_law_high -/
def nm31 : List Str := ["_law_thing", "_law_low", "_law_high"]
def fk31 : Fk := .begun
/-- _law_made: 0=_law_m 1=_law_many 2=_law_deeds_so 3=_law_items 4=_law_kind 5=_law_split_so 6=_law_near 7=_law_far 8=_law_one 9=_law_other 10=#0 11=#1 -/
def nm32 : List Str := ["_law_m", "_law_many", "_law_deeds_so", "_law_items", "_law_kind", "_law_split_so", "_law_near", "_law_far", "_law_one", "_law_other", "#0", "#1"]
def fk32 : Fk := .code ⟨5, 12, [false, false, true, false, false], (.cons (.ite (.op .eq (.bi .len (.cons (.var 3) .nil)) (.con (.int 1))) (.cons (.ret (.idx (.var 3) (.con (.int 0)))) .nil) .nil) (.cons (.asg (.nm 5) (.ite (.op .eq (.var 4) (.con (.int 0))) (.con (.int 1)) (.op .add (.con (.int 1)) (.draw (.var 0) (.op .sub (.bi .len (.cons (.var 3) .nil)) (.con (.int 1))))))) (.cons (.par [6, 7] 10 (.cons (.sli (.var 3) none (some (.var 5))) (.cons (.sli (.var 3) (some (.var 5)) none) .nil))) (.cons (.ite (.and (.cons (.op .eq (.var 4) (.con (.int 3))) (.cons (.op .gt (.var 5) (.con (.int 1))) (.cons (.op .eq (.draw (.var 0) (.con (.int 2))) (.con (.int 0))) .nil)))) (.cons (.asg (.nm 7) (.sli (.var 3) (some (.op .sub (.var 5) (.con (.int 1)))) none)) .nil) .nil) (.cons (.asg (.nm 8) (.call 32 (.cons (.var 0) (.cons (.var 1) (.cons (.var 2) (.cons (.var 6) (.cons (.var 4) .nil))))))) (.cons (.asg (.nm 9) (.call 32 (.cons (.var 0) (.cons (.var 1) (.cons (.var 2) (.cons (.var 7) (.cons (.var 4) .nil))))))) (.cons (.ite (.and (.cons (.op .gt (.var 4) (.con (.int 1))) (.cons (.op .eq (.draw (.var 0) (.con (.int 2))) (.con (.int 0))) .nil))) (.cons (.par [8, 9] 10 (.cons (.var 9) (.cons (.var 8) .nil))) .nil) .nil) (.cons (.app 2 (.tup (.cons (.var 8) (.cons (.var 9) .nil)))) (.cons (.ret (.op .sub (.op .add (.var 1) (.bi .len (.cons (.var 2) .nil))) (.con (.int 1)))) .nil)))))))))⟩
/-- _law_plan: 0=_law_m 1=_law_many 2=_law_deeds_so 3=_law_outs 4=_law_goals 5=_law_turn 6=_law_first 7=_law_last 8=_law_kind 9=_law_below 10=_law_items 11=#0 12=#1 13=#2 14=#3 -/
def nm33 : List Str := ["_law_m", "_law_many", "_law_deeds_so", "_law_outs", "_law_goals", "_law_turn", "_law_first", "_law_last", "_law_kind", "_law_below", "_law_items", "#0", "#1", "#2", "#3"]
def fk33 : Fk := .code ⟨1, 15, [false], (.cons (.par [1, 2, 3, 4] 11 (.cons (.op .add (.con (.int 1)) (.draw (.var 0) (.con (.int 5)))) (.cons (.lst .nil) (.cons (.lst .nil) (.cons (.lst .nil) .nil))))) (.cons (.for_ (.nm 5) (.rng1 (.op .add (.con (.int 1)) (.draw (.var 0) (.con (.int 4))))) (.cons (.asg (.nm 6) (.draw (.var 0) (.var 1))) (.cons (.asg (.nm 7) (.op .add (.var 6) (.draw (.var 0) (.op .sub (.var 1) (.var 6))))) (.cons (.asg (.nm 8) (.draw (.var 0) (.con (.int 6)))) (.cons (.ite (.op .eq (.var 8) (.con (.int 4))) (.cons (.asg (.nm 9) (.op .add (.var 1) (.bi .len (.cons (.var 2) .nil)))) (.cons (.app 2 (.tup (.cons (.draw (.var 0) (.var 9)) (.cons (.draw (.var 0) (.var 9)) .nil)))) .nil)) .nil) (.cons (.asg (.nm 10) (.conv false (.rng2 (.var 6) (.op .add (.var 7) (.con (.int 1)))))) (.cons (.ite (.op .gt (.var 8) (.con (.int 3))) (.cons (.app 3 (.draw (.var 0) (.op .add (.var 1) (.bi .len (.cons (.var 2) .nil))))) .nil) (.cons (.app 3 (.call 32 (.cons (.var 0) (.cons (.var 1) (.cons (.var 2) (.cons (.var 10) (.cons (.var 8) .nil))))))) .nil)) (.cons (.app 4 (.tup (.cons (.var 6) (.cons (.var 7) .nil)))) .nil)))))))) (.cons (.ret (.tup (.cons (.tup (.cons (.var 1) (.cons (.bi .tuple (.cons (.var 2) .nil)) (.cons (.bi .tuple (.cons (.var 3) .nil)) .nil)))) (.cons (.bi .tuple (.cons (.var 4) .nil)) .nil)))) .nil)))⟩
/-- _law_trees: 0=_law_plan_here 1=_law_found 2=_law_one 3=_law_other -/
def nm34 : List Str := ["_law_plan_here", "_law_found", "_law_one", "_law_other"]
def fk34 : Fk := .code ⟨1, 4, [false], (.cons (.asg (.nm 1) (.conv false (.rng1 (.idx (.var 0) (.con (.int 0)))))) (.cons (.for_ (.tp [(.nm 2), (.nm 3)]) (.seq (.idx (.var 0) (.con (.int 1)))) (.cons (.app 1 (.tup (.cons (.idx (.var 1) (.var 2)) (.cons (.idx (.var 1) (.var 3)) .nil)))) .nil)) (.cons (.retv 1) .nil)))⟩
/-- _law_word: 0=_law_tree -/
def nm35 : List Str := ["_law_tree"]
def fk35 : Fk := .code ⟨1, 1, [false], (.cons (.ret (.ite (.bi .isTuple (.cons (.var 0) .nil)) (.op .add (.call 35 (.cons (.idx (.var 0) (.con (.int 0))) .nil)) (.call 35 (.cons (.idx (.var 0) (.con (.int 1))) .nil))) (.tup (.cons (.var 0) .nil)))) .nil)⟩
/-- _law_free: 0=_law_custom 1=_law_word_here 2=_law_tree 3=_law_item -/
def nm36 : List Str := ["_law_custom", "_law_word_here", "_law_tree", "_law_item"]
def fk36 : Fk := .code ⟨3, 4, [false, false, false], (.cons (.ite (.op .eq (.var 0) (.con (.str ⟨#[110, 111, 110, 101]⟩))) (.cons (.ret (.var 2)) .nil) .nil) (.cons (.ite (.op .eq (.var 0) (.con (.str ⟨#[103, 114, 111, 117, 112]⟩))) (.cons (.ret (.var 1)) .nil) .nil) (.cons (.ite (.op .eq (.var 0) (.con (.str ⟨#[97, 110, 121]⟩))) (.cons (.ret (.bi .tuple (.cons (.bi .sorted (.cons (.var 1) .nil)) .nil))) .nil) .nil) (.cons (.ret (.bi .tuple (.cons (.bi .sorted (.cons (.bi .dict (.cons (.lc [3] (.tup (.cons (.var 3) (.cons (.con (.bl true)) .nil))) (.nm 3) (.seq (.var 1)) .nil) .nil)) .nil)) .nil))) .nil))))⟩
/-- _law_goal_tree: 0=_law_goal 1=_law_found 2=_law_item -/
def nm37 : List Str := ["_law_goal", "_law_found", "_law_item"]
def fk37 : Fk := .code ⟨1, 3, [false], (.cons (.asg (.nm 1) (.idx (.var 0) (.con (.int 1)))) (.cons (.for_ (.nm 2) (.rng3 (.op .sub (.idx (.var 0) (.con (.int 1))) (.con (.int 1))) (.op .sub (.idx (.var 0) (.con (.int 0))) (.con (.int 1))) (.neg (.con (.int 1)))) (.cons (.asg (.nm 1) (.tup (.cons (.var 2) (.cons (.var 1) .nil)))) .nil)) (.cons (.retv 1) .nil)))⟩
/-- _law_first_wrong: 0=_law_custom 1=_law_plan_here 2=_law_goals 3=_law_made_here 4=_law_number 5=_law_value 6=_law_goal 7=_law_due 8=_law_got -/
def nm38 : List Str := ["_law_custom", "_law_plan_here", "_law_goals", "_law_made_here", "_law_number", "_law_value", "_law_goal", "_law_due", "_law_got"]
def fk38 : Fk := .code ⟨3, 9, [false, false, false], (.cons (.asg (.nm 3) (.call 34 (.cons (.var 1) .nil))) (.cons (.for_ (.tp [(.nm 4), (.tp [(.nm 5), (.nm 6)])]) (.enumZip (.idx (.var 1) (.con (.int 2))) (.var 2)) (.cons (.asg (.nm 7) (.call 37 (.cons (.var 6) .nil))) (.cons (.asg (.nm 8) (.call 36 (.cons (.var 0) (.cons (.call 35 (.cons (.idx (.var 3) (.var 5)) .nil)) (.cons (.idx (.var 3) (.var 5)) .nil))))) (.cons (.ite (.op .ne (.var 8) (.call 36 (.cons (.var 0) (.cons (.call 35 (.cons (.var 7) .nil)) (.cons (.var 7) .nil))))) (.cons (.retv 4) .nil) .nil) .nil)))) (.cons (.ret (.ite (.op .eq (.bi .len (.cons (.idx (.var 1) (.con (.int 2))) .nil)) (.bi .len (.cons (.var 2) .nil))) (.con .non) (.bi .min2 (.cons (.bi .len (.cons (.idx (.var 1) (.con (.int 2))) .nil)) (.cons (.bi .len (.cons (.var 2) .nil)) .nil))))) .nil)))⟩
/-- _law_customs: 0=_law_m 1=_law_custom 2=_law_some 3=_law_row 4=_law_name -/
def nm39 : List Str := ["_law_m", "_law_custom", "_law_some", "_law_row", "_law_name"]
def fk39 : Fk := .code ⟨2, 5, [false, false], (.cons (.asg (.nm 2) (.lst (.cons (.con (.str ⟨#[110, 111, 110, 101]⟩)) (.cons (.con (.str ⟨#[103, 114, 111, 117, 112]⟩)) (.cons (.con (.str ⟨#[97, 110, 121]⟩)) (.cons (.con (.str ⟨#[111, 110, 99, 101]⟩)) .nil)))))) (.cons (.asg (.nm 3) (.lc [4] (.tup (.cons (.call 30 (.cons (.var 0) (.cons (.var 2) .nil))) (.cons (.op .eq (.draw (.var 0) (.con (.int 2))) (.con (.int 0))) .nil))) (.nm 4) (.txt (.con (.str ⟨#[102, 103, 104]⟩))) .nil)) (.cons (.ret (.tup (.cons (.idx (.var 3) (.con (.int 0))) (.cons (.tup (.cons (.var 1) (.cons (.op .eq (.draw (.var 0) (.con (.int 2))) (.con (.int 0))) .nil))) (.cons (.idx (.var 3) (.con (.int 2))) .nil))))) .nil)))⟩
/-- _law_right: 0=_law_m 1=_law_plan_here 2=_law_goals 3=_law_made_here 4=_law_value 5=_law_tree 6=_law_custom 7=_law_due 8=_law_customs_so 9=#0 10=#1 -/
def nm40 : List Str := ["_law_m", "_law_plan_here", "_law_goals", "_law_made_here", "_law_value", "_law_tree", "_law_custom", "_law_due", "_law_customs_so", "#0", "#1"]
def fk40 : Fk := .code ⟨3, 11, [false, false, false], (.cons (.asg (.nm 3) (.call 34 (.cons (.var 1) .nil))) (.cons (.ite (.or (.cons (.not (.call 29 (.cons (.call 9 (.cons (.var 1) .nil)) (.cons (.var 1) .nil)))) (.cons (.not (.call 29 (.cons (.call 11 (.cons (.idx (.var 1) (.con (.int 0))) (.cons (.var 2) .nil))) (.cons (.var 2) .nil)))) .nil))) (.cons (.ret (.con (.bl false))) .nil) .nil) (.cons (.for_ (.tp [(.nm 4), (.nm 5)]) (.enum (.var 3)) (.cons (.ite (.or (.cons (.not (.call 29 (.cons (.call 18 (.cons (.var 1) (.cons (.var 4) .nil))) (.cons (.var 5) .nil)))) (.cons (.not (.call 29 (.cons (.call 19 (.cons (.var 1) (.cons (.var 4) .nil))) (.cons (.call 35 (.cons (.var 5) .nil)) .nil)))) .nil))) (.cons (.ret (.con (.bl false))) .nil) .nil) .nil)) (.cons (.for_ (.nm 6) (.seq (.tup (.cons (.con (.str ⟨#[110, 111, 110, 101]⟩)) (.cons (.con (.str ⟨#[103, 114, 111, 117, 112]⟩)) (.cons (.con (.str ⟨#[97, 110, 121]⟩)) (.cons (.con (.str ⟨#[111, 110, 99, 101]⟩)) .nil)))))) (.cons (.par [7, 8] 9 (.cons (.call 38 (.cons (.var 6) (.cons (.var 1) (.cons (.var 2) .nil)))) (.cons (.call 39 (.cons (.var 0) (.cons (.var 6) .nil))) .nil))) (.cons (.ite (.not (.call 29 (.cons (.call 23 (.cons (.var 8) (.cons (.con (.str ⟨#[103]⟩)) (.cons (.var 1) (.cons (.var 2) .nil))))) (.cons (.var 7) .nil)))) (.cons (.ret (.con (.bl false))) .nil) .nil) (.cons (.ite (.not (.call 29 (.cons (.call 24 (.cons (.var 8) (.cons (.con (.str ⟨#[103]⟩)) (.cons (.var 1) (.cons (.var 2) .nil))))) (.cons (.op .is (.var 7) (.con .non)) .nil)))) (.cons (.ret (.con (.bl false))) .nil) .nil) .nil)))) (.cons (.ret (.con (.bl true))) .nil)))))⟩
/-- _law_hand_right: 0=_law_every 1=_law_rows 2=_law_plan_here 3=_law_goal 4=_law_due 5=_law_scan_so 6=_law_goals 7=_law_custom 8=_law_pair -/
def nm41 : List Str := ["_law_every", "_law_rows", "_law_plan_here", "_law_goal", "_law_due", "_law_scan_so", "_law_goals", "_law_custom", "_law_pair"]
def fk41 : Fk := .code ⟨0, 9, [], (.cons (.asg (.nm 0) (.lc [7] (.tup (.cons (.var 7) (.cons (.con (.bl false)) .nil))) (.nm 7) (.seq (.tup (.cons (.con (.str ⟨#[110, 111, 110, 101]⟩)) (.cons (.con (.str ⟨#[103, 114, 111, 117, 112]⟩)) (.cons (.con (.str ⟨#[97, 110, 121]⟩)) (.cons (.con (.str ⟨#[111, 110, 99, 101]⟩)) .nil)))))) .nil)) (.cons (.asg (.nm 1) (.lst (.cons (.tup (.cons (.tup (.cons (.con (.int 3)) (.cons (.tup (.cons (.tup (.cons (.con (.int 1)) (.cons (.con (.int 2)) .nil))) (.cons (.tup (.cons (.con (.int 0)) (.cons (.con (.int 3)) .nil))) .nil))) (.cons (.tup (.cons (.con (.int 4)) .nil)) .nil)))) (.cons (.tup (.cons (.con (.int 0)) (.cons (.con (.int 2)) .nil))) (.cons (.op .mul (.lst (.cons (.con (.bl true)) .nil)) (.con (.int 4))) .nil)))) .nil))) (.cons (.app 1 (.tup (.cons (.tup (.cons (.con (.int 3)) (.cons (.tup (.cons (.tup (.cons (.con (.int 0)) (.cons (.con (.int 1)) .nil))) (.cons (.tup (.cons (.con (.int 3)) (.cons (.con (.int 2)) .nil))) .nil))) (.cons (.tup (.cons (.con (.int 4)) .nil)) .nil)))) (.cons (.tup (.cons (.con (.int 0)) (.cons (.con (.int 2)) .nil))) (.cons (.op .add (.lst (.cons (.con (.bl false)) .nil)) (.op .mul (.lst (.cons (.con (.bl true)) .nil)) (.con (.int 3)))) .nil))))) (.cons (.app 1 (.tup (.cons (.tup (.cons (.con (.int 2)) (.cons (.tup (.cons (.tup (.cons (.con (.int 1)) (.cons (.con (.int 0)) .nil))) .nil)) (.cons (.tup (.cons (.con (.int 2)) .nil)) .nil)))) (.cons (.tup (.cons (.con (.int 0)) (.cons (.con (.int 1)) .nil))) (.cons (.lst (.cons (.con (.bl false)) (.cons (.con (.bl false)) (.cons (.con (.bl true)) (.cons (.con (.bl true)) .nil))))) .nil))))) (.cons (.app 1 (.tup (.cons (.tup (.cons (.con (.int 3)) (.cons (.tup (.cons (.tup (.cons (.con (.int 0)) (.cons (.con (.int 1)) .nil))) (.cons (.tup (.cons (.con (.int 1)) (.cons (.con (.int 2)) .nil))) (.cons (.tup (.cons (.con (.int 3)) (.cons (.con (.int 4)) .nil))) .nil)))) (.cons (.tup (.cons (.con (.int 5)) .nil)) .nil)))) (.cons (.tup (.cons (.con (.int 0)) (.cons (.con (.int 2)) .nil))) (.cons (.lst (.cons (.con (.bl false)) (.cons (.con (.bl false)) (.cons (.con (.bl false)) (.cons (.con (.bl true)) .nil))))) .nil))))) (.cons (.app 1 (.tup (.cons (.tup (.cons (.con (.int 2)) (.cons (.tup .nil) (.cons (.tup (.cons (.con (.int 1)) .nil)) .nil)))) (.cons (.tup (.cons (.con (.int 0)) (.cons (.con (.int 1)) .nil))) (.cons (.op .mul (.lst (.cons (.con (.bl false)) .nil)) (.con (.int 4))) .nil))))) (.cons (.app 1 (.tup (.cons (.tup (.cons (.con (.int 2)) (.cons (.tup (.cons (.tup (.cons (.con (.int 1)) (.cons (.con (.int 1)) .nil))) .nil)) (.cons (.tup (.cons (.con (.int 2)) .nil)) .nil)))) (.cons (.tup (.cons (.con (.int 0)) (.cons (.con (.int 1)) .nil))) (.cons (.op .mul (.lst (.cons (.con (.bl false)) .nil)) (.con (.int 4))) .nil))))) (.cons (.for_ (.tp [(.nm 2), (.nm 3), (.nm 4)]) (.seq (.var 1)) (.cons (.ite (.op .ne (.lc [8] (.call 24 (.cons (.tup (.cons (.var 8) (.cons (.var 8) (.cons (.var 8) .nil)))) (.cons (.con (.str ⟨#[102]⟩)) (.cons (.var 2) (.cons (.tup (.cons (.var 3) .nil)) .nil))))) (.nm 8) (.seq (.var 0)) .nil) (.var 4)) (.cons (.ret (.con (.bl false))) .nil) .nil) .nil)) (.cons (.asg (.nm 5) (.tup (.cons (.con (.int 4)) (.cons (.tup (.cons (.tup (.cons (.con (.int 0)) (.cons (.con (.int 1)) .nil))) (.cons (.tup (.cons (.con (.int 2)) (.cons (.con (.int 3)) .nil))) (.cons (.tup (.cons (.con (.int 4)) (.cons (.con (.int 2)) .nil))) (.cons (.tup (.cons (.con (.int 4)) (.cons (.con (.int 5)) .nil))) .nil))))) (.cons (.tup (.cons (.con (.int 0)) (.cons (.con (.int 4)) (.cons (.con (.int 6)) (.cons (.con (.int 7)) .nil))))) .nil))))) (.cons (.asg (.nm 6) (.tup (.cons (.tup (.cons (.con (.int 0)) (.cons (.con (.int 0)) .nil))) (.cons (.tup (.cons (.con (.int 0)) (.cons (.con (.int 1)) .nil))) (.cons (.tup (.cons (.con (.int 0)) (.cons (.con (.int 2)) .nil))) (.cons (.tup (.cons (.con (.int 0)) (.cons (.con (.int 3)) .nil))) .nil)))))) (.cons (.ite (.op .isnot (.call 23 (.cons (.op .mul (.tup (.cons (.idx (.var 0) (.con (.int 1))) .nil)) (.con (.int 3))) (.cons (.con (.str ⟨#[104]⟩)) (.cons (.var 5) (.cons (.var 6) .nil))))) (.con .non)) (.cons (.ret (.con (.bl false))) .nil) .nil) (.cons (.ite (.op .ne (.call 23 (.cons (.op .mul (.tup (.cons (.idx (.var 0) (.con (.int 0))) .nil)) (.con (.int 3))) (.cons (.con (.str ⟨#[104]⟩)) (.cons (.var 5) (.cons (.var 6) .nil))))) (.con (.int 2))) (.cons (.ret (.con (.bl false))) .nil) .nil) (.cons (.ite (.op .ne (.call 23 (.cons (.op .mul (.tup (.cons (.idx (.var 0) (.con (.int 2))) .nil)) (.con (.int 3))) (.cons (.con (.str ⟨#[102]⟩)) (.cons (.var 5) (.cons (.tup .nil) .nil))))) (.con (.int 0))) (.cons (.ret (.con (.bl false))) .nil) .nil) (.cons (.ite (.op .ne (.call 23 (.cons (.op .mul (.tup (.cons (.idx (.var 0) (.con (.int 2))) .nil)) (.con (.int 3))) (.cons (.con (.str ⟨#[102]⟩)) (.cons (.tup (.cons (.con (.int 2)) (.cons (.tup .nil) (.cons (.tup (.cons (.con (.int 1)) .nil)) .nil)))) (.cons (.tup (.cons (.tup (.cons (.con (.int 0)) (.cons (.con (.int 0)) .nil))) (.cons (.tup (.cons (.con (.int 0)) (.cons (.con (.int 1)) .nil))) .nil))) .nil))))) (.con (.int 0))) (.cons (.ret (.con (.bl false))) .nil) .nil) (.cons (.ret (.and (.cons (.op .eq (.call 18 (.cons (.var 5) (.cons (.con (.int 7)) .nil))) (.tup (.cons (.tup (.cons (.con (.int 0)) (.cons (.con (.int 1)) .nil))) (.cons (.tup (.cons (.con (.int 2)) (.cons (.con (.int 3)) .nil))) .nil)))) (.cons (.op .eq (.call 19 (.cons (.var 5) (.cons (.con (.int 6)) .nil))) (.tup (.cons (.con (.int 0)) (.cons (.con (.int 1)) (.cons (.con (.int 2)) .nil))))) .nil)))) .nil)))))))))))))))⟩
/-- law: 0=_law_script 1=_law_m 2=_law_turn 3=_law_plan_here 4=_law_goals 5=_law_way -/
def nm42 : List Str := ["_law_script", "_law_m", "_law_turn", "_law_plan_here", "_law_goals", "_law_way"]
def fk42 : Fk := .begun
def lw : Lw := ⟨6, .nil, 1, (.cons (.for_ (.nm 2) (.rng1 (.op .add (.con (.int 2)) (.bi .min2 (.cons (.bi .len (.cons (.var 0) .nil)) (.cons (.con (.int 2)) .nil))))) (.cons (.asg (.tp [(.nm 3), (.nm 4)]) (.call 33 (.cons (.var 1) .nil))) (.cons (.asg (.nm 5) (.draw (.var 1) (.con (.int 5)))) (.cons (.ite (.op .eq (.var 5) (.con (.int 0))) (.cons (.asg (.nm 4) (.sli (.var 4) none (some (.neg (.con (.int 1)))))) .nil) .nil) (.cons (.ite (.op .eq (.var 5) (.con (.int 1))) (.cons (.asg (.nm 3) (.tup (.cons (.idx (.var 3) (.con (.int 0))) (.cons (.idx (.var 3) (.con (.int 1))) (.cons (.sli (.idx (.var 3) (.con (.int 2))) none (some (.neg (.con (.int 1))))) .nil))))) .nil) .nil) (.cons (.ite (.not (.call 40 (.cons (.var 1) (.cons (.var 3) (.cons (.var 4) .nil))))) (.cons (.ret (.con (.bl false))) .nil) .nil) .nil)))))) (.cons (.ret (.call 41 .nil)) .nil))⟩
def lwAt : Nat := 0
def fks : List Fk := [fk0, fk1, fk2, fk3, fk4, fk5, fk6, fk7, fk8, fk9, fk10, fk11, fk12, fk13, fk14, fk15, fk16, fk17, fk18, fk19, fk20, fk21, fk22, fk23, fk24, fk25, fk26, fk27, fk28, fk29, fk30, fk31, fk32, fk33, fk34, fk35, fk36, fk37, fk38, fk39, fk40, fk41, fk42]
def csL : List (Str × W) := [("NAMES_OF_TWO", (.tup [(.str ⟨#[102]⟩), (.str ⟨#[103]⟩), (.str ⟨#[104]⟩)])), ("CUSTOM_WORDS", (.tup [(.str ⟨#[110, 111, 110, 101]⟩), (.str ⟨#[103, 114, 111, 117, 112]⟩), (.str ⟨#[97, 110, 121]⟩), (.str ⟨#[111, 110, 99, 101]⟩)])), ("MOST_OUTS", (.int 60)), ("MOST_DEEDS", (.int 400)), ("MOST_ITEMS", (.int 60)), ("MOST_WORD", (.int 2000))]
def cn (k : Nat) : W := match nth csL k with
  | some p => p.2
  | none => .non
def fnmL : List Str := (["is_tuple_of", "is_name_of_two", "is_habit", "need_customs", "habit_in", "need_habit", "custom_of", "is_from_to", "is_pair_under", "need_plan_of_deeds", "need_many", "need_goals", "need_value", "word_sizes", "values_needed", "need_short", "tree_in", "word_in", "plan_tree", "plan_word"] : List Str) ++ (["lots_of_items", "is_from_right", "does_make", "first_wrong_goal", "is_right_plan", "_law_mixed", "_law_folded", "_law_draw", "_law_begun", "_law_like", "_law_of", "_law_is_int", "_law_made", "_law_plan", "_law_trees", "_law_word", "_law_free", "_law_goal_tree", "_law_first_wrong", "_law_customs"] : List Str) ++ (["_law_right", "_law_hand_right", "law"] : List Str)
def cnmL : List Str := csL.map (·.1)
def tb : Tb := ⟨fnmL, cnmL⟩
end Ov
namespace Ov
open PySem PySem.Spec L2 Ev
set_option autoImplicit false
def tops : List Stmt := PySem.Challenge.pw_openverbs_k56_whole_plans_right_by_words.main.body
def topAt (i : Nat) : Stmt := tops.getD i (.Pass ⟨0, 0, 0, 0⟩)
abbrev st0 : Stmt := topAt 8
def rw0 : Rw := ⟨⟨("is_tuple_of", none), "is_tuple_of", "is_tuple_of", defArgs st0, defBody st0, defScope st0, [], []⟩, nm0⟩
abbrev st1 : Stmt := topAt 12
def rw1 : Rw := ⟨⟨("is_name_of_two", none), "is_name_of_two", "is_name_of_two", defArgs st1, defBody st1, defScope st1, [], []⟩, nm1⟩
abbrev st2 : Stmt := topAt 13
def rw2 : Rw := ⟨⟨("is_habit", none), "is_habit", "is_habit", defArgs st2, defBody st2, defScope st2, [], []⟩, nm2⟩
abbrev st3 : Stmt := topAt 14
def rw3 : Rw := ⟨⟨("need_customs", none), "need_customs", "need_customs", defArgs st3, defBody st3, defScope st3, [], []⟩, nm3⟩
abbrev st4 : Stmt := topAt 15
def rw4 : Rw := ⟨⟨("habit_in", none), "habit_in", "habit_in", defArgs st4, defBody st4, defScope st4, [], []⟩, nm4⟩
abbrev st5 : Stmt := topAt 16
def rw5 : Rw := ⟨⟨("need_habit", none), "need_habit", "need_habit", defArgs st5, defBody st5, defScope st5, [], []⟩, nm5⟩
abbrev st6 : Stmt := topAt 17
def rw6 : Rw := ⟨⟨("custom_of", none), "custom_of", "custom_of", defArgs st6, defBody st6, defScope st6, [], []⟩, nm6⟩
abbrev st7 : Stmt := topAt 23
def rw7 : Rw := ⟨⟨("is_from_to", none), "is_from_to", "is_from_to", defArgs st7, defBody st7, defScope st7, [], []⟩, nm7⟩
abbrev st8 : Stmt := topAt 24
def rw8 : Rw := ⟨⟨("is_pair_under", none), "is_pair_under", "is_pair_under", defArgs st8, defBody st8, defScope st8, [], []⟩, nm8⟩
abbrev st9 : Stmt := topAt 25
def rw9 : Rw := ⟨⟨("need_plan_of_deeds", none), "need_plan_of_deeds", "need_plan_of_deeds", defArgs st9, defBody st9, defScope st9, [], []⟩, nm9⟩
abbrev st10 : Stmt := topAt 26
def rw10 : Rw := ⟨⟨("need_many", none), "need_many", "need_many", defArgs st10, defBody st10, defScope st10, [], []⟩, nm10⟩
abbrev st11 : Stmt := topAt 27
def rw11 : Rw := ⟨⟨("need_goals", none), "need_goals", "need_goals", defArgs st11, defBody st11, defScope st11, [], []⟩, nm11⟩
abbrev st12 : Stmt := topAt 28
def rw12 : Rw := ⟨⟨("need_value", none), "need_value", "need_value", defArgs st12, defBody st12, defScope st12, [], []⟩, nm12⟩
abbrev st13 : Stmt := topAt 29
def rw13 : Rw := ⟨⟨("word_sizes", none), "word_sizes", "word_sizes", defArgs st13, defBody st13, defScope st13, [], []⟩, nm13⟩
abbrev st14 : Stmt := topAt 30
def rw14 : Rw := ⟨⟨("values_needed", none), "values_needed", "values_needed", defArgs st14, defBody st14, defScope st14, [], []⟩, nm14⟩
abbrev st15 : Stmt := topAt 31
def rw15 : Rw := ⟨⟨("need_short", none), "need_short", "need_short", defArgs st15, defBody st15, defScope st15, [], []⟩, nm15⟩
abbrev st16 : Stmt := topAt 32
def rw16 : Rw := ⟨⟨("tree_in", none), "tree_in", "tree_in", defArgs st16, defBody st16, defScope st16, [], []⟩, nm16⟩
abbrev st17 : Stmt := topAt 33
def rw17 : Rw := ⟨⟨("word_in", none), "word_in", "word_in", defArgs st17, defBody st17, defScope st17, [], []⟩, nm17⟩
abbrev st18 : Stmt := topAt 34
def rw18 : Rw := ⟨⟨("plan_tree", none), "plan_tree", "plan_tree", defArgs st18, defBody st18, defScope st18, [], []⟩, nm18⟩
abbrev st19 : Stmt := topAt 35
def rw19 : Rw := ⟨⟨("plan_word", none), "plan_word", "plan_word", defArgs st19, defBody st19, defScope st19, [], []⟩, nm19⟩
abbrev st20 : Stmt := topAt 36
def rw20 : Rw := ⟨⟨("lots_of_items", none), "lots_of_items", "lots_of_items", defArgs st20, defBody st20, defScope st20, [], []⟩, nm20⟩
abbrev st21 : Stmt := topAt 37
def rw21 : Rw := ⟨⟨("is_from_right", none), "is_from_right", "is_from_right", defArgs st21, defBody st21, defScope st21, [], []⟩, nm21⟩
abbrev st22 : Stmt := topAt 38
def rw22 : Rw := ⟨⟨("does_make", none), "does_make", "does_make", defArgs st22, defBody st22, defScope st22, [], []⟩, nm22⟩
abbrev st23 : Stmt := topAt 39
def rw23 : Rw := ⟨⟨("first_wrong_goal", none), "first_wrong_goal", "first_wrong_goal", defArgs st23, defBody st23, defScope st23, [], []⟩, nm23⟩
abbrev st24 : Stmt := topAt 40
def rw24 : Rw := ⟨⟨("is_right_plan", none), "is_right_plan", "is_right_plan", defArgs st24, defBody st24, defScope st24, [], []⟩, nm24⟩
abbrev st25 : Stmt := topAt 42
def rw25 : Rw := ⟨⟨("_law_mixed", none), "_law_mixed", "_law_mixed", defArgs st25, defBody st25, defScope st25, [], []⟩, nm25⟩
abbrev st26 : Stmt := topAt 43
def rw26 : Rw := ⟨⟨("_law_folded", none), "_law_folded", "_law_folded", defArgs st26, defBody st26, defScope st26, [], []⟩, nm26⟩
abbrev st27 : Stmt := topAt 44
def rw27 : Rw := ⟨⟨("_law_draw", none), "_law_draw", "_law_draw", defArgs st27, defBody st27, defScope st27, [], []⟩, nm27⟩
abbrev st28 : Stmt := topAt 45
def rw28 : Rw := ⟨⟨("_law_begun", none), "_law_begun", "_law_begun", defArgs st28, defBody st28, defScope st28, [], []⟩, nm28⟩
abbrev st29 : Stmt := topAt 46
def rw29 : Rw := ⟨⟨("_law_like", none), "_law_like", "_law_like", defArgs st29, defBody st29, defScope st29, [], []⟩, nm29⟩
abbrev st30 : Stmt := topAt 47
def rw30 : Rw := ⟨⟨("_law_of", none), "_law_of", "_law_of", defArgs st30, defBody st30, defScope st30, [], []⟩, nm30⟩
abbrev st31 : Stmt := topAt 48
def rw31 : Rw := ⟨⟨("_law_is_int", none), "_law_is_int", "_law_is_int", defArgs st31, defBody st31, defScope st31, [], []⟩, nm31⟩
abbrev st32 : Stmt := topAt 49
def rw32 : Rw := ⟨⟨("_law_made", none), "_law_made", "_law_made", defArgs st32, defBody st32, defScope st32, [], []⟩, nm32⟩
abbrev st33 : Stmt := topAt 50
def rw33 : Rw := ⟨⟨("_law_plan", none), "_law_plan", "_law_plan", defArgs st33, defBody st33, defScope st33, [], []⟩, nm33⟩
abbrev st34 : Stmt := topAt 51
def rw34 : Rw := ⟨⟨("_law_trees", none), "_law_trees", "_law_trees", defArgs st34, defBody st34, defScope st34, [], []⟩, nm34⟩
abbrev st35 : Stmt := topAt 52
def rw35 : Rw := ⟨⟨("_law_word", none), "_law_word", "_law_word", defArgs st35, defBody st35, defScope st35, [], []⟩, nm35⟩
abbrev st36 : Stmt := topAt 53
def rw36 : Rw := ⟨⟨("_law_free", none), "_law_free", "_law_free", defArgs st36, defBody st36, defScope st36, [], []⟩, nm36⟩
abbrev st37 : Stmt := topAt 54
def rw37 : Rw := ⟨⟨("_law_goal_tree", none), "_law_goal_tree", "_law_goal_tree", defArgs st37, defBody st37, defScope st37, [], []⟩, nm37⟩
abbrev st38 : Stmt := topAt 55
def rw38 : Rw := ⟨⟨("_law_first_wrong", none), "_law_first_wrong", "_law_first_wrong", defArgs st38, defBody st38, defScope st38, [], []⟩, nm38⟩
abbrev st39 : Stmt := topAt 56
def rw39 : Rw := ⟨⟨("_law_customs", none), "_law_customs", "_law_customs", defArgs st39, defBody st39, defScope st39, [], []⟩, nm39⟩
abbrev st40 : Stmt := topAt 57
def rw40 : Rw := ⟨⟨("_law_right", none), "_law_right", "_law_right", defArgs st40, defBody st40, defScope st40, [], []⟩, nm40⟩
abbrev st41 : Stmt := topAt 58
def rw41 : Rw := ⟨⟨("_law_hand_right", none), "_law_hand_right", "_law_hand_right", defArgs st41, defBody st41, defScope st41, [], []⟩, nm41⟩
abbrev st42 : Stmt := topAt 59
def rw42 : Rw := ⟨⟨("law", none), "law", "law", defArgs st42, defBody st42, defScope st42, [], []⟩, nm42⟩
def rows0 : List Rw := [rw0, rw1, rw2, rw3, rw4, rw5, rw6, rw7, rw8, rw9, rw10, rw11, rw12, rw13, rw14, rw15, rw16, rw17, rw18, rw19, rw20, rw21, rw22, rw23, rw24, rw25, rw26, rw27, rw28, rw29]
def rows1 : List Rw := [rw30, rw31, rw32, rw33, rw34, rw35, rw36, rw37, rw38, rw39, rw40, rw41, rw42]
def rows : List Rw := rows0 ++ rows1
def loose0 : List Str := ["VerbError", "BadCustoms", "BadNumber", "TooGreat", "BadPlan", "BadName", "is_tuple_of", "NAMES_OF_TWO", "CUSTOM_WORDS", "is_name_of_two", "is_habit", "need_customs", "habit_in", "need_habit", "custom_of", "MOST_ITEMS", "MOST_DEEDS", "MOST_OUTS", "MOST_WORD", "is_from_to", "is_pair_under", "need_plan_of_deeds", "need_many", "need_goals", "need_value", "word_sizes", "values_needed", "need_short", "tree_in", "word_in"]
def loose1 : List Str := ["plan_tree", "plan_word", "lots_of_items", "is_from_right", "does_make", "first_wrong_goal", "is_right_plan", "_law_mixed", "_law_folded", "_law_draw", "_law_begun", "_law_like", "_law_of", "_law_is_int", "_law_made", "_law_plan", "_law_trees", "_law_word", "_law_free", "_law_goal_tree", "_law_first_wrong", "_law_customs", "_law_right", "_law_hand_right"]
def looseAll : List Str := loose0 ++ loose1
theorem rows_ok : rowsB tb fks rows tb.fnm = true := by decide +kernel
abbrev RR : PySem.W.OpenRow := PySem.W.OpenLaw.row PySem.Challenge.rw_openverbs_k56_whole_plans_right_by_words
abbrev hk : PySem.W.Hook := hookX 5 (faOf tb.fnm) (rows.map Rw.d) csL
def ob (s : PySem.W.SharedT) : AlX := obsXG 5 (faOf tb.fnm) (rows.map Rw.d) csL (HandSHeadRun.getT s)
theorem ob_eq (s : PySem.W.SharedT) : ob s = hk.obs s.abs := obsXG_eq (HandSHeadRun.getT_eq s)
set_option maxHeartbeats 0 in
theorem runTop (w : World) : HandSHeadRun.RunEq RR (PySem.W.view RR.prog [59]) hk ob 30000 looseAll w := by
  intro os
  kernel_rfl
end Ov
noncomputable section
namespace Ov
open PySem L2 Ev
set_option autoImplicit false
/-! ### Mix -/
def blend (c n : Int) : Int := (c * (1 + 2 * n) * 48271) % 2147483647 + 7919 * n * n + 104729 * n
def mixed (c n : Int) : Int := (blend c n * 69621) % 2147483629 / 7
section
variable {P : Program} {w : World} {K : PySem.W.Frag} {mg : Str → Option Value} {base : Heap} {a : Addr} {fd : FuncData}
def spMixed (vs : List V) (H : Hp) (Q : VK) : Prop := ∃ c n : Int, vs = [.int c, .int n] ∧ 0 ≤ n ∧ n < 2 ^ 62 ∧ Q (.int (mixed c n)) H
theorem sc25 : FnScope nm25 ["_law_cell", "_law_n"] (defScope st25) := ⟨rfl, rfl, rfl, by decide +kernel, rfl, by decide +kernel, by decide +kernel⟩
theorem ok_mixed (F : FunD K "_law_mixed" "_law_mixed" (defArgs st25) (defBody st25) (defScope st25) [] [] a fd) (gi : mg "int" = none) : FnG P w K mg base 1 a fd ["_law_cell", "_law_n"] spMixed := by
  refine FnG.of F sc25 (fun vs H Q ⟨c, n, e, _⟩ => by rw [e]; rfl) fun cdv A outer s H vs Q room gu ⟨c, n, ev, n0, n1, hQ⟩ => ?_
  subst ev
  have pInt : ∀ {e : Expr} {te : TE} {p pos : Pos}, PE (cxOf NX P w K mg base nm25 "_law_mixed" (defScope st25) a cdv A outer s H NE).nox e te → starB e = false → PE (cxOf NX P w K mg base nm25 "_law_mixed" (defScope st25) a cdv A outer s H NE).nox (.Call (.Name "int" p) [e] [] pos) _ := fun {e te p pos} h hs => pe_callTy call_int1 rfl gi PyProof.Rows.boot_int (pa_cons h pa_nil (star_cons hs)) (by decide +kernel) (by decide +kernel) (star_cons hs) rfl
  refine of_pss (pss_cons (ps_set (i := 2) sc25.nd rfl (.inl rfl) (pe_op op_add (pe_op op_add (pe_op op_mod (pInt (pe_op op_mul (pe_op op_mul (pv 0) (pe_op op_add pe_int (pe_op op_mul pe_int (pv 1)))) pe_int) rfl) pe_int) (pe_op op_mul (pe_op op_mul pe_int (pv 1)) (pv 1))) (pe_op op_mul pe_int (pv 1)))) (pss_one (ps_ret (pe_op op_fdiv (pe_op op_mod (pInt (pe_op op_mul (pv 2) pe_int) rfl) pe_int) pe_int)))) ?_
  have m1 : CMul c (1 + 2 * n) := .inr ⟨by omega, by omega⟩
  have mr : ∀ x k : Int, -(2 ^ 64) < k → k < 2 ^ 64 → CMul x k := fun x k h1 h2 => .inr ⟨h1, h2⟩
  refine ⟨.int c, rfl, .int n, rfl, 2, n, rfl, rfl, mr _ _ (by omega) (by omega), 1, 2 * n, rfl, rfl, c, 1 + 2 * n, rfl, rfl, m1, _, 48271, rfl, rfl, mr _ _ (by decide) (by decide), .inl ⟨_, rfl, _, _, rfl, rfl, (by decide : (0 : Int) < 2147483647), ?_⟩⟩
  refine ⟨.int n, rfl, 7919, n, rfl, rfl, mr _ _ (by omega) (by omega), .int n, rfl, _, n, rfl, rfl, mr _ _ (by omega) (by omega), _, _, rfl, rfl, ?_⟩
  refine ⟨.int n, rfl, 104729, n, rfl, rfl, mr _ _ (by omega) (by omega), _, _, rfl, rfl, ?_⟩
  exact ⟨_, rfl, _, _, rfl, rfl, mr _ _ (by decide) (by decide), .inl ⟨_, rfl, _, _, rfl, rfl, (by decide : (0 : Int) < 2147483629), _, _, rfl, rfl, ⟨by decide, by decide⟩, hQ⟩⟩
theorem mixed_lo (c n : Int) : 0 ≤ mixed c n ∧ mixed c n < 2147483647 := by
  unfold mixed
  have h1 := Int.emod_nonneg (blend c n * 69621) (show (2147483629 : Int) ≠ 0 by decide)
  have h2 := Int.emod_lt_of_pos (blend c n * 69621) (show (0 : Int) < 2147483629 by decide)
  omega
end
/-! ### Draw -/
theorem toDs_ints : ∀ xs : List Int, toDs (xs.map W.int) = some (xs.map PyData.int)
  | [] => rfl
  | x :: xs => by
    rw [List.map_cons, List.map_cons]
    unfold toDs
    rw [toDs_ints xs]
    rfl
theorem can_ints : ∀ xs : List Int, PyData.canLayAll0 (xs.map PyData.int) = true
  | [] => rfl
  | x :: xs => by
    rw [List.map_cons]
    unfold PyData.canLayAll0
    rw [can_ints xs]
    rfl
theorem dep_ints : ∀ xs : List Int, PyData.depthAll (xs.map PyData.int) ≤ 1
  | [] => by decide
  | x :: xs => by
    have h := dep_ints xs
    rw [List.map_cons]
    unfold PyData.depthAll
    have h2 : (PyData.int x).depth ≤ 1 := by
      unfold PyData.depth
      decide
    exact Nat.max_le.mpr ⟨h2, h⟩
theorem shaped_ints (xs : List Int) : SeqAt.shaped (.list (xs.map PyData.int)) = true := by
  unfold SeqAt.shaped
  rw [Bool.and_eq_true]
  refine ⟨can_ints xs, decide_eq_true ?_⟩
  have := dep_ints xs
  show PyData.depth _ ≤ 64
  unfold PyData.depth
  omega
theorem pe_G {X : Cx} {k : Nat} {a : Addr} {fd : FuncData} {ps : List Str} {sp : List V → Hp → VK → Prop} {x : Str} {p pos : Pos} {e : Expr} {es : List Expr} {t : TA} (F : FnG X.prog X.w X.K X.mg X.base k a fd ps sp) (room : Room k X.A) (gu : X.A.guards = some []) (bd : Binds X.K fd ps [])
    (hg : Gl X x) (hm : X.mg x = some (.ref a)) (hk : PySem.W.keepIn X.K (.ref a) = true) (hd : (x == ("__debug__" : Str)) = false) (hs : (e :: es).all (fun e => !starB e) = true) (ha : PA X (e :: es) t) : PE X (.Call (.Name x p) (e :: es) [] pos) (tCB sp t) :=
  ⟨fun pins s σ H Q I h => w_callF hg hm hk hd hs (tWA.mono (of_pa ha h) fun vs H1 q => F.call room gu bd q) pins s I⟩
section
variable {P : Program} {w : World} {K : PySem.W.Frag} {mg : Str → Option Value} {base : Heap} {a aM : Addr} {fd fdM : FuncData}
theorem sc27 : FnScope nm27 ["_law_m", "_law_limit"] (defScope st27) := ⟨rfl, rfl, rfl, by decide +kernel, rfl, by decide +kernel, by decide +kernel⟩
abbrev stOf (m c l : Addr) (k : Int) : List (Key × V) := [(Sum.inr sCells, .ref c), (Sum.inr sGreat, .ref l), (Sum.inr sSpot, .int k)]
structure DrawAt (m c l : Addr) (cs gs : List Int) (k : Int) (H : Hp) : Prop where
  hm : H m = some (.dK (stOf m c l k))
  hc : H c = some (.lst (cs.map V.int))
  hl : H l = some (.lst (gs.map V.int))
  lc : cs.length = 64
  lg : gs.length ≤ 63
  g0 : ∀ x ∈ gs, 0 ≤ x
  c0 : ∀ x ∈ cs, 0 ≤ x ∧ x < 2147483647
  k0 : 0 ≤ k
  k1 : k < 2 ^ 40
def spDraw (vs : List V) (H : Hp) (Q : VK) : Prop := ∃ (m c l : Addr) (cs gs : List Int) (k lim : Int), vs = [.ref m, .int lim] ∧ DrawAt m c l cs gs k H ∧ m ≠ c ∧ m ≠ l ∧ c ≠ l ∧ 0 < lim ∧ lim < 1073741824 ∧
  ∀ (d : Int) (gs' : List Int) (H' : Hp), 0 ≤ d → d < lim → gs'.length = gs.length → (∀ x ∈ gs', (0 : Int) ≤ x) → (∀ (p : Addr) o, p ≠ m → p ≠ l → H p = some o → H' p = some o) → H' m = some (.dK (stOf m c l (k + 1))) → H' l = some (.lst (gs'.map V.int)) → Q (.int d) H'
theorem ok_draw (F : FunD K "_law_draw" "_law_draw" (defArgs st27) (defBody st27) (defScope st27) [] [] a fd) (FM : FunD K "_law_mixed" "_law_mixed" (defArgs st25) (defBody st25) (defScope st25) [] [] aM fdM) (gi : mg "int" = none) (gl : mg "len" = none) (gM : mg "_law_mixed" = some (.ref aM)) : FnG P w K mg base 2 a fd ["_law_m", "_law_limit"] spDraw := by
  have GM : FnG P w K mg base 1 aM fdM ["_law_cell", "_law_n"] spMixed := ok_mixed FM gi
  have bM : Binds K fdM ["_law_cell", "_law_n"] [] := FM.bindsN fun _ _ _ _ _ _ us hl => match us, hl with | [_, _], _ => rfl
  refine FnG.of F sc27 (fun vs H Q ⟨m, c, l, cs, gs, k, lim, e, _⟩ => by rw [e]; rfl) fun cdv A outer s H vs Q room gu ⟨m, c, l, cs, gs, k, lim, ev, D, h1, h2, h3, l0, l1, hQ⟩ => ?_
  subst ev
  have hu : (cxOf NX P w K mg base nm27 "_law_draw" (defScope st27) a cdv A outer s H NE).nox.A.units + 1 < cLine := by
    have := room.un
    show (A.deeper _).units + 1 < cLine
    omega
  have pInt : ∀ {e : Expr} {te : TE} {p pos : Pos}, PE (cxOf NX P w K mg base nm27 "_law_draw" (defScope st27) a cdv A outer s H NE).nox e te → starB e = false → PE (cxOf NX P w K mg base nm27 "_law_draw" (defScope st27) a cdv A outer s H NE).nox (.Call (.Name "int" p) [e] [] pos) _ := fun {e te p pos} h hs => pe_callTy call_int1 rfl gi PyProof.Rows.boot_int (pa_cons h pa_nil (star_cons hs)) (by decide +kernel) (by decide +kernel) (star_cons hs) rfl
  refine of_pss (pss_cons (ps_set (i := 2) sc27.nd rfl (.inl rfl) (pe_dget hu (pv 0) pe_str fun _ _ => rfl)) (pss_cons (ps_dput hu (pv 0) pe_str (pe_op op_add (pv 2) pe_int) rfl) pss_w)) ?_
  refine ⟨.ref m, rfl, m, .int k, rfl, DGet.k (k := Sum.inr sSpot) D.hm, ?_⟩
  refine ⟨.int k, rfl, k, 1, rfl, rfl, .ref m, rfl, m, _, rfl, DPut.k (k := Sum.inr sSpot) D.hm (show 3 < sizeLine by decide), ?_⟩
  have eput : L2.putK (stOf m c l k) (Sum.inr sSpot) (.int (k + 1)) = stOf m c l (k + 1) := by rfl
  rw [eput]
  have hu64 : (cxOf NX P w K mg base nm27 "_law_draw" (defScope st27) a cdv A outer s H NE).nox.A.units + 64 < cLine := by
    have := room.un
    show (A.deeper _).units + 64 < cLine
    omega
  have PM : ∀ {e1 e2 : Expr} {t1 t2 : TE} {p pos : Pos}, PE (cxOf NX P w K mg base nm27 "_law_draw" (defScope st27) a cdv A outer s H NE).nox e1 t1 → PE (cxOf NX P w K mg base nm27 "_law_draw" (defScope st27) a cdv A outer s H NE).nox e2 t2 → starB e1 = false → starB e2 = false → PE (cxOf NX P w K mg base nm27 "_law_draw" (defScope st27) a cdv A outer s H NE).nox (.Call (.Name "_law_mixed" p) [e1, e2] [] pos) (tCB spMixed (tCons t1 (tCons t2 tNil))) := fun {e1 e2 t1 t2 p pos} q1 q2 s1 s2 => pe_G GM room gu bM rfl gM FM.kp (by decide +kernel) (by rw [List.all_cons, List.all_cons, s1, s2]; rfl) (pa_cons q1 (pa_cons q2 pa_nil (star_cons s2)) (star_cons s1))
  have tail : PSs (cxOf NX P w K mg base nm27 "_law_draw" (defScope st27) a cdv A outer s H NE).nox ((defBody st27).drop 3) _ := pss_cons (ps_set (i := 3) sc27.nd rfl (.inl rfl) (pe_dget hu (pv 0) pe_str fun _ _ => rfl)) (pss_one (ps_ret (pe_op op_mod (pInt (PM (PM (pe_op op_add (pe_ix ix_list (pv 3) (pe_op op_mod (pInt (pv 2) rfl) pe_int) fun _ _ => rfl) (pe_op op_mul pe_int (pe_op op_fdiv (pv 2) pe_int))) (pv 2) rfl rfl) (pe_op op_add (pv 2) pe_int) rfl rfl) rfl) (pv 1))))
  refine of_pss (pss_cons (ps_if (pt_cmpR (op_neD hu64) (pe_dget hu (pv 0) pe_str fun _ _ => rfl) (pe_lst pa_nil) (nomark _)) (pss_cons (ps_set (i := 3) sc27.nd rfl (.inl rfl) (pe_dget hu (pv 0) pe_str fun _ _ => rfl)) (pss_cons (ps_set (i := 4) sc27.nd rfl (.inl rfl) (pe_op op_mod (pInt (pv 2) rfl) (pe_callB call_len rfl gl PySem.boot_len (pa_cons (pv 3) pa_nil)))) (pss_cons (ps_set (i := 5) sc27.nd rfl (.inl rfl) (pe_ix ix_list (pv 3) (pv 4) fun _ _ => rfl)) (pss_one (ps_if (pt_cmpR op_gt (pv 5) pe_int (nomark _)) (pss_cons (ps_asg (pe_op op_fdiv (pv 5) (pv 1)) (pg_sub (pv 3) (pv 4) set_list)) (pss_one (ps_ret (pe_op op_mod (pInt (pv 5) rfl) (pv 1))))) pss_nil))))) pss_nil) pss_w) ?_
  have hm1 : (upd H m (.dK (stOf m c l (k + 1)))) m = some (.dK (stOf m c l (k + 1))) := upd_same
  refine ⟨.ref m, rfl, m, .ref l, rfl, DGet.k (k := Sum.inr sGreat) hm1, by decide, fun p hp => ?_⟩
  have hlm : l ≠ m := Ne.symm h2
  have hcm : c ≠ m := Ne.symm h1
  have oth : ∀ (q : Addr) o, q ≠ m → H q = some o → upd (upd H m (.dK (stOf m c l (k + 1)))) p (.lst []) q = some o := fun q o hq e => by
    have hqp : q ≠ p := fun z => by
      subst z
      rw [upd_ne hq, e] at hp
      cases hp
    rw [upd_ne hqp, upd_ne hq]
    exact e
  have pm : m ≠ p := fun z => by
    subst z
    rw [upd_same] at hp
    cases hp
  have Hm : upd (upd H m (.dK (stOf m c l (k + 1)))) p (.lst []) m = some (.dK (stOf m c l (k + 1))) := by rw [upd_ne pm]; exact upd_same
  have Hc := oth c _ hcm D.hc
  have Hl := oth l _ hlm D.hl
  have Hpp : upd (upd H m (.dK (stOf m c l (k + 1)))) p (.lst []) p = some (.lst []) := upd_same
  generalize hH2 : upd (upd H m (.dK (stOf m c l (k + 1)))) p (.lst []) = H2 at oth Hm Hc Hl Hpp
  have at_ok : ∀ (xs : List Int) (i : Int), 0 ≤ i → i < xs.length → ∃ x, x ∈ xs ∧ atI (xs.map V.int) i = some (.int x) := fun xs i i0 i1 => by
    have hlt : i.toNat < xs.length := by omega
    refine ⟨xs[i.toNat], List.getElem_mem hlt, ?_⟩
    unfold atI ixN
    rw [List.length_map, if_pos i0, if_pos i1]
    show (xs.map V.int)[i.toNat]? = _
    rw [List.getElem?_map, List.getElem?_eq_getElem hlt]
    rfl
  have kk : ∀ j : Int, 0 < j → 0 ≤ k % j ∧ k % j < j := fun j hj => ⟨Int.emod_nonneg _ (by omega), Int.emod_lt_of_pos _ hj⟩
  -- the last two statements
  have tl : ∀ {σ : St} {H3 : Hp}, σ[0]? = some (some (.ref m)) → σ[1]? = some (some (.int lim)) → σ[2]? = some (some (.int k)) → 3 < σ.length → H3 m = some (.dK (stOf m c l (k + 1))) → H3 c = some (.lst (cs.map V.int)) → (∀ (z : Int), 0 ≤ z → z < lim → Q (.int z) H3) →
      tWSs (cxOf NX P w K mg base nm27 "_law_draw" (defScope st27) a cdv A outer s H NE).nox ((defBody st27).drop 3) { nx := fun _ H' => Q .non H', rt := Q } σ H3 := fun {σ H3} s0 s1 s2 sl q1 q2 q3 => by
    obtain ⟨x, hx, ex⟩ := at_ok cs (k % 64) (kk 64 (by decide)).1 (by rw [D.lc]; exact (kk 64 (by decide)).2)
    have s1' : (σ.set 3 (some (.ref c)))[1]? = some (some (.int lim)) := by rw [List.getElem?_set_ne (by decide)]; exact s1
    have s2' : (σ.set 3 (some (.ref c)))[2]? = some (some (.int k)) := by rw [List.getElem?_set_ne (by decide)]; exact s2
    have s3' : (σ.set 3 (some (.ref c)))[3]? = some (some (.ref c)) := List.getElem?_set_self sl
    have b1 : 0 ≤ k / 64 ∧ k / 64 < 2 ^ 40 := by
      have := D.k0
      have := D.k1
      omega
    have k0 := D.k0
    have k1 := D.k1
    refine of_pss tail ⟨.ref m, s0, m, .ref c, rfl, DGet.k (k := Sum.inr sCells) q1, ?_⟩
    refine ⟨.ref c, s3', .int k, s2', .inl ⟨k, rfl, k, 64, rfl, rfl, (by decide : (0 : Int) < 64), c, _, _, _, rfl, rfl, .inl (.inl q2), ex, ?_⟩⟩
    refine ⟨.int k, s2', k, 64, rfl, rfl, ⟨by decide, by decide⟩, 31, _, rfl, rfl, .inr ⟨by omega, by omega⟩, _, _, rfl, rfl, ?_⟩
    refine ⟨.int k, s2', _, k, rfl, k0, by omega, .int k, s2', k, 7, rfl, rfl, _, k + 7, rfl, by omega, by omega, ?_⟩
    refine .inl ⟨_, rfl, .int lim, s1', _, lim, rfl, rfl, l0, ?_⟩
    exact q3 _ (Int.emod_nonneg _ (by omega)) (Int.emod_lt_of_pos _ l0)
  -- the row of great cells is empty, or not
  have dpl : ∀ xs : List Int, H2 l = some (.lst (xs.map V.int)) → Dp K H2 (.ref l) (.list (xs.map PyData.int)) := fun xs hx => by
    have rv : RV K (fun _ => none) ⟨H2, none⟩ (.lst (xs.map W.int)) (.ref l) := .lst hx (ints_rvs (f := ⟨K, fun _ => none, H2, ⟨H2, none⟩, [], false⟩) xs)
    refine RV.dp (f := ⟨K, fun _ => none, H2, ⟨H2, none⟩, [], false⟩) rv ?_
    show (toDs (xs.map W.int)).map PyData.list = _
    rw [toDs_ints xs]
    rfl
  have dpp : Dp K H2 (.ref p) (.list []) := RV.dp (f := ⟨K, fun _ => none, H2, ⟨H2, none⟩, [], false⟩) (g := ⟨H2, none⟩) (w := .lst []) (.lst Hpp .nil) rfl
  refine ⟨_, _, dpl gs Hl, dpp, ?_, rfl, _, rfl, ?_⟩
  · exact shaped_ints gs
  · cases gs with
    | nil =>
      show (if (false : Bool) = true then _ else _)
      rw [if_neg (by decide)]
      exact tl rfl rfl rfl (show 3 < 6 by decide) Hm Hc fun z z0 z1 => hQ z [] H2 z0 z1 rfl (fun x hx => (List.not_mem_nil hx).elim) (fun q o n1 _ e => oth q o n1 e) Hm Hl
    | cons g0 gr =>
      show (if (true : Bool) = true then _ else _)
      rw [if_pos rfl]
      have gl0 : (0 : Int) < ((g0 :: gr).map V.int).length := by rw [List.length_map, List.length_cons]; omega
      obtain ⟨x, hx, ex⟩ := at_ok (g0 :: gr) (k % (((g0 :: gr).map V.int).length : Int)) (kk _ gl0).1 (by have := (kk _ gl0).2; rw [List.length_map] at this ⊢; exact this)
      refine ⟨.ref m, rfl, m, .ref l, rfl, DGet.k (k := Sum.inr sGreat) Hm, ?_⟩
      refine ⟨.int k, rfl, .inl ⟨k, rfl, .ref l, rfl, .ref l, _, rfl, .inl ⟨_, .inl (.inl Hl), rfl⟩, k, _, rfl, rfl, gl0, ?_⟩⟩
      refine ⟨.ref l, rfl, .int _, rfl, l, _, _, _, rfl, rfl, .inl (.inl Hl), ex, ?_⟩
      refine ⟨.int x, rfl, x, 0, rfl, rfl, _, rfl, ?_⟩
      dsimp only
      by_cases hx0 : 0 < x
      · rw [if_pos (decide_eq_true hx0)]
        have i0 := (kk _ gl0).1
        have i1 := (kk _ gl0).2
        have hj : ixN ((g0 :: gr).map V.int).length (k % (((g0 :: gr).map V.int).length : Int)) = some (k % (((g0 :: gr).map V.int).length : Int)).toNat := by
          unfold ixN
          rw [if_pos i0, if_pos i1]
        refine ⟨.int x, rfl, .int lim, rfl, x, lim, rfl, rfl, ⟨l0, l1⟩, .ref l, rfl, .int _, rfl, l, _, _, _, rfl, rfl, Hl, hj, .int x, rfl, .inl ⟨x, rfl, .int lim, rfl, x, lim, rfl, rfl, l0, ?_⟩⟩
        have ml : m ≠ l := h2
        refine hQ (x % lim) ((g0 :: gr).set (k % (((g0 :: gr).map V.int).length : Int)).toNat (x / lim)) _ (Int.emod_nonneg _ (by omega)) (Int.emod_lt_of_pos _ l0) List.length_set (fun y hy => ?_) (fun q o n1 n2 e => by rw [upd_ne n2]; exact oth q o n1 e) (by rw [upd_ne ml]; exact Hm) (by rw [upd_same, List.map_set])
        rcases List.mem_or_eq_of_mem_set hy with z | z
        · exact D.g0 y z
        · rw [z]
          exact Int.ediv_nonneg (by omega) (by omega)
      · rw [if_neg (by rw [decide_eq_false hx0]; decide)]
        exact tl rfl rfl rfl (show 3 < 6 by decide) Hm Hc fun z z0 z1 => hQ z (g0 :: gr) H2 z0 z1 rfl D.g0 (fun q o n1 _ e => oth q o n1 e) Hm Hl

/-- a number drawn, by the evaluator's state -/
theorem draws_ok (F : FnG P w K mg base 2 a fd ["_law_m", "_law_limit"] spDraw) (bd : Binds K fd ["_law_m", "_law_limit"] []) {G : Nat → Option Addr} {r0 : Nat} (hr : 2 ≤ r0) :
    ∀ X' f', Pl P w K mg base r0 X' → f'.K = K → f'.G = G → ∀ g b sl σ H v (n : Int) (Q : VK), Rl f' g (b + 1) sl σ H → RV f'.K f'.G g .orc v → 0 < n → n < 1073741824 →
      (∀ d, d < n.toNat → ∀ g' H', g.le g' → Rl f' g' b sl σ H' → Q (.int d) H') → CallW X' (.ref a) [v, .int n] H Q := by
  intro X' f' pl hK hG g b sl σ H v n Q R rv n0 n1 hQ
  obtain ⟨e1, e2, e3, e4, e5, _, room, gu⟩ := pl
  subst e1 e2 e3 e4 e5
  cases rv with
  | orc hD =>
    rename_i m c l
    obtain ⟨cs, gs, k, q1, q2, q3, q4, q5, q6, q7, q8⟩ := (R.orc _ hD).ex
    have q1 : H m = _ := q1
    have q2 : H c = _ := q2
    have q3 : H l = _ := q3
    have mc : m ≠ c := fun e => by rw [e, q2] at q1; cases q1
    have ml : m ≠ l := fun e => by rw [e, q3] at q1; cases q1
    have cl : c ≠ l := fun e => by
      rw [e, q3] at q2
      have q2 := congrArg (fun o => match o with | some (HO.lst xs) => xs.length | _ => 0) q2
      have q2 : (gs.map V.int).length = (cs.map V.int).length := q2
      rw [List.length_map, List.length_map] at q2
      omega
    have hB : (k : Int) < 2 ^ 40 := by
      have : k + (b + 1) ≤ 2 ^ 40 := q8
      omega
    refine F.call (room.mono hr) gu bd ⟨m, c, l, cs, gs, k, n, rfl, ⟨q1, q2, q3, q4, q6, q7, q5, by omega, hB⟩, mc, ml, cl, n0, n1, fun d gs' H' d0 d1 gl g0' oth hm hl => ?_⟩
    obtain ⟨dn, rfl⟩ := Int.eq_ofNat_of_zero_le d0
    refine hQ dn (by omega) g H' (Gh.le.refl g) ?_
    have nD : ∀ {x : Addr}, x ∉ dAdr g.D → x ≠ m ∧ x ≠ l := fun {x} hx => by
      rw [hD] at hx
      simp only [dAdr, List.mem_cons, List.not_mem_nil, or_false, not_or] at hx
      exact ⟨hx.1, hx.2.2⟩
    have keep : ∀ {x : Addr} {o : HO}, x ∉ dAdr g.D → H x = some o → H' x = some o := fun {x o} hx e => oth x o (nD hx).1 (nD hx).2 e
    exact { R with
      sub := fun x o e => by
        refine keep (fun z => ?_) (R.sub x o e)
        rw [R.dF x z] at e
        cases e
      kee := fun x o e1 e2 e3 => keep e3 (R.kee x o e1 e2 e3)
      orc := fun dd hd => by
        rw [hD] at hd
        cases hd
        refine ⟨cs, gs', k + 1, ?_, oth c _ (Ne.symm mc) cl q2, hl, q4, q5, by omega, g0', by omega⟩
        show H' m = _
        rw [hm]
        rfl
      ioS := fun x hx => by
        obtain ⟨o, e⟩ := R.ioS x hx
        by_cases h1 : x = m
        · subst h1; exact ⟨_, hm⟩
        · by_cases h2 : x = l
          · subst h2; exact ⟨_, hl⟩
          · exact ⟨o, oth x o h1 h2 e⟩
      own := fun i u e => by
        obtain ⟨x, z1, z2, z3, z4, z5⟩ := R.own i u e
        exact ⟨x, z1, z2.le (Gh.le.refl g) fun o eo => keep z4 eo, z3, z4, z5⟩ }
end
/-! ### Fold -/
section
variable {P : Program} {w : World} {K : PySem.W.Frag} {mg : Str → Option Value} {base : Heap} {a : Addr} {fd : FuncData}
theorem sc26 : FnScope nm26 ["_law_script"] (defScope st26) := ⟨rfl, rfl, rfl, by decide +kernel, rfl, by decide +kernel, by decide +kernel⟩
def CellsOk (cs : List Int) : Prop := cs.length = 64 ∧ ∀ x ∈ cs, 0 ≤ x ∧ x < 2147483647
def spFolded (K : PySem.W.Frag) (vs : List V) (H : Hp) (Q : VK) : Prop := ∃ (p : Addr) (ns : List Int), vs = [.ref p] ∧ SqL K H p (ns.map V.int) ∧ ns.length ≤ 63 ∧
  ∀ (q : Addr) (cs : List Int) (H' : Hp), CellsOk cs → H q = none → Same H H' → H' q = some (.lst (cs.map V.int)) → Q (.ref q) H'
theorem at_int {xs : List Int} {i : Int} (i0 : 0 ≤ i) (i1 : i < xs.length) : ∃ x, x ∈ xs ∧ atI (xs.map V.int) i = some (.int x) ∧ ixN (xs.map V.int).length i = some i.toNat := by
  have hlt : i.toNat < xs.length := by omega
  refine ⟨xs[i.toNat], List.getElem_mem hlt, ?_, ?_⟩
  · unfold atI ixN
    rw [List.length_map, if_pos i0, if_pos i1]
    show (xs.map V.int)[i.toNat]? = _
    rw [List.getElem?_map, List.getElem?_eq_getElem hlt]
    rfl
  · unfold ixN
    rw [List.length_map, if_pos i0, if_pos i1]
theorem CellsOk.set {cs : List Int} {j : Nat} {x : Int} (h : CellsOk cs) (h0 : 0 ≤ x ∧ x < 2147483647) : CellsOk (cs.set j x) := ⟨by rw [List.length_set]; exact h.1, fun y hy => by
  rcases List.mem_or_eq_of_mem_set hy with z | z
  · exact h.2 y z
  · rw [z]; exact h0⟩
theorem ok_folded (F : FunD K "_law_folded" "_law_folded" (defArgs st26) (defBody st26) (defScope st26) [] [] a fd) (gi : mg "int" = none) (gr : mg "range" = none) (ge : mg "enumerate" = none) : FnG P w K mg base 1 a fd ["_law_script"] (spFolded K) := by
  refine FnG.of F sc26 (fun vs H Q ⟨p, ns, e, _⟩ => by rw [e]; rfl) fun cdv A outer s H vs Q room gu ⟨p, ns, ev, sq, nl, hQ⟩ => ?_
  subst ev
  have pInt : ∀ {e : Expr} {te : TE} {p pos : Pos}, PE (cxOf NX P w K mg base nm26 "_law_folded" (defScope st26) a cdv A outer s H NE).nox e te → starB e = false → PE (cxOf NX P w K mg base nm26 "_law_folded" (defScope st26) a cdv A outer s H NE).nox (.Call (.Name "int" p) [e] [] pos) _ := fun {e te p pos} h hs => pe_callTy call_int1 rfl gi PyProof.Rows.boot_int (pa_cons h pa_nil (star_cons hs)) (by decide +kernel) (by decide +kernel) (star_cons hs) rfl
  have first : PS (cxOf NX P w K mg base nm26 "_law_folded" (defScope st26) a cdv A outer s H NE).nox ((defBody st26).getD 0 (.Pass ⟨0, 0, 0, 0⟩)) _ :=
    ps_setLc (i := 1) rfl sc26.nd rfl rfl (sw_true rfl rfl rfl rfl) (pi_range1 rfl gr (pa_cons pe_int pa_nil)) (own := [("_law_n", 2)]) (blkOk_by (by kernel_rfl)) (fun s H C l fp => pg_name (i := 2) sc26.nd rfl (.inl rfl)) (fun s H C l fp => pts_nil) (fun s H C l fp => pe_op op_add pe_int (pe_var (i := 2) rfl (.inl rfl))) (fun _ => rfl)
  refine of_pss (pss_cons first (pss_cons (ps_for PassesOwn.never rfl (pi_enum rfl ge (pa_cons (pv 0) pa_nil)) (pg_tup rfl (pgs_cons (pg_name (i := 2) sc26.nd rfl (.inl rfl)) (pgs_cons (pg_name (i := 3) sc26.nd rfl (.inl rfl)) pgs_nil)))
    (pss_one (ps_asg (pe_op op_mod (pInt (pe_op op_add (pe_op op_mul (pe_ix ix_list (pv 1) (pe_op op_mod (pInt (pv 2) rfl) pe_int) fun _ _ => rfl) pe_int) (pv 3)) rfl) pe_int) (pg_sub (pv 1) (pe_op op_mod (pInt (pv 2) rfl) pe_int) set_list))))
    (pss_cons (ps_for PassesOwn.never rfl (pi_range2 rfl gr (pa_cons pe_int (pa_cons pe_int pa_nil))) (pg_name (i := 2) sc26.nd rfl (.inl rfl))
      (pss_one (ps_asg (pe_op op_mod (pInt (pe_op op_add (pe_ix ix_list (pv 1) (pv 2) fun _ _ => rfl) (pe_op op_mul (pe_ix ix_list (pv 1) (pe_op op_sub (pv 2) pe_int) fun _ _ => rfl) pe_int)) rfl) pe_int) (pg_sub (pv 1) (pv 2) set_list))))
      (pss_one (ps_ret (pv 1)))))) ?_
  refine ⟨64, rfl, by decide, by decide, fun q hq => lc_range (fun i H' => ∃ cs : List Int, cs.length = i ∧ (∀ x ∈ cs, 0 ≤ x ∧ x < 2147483647) ∧ H' = upd H q (.lst (cs.map V.int))) ⟨[], rfl, fun _ h => (List.not_mem_nil h).elim, rfl⟩ (fun i H' hi ⟨cs, e1, e2, e3⟩ => ?_) fun H' ⟨cs, e1, e2, e3⟩ => ?_⟩
  · subst e3
    have hi : i < 64 := hi
    refine ⟨?_, ?_⟩
    · rfl
    · unfold tYes
      dsimp only
      rw [if_pos rfl]
      refine ⟨.int (0 + i), rfl, 17, 0 + i, rfl, rfl, _, upd_same, by rw [List.length_map, e1]; exact Nat.lt_trans hi (by decide), cs ++ [17 + (0 + (i : Int))], by rw [List.length_append, e1]; rfl, fun x hx => ?_, ?_⟩
      · rcases List.mem_append.mp hx with z | z
        · exact e2 x z
        · rw [List.mem_singleton.mp z]
          omega
      · rw [upd_upd, List.map_append]
        rfl
  · subst e3
    have hpq : p ≠ q ∨ True := .inr trivial
    have sq1 : ∀ {H' : Hp}, Same H H' → SqL K H' p (ns.map V.int) := fun e => SqL.le e sq
    have nC : ∀ {x : Int}, 0 ≤ x % 2147483647 ∧ x % 2147483647 < 2147483647 := fun {x} => ⟨Int.emod_nonneg _ (by decide), Int.emod_lt_of_pos _ (by decide)⟩
    refine ⟨.ref p, rfl, p, ns.map V.int, rfl, sq1 (same_upd hq), ?_⟩
    refine ⟨fun i m σ H' => m = ns.length - i ∧ i ≤ ns.length ∧ σ.length = 4 ∧ σ[0]? = some (some (.ref p)) ∧ σ[1]? = some (some (.ref q)) ∧ Same H H' ∧ ∃ cs, CellsOk cs ∧ H' q = some (.lst (cs.map V.int)), ⟨ns.length, rfl, Nat.zero_le _, rfl, rfl, rfl, same_upd hq, cs, ⟨e1, e2⟩, upd_same⟩, ?_⟩
    rintro i mm σ H' ⟨rfl, hi, sl, s0, s1, sm, cs, co, hcs⟩
    have oq : ∀ {H'' : Hp} {xs : List V}, Same H H'' → Same H (upd H'' q (.lst xs)) := fun {H'' xs} e c o ec => by
      have hcq : c ≠ q := fun z => by rw [z, hq] at ec; cases ec
      rw [upd_ne hcq]
      exact e c o ec
    by_cases hlt : i < ns.length
    · right
      have hn : (ns.map V.int)[i]? = some (.int ns[i]) := by rw [List.getElem?_map, List.getElem?_eq_getElem hlt]; rfl
      refine ⟨⟨_, _, sq1 sm, hn⟩, fun σ' H'' => i + 1 ≤ ns.length ∧ σ'.length = 4 ∧ σ'[0]? = some (some (.ref p)) ∧ σ'[1]? = some (some (.ref q)) ∧ Same H H'' ∧ ∃ cs, CellsOk cs ∧ H'' q = some (.lst (cs.map V.int)), fun σ' H'' z => ⟨ns.length - (i + 1), by omega, rfl, z⟩, fun x H3 ⟨t, y, ex, ht, eH, hy⟩ => ?_⟩
      have hy := hy _ (sq1 sm)
      rw [hn] at hy
      cases hy
      subst ex eH
      have sm3 : Same H (upd H' t (.tup [.int (i : Nat), .int ns[i]])) := fun c o ec => same_upd ht c o (sm c o ec)
      have hq3 : upd H' t (.tup [.int (i : Nat), .int ns[i]]) q = some (.lst (cs.map V.int)) := same_upd ht q _ hcs
      have ht3 : upd H' t (.tup [.int (i : Nat), .int ns[i]]) t = some (.tup [.int (i : Nat), .int ns[i]]) := upd_same
      generalize upd H' t (.tup [.int (i : Nat), .int ns[i]]) = H3 at sm3 hq3 ht3 ⊢
      obtain ⟨x0, x1, x2, x3, rfl⟩ : ∃ x0 x1 x2 x3, σ = [x0, x1, x2, x3] := by
        match σ, sl with
        | [x0, x1, x2, x3], _ => exact ⟨x0, x1, x2, x3, rfl⟩
      have w0 : x0 = some (.ref p) := Option.some.inj s0
      have w1 : x1 = some (.ref q) := Option.some.inj s1
      subst w0 w1
      have j0 : 0 ≤ ((i : Nat) : Int) % 64 := Int.emod_nonneg _ (by decide)
      have j1 : ((i : Nat) : Int) % 64 < cs.length := by
        rw [co.1]
        exact Int.emod_lt_of_pos _ (by decide)
      obtain ⟨z, hz, ez, jz⟩ := at_int j0 j1
      refine ⟨t, _, rfl, .inl (.inl ht3), rfl, _, _, rfl, _, _, rfl, rfl, ?_⟩
      refine ⟨.ref q, rfl, .int i, rfl, .inl ⟨_, rfl, _, 64, rfl, rfl, (by decide : (0 : Int) < 64), q, _, _, _, rfl, rfl, .inl (.inl hq3), ez, z, 48271, rfl, rfl, .inr ⟨by decide, by decide⟩, ?_⟩⟩
      refine ⟨.int ns[i], rfl, _, _, rfl, rfl, .inl ⟨_, rfl, _, 2147483647, rfl, rfl, (by decide : (0 : Int) < 2147483647), ?_⟩⟩
      refine ⟨.ref q, rfl, .int i, rfl, .inl ⟨_, rfl, _, 64, rfl, rfl, (by decide : (0 : Int) < 64), q, _, _, _, rfl, rfl, hq3, jz, ?_⟩⟩
      exact ⟨hlt, rfl, rfl, rfl, oq sm3, _, co.set nC, by rw [upd_same, List.map_set]⟩
    · left
      have ei : i = ns.length := by omega
      refine ⟨⟨_, sq1 sm, by rw [List.length_map]; omega⟩, ?_⟩
      -- the second round
      obtain ⟨x0, x1, x2, x3, rfl⟩ : ∃ x0 x1 x2 x3, σ = [x0, x1, x2, x3] := by
        match σ, sl with
        | [x0, x1, x2, x3], _ => exact ⟨x0, x1, x2, x3, rfl⟩
      have w1 : x1 = some (.ref q) := Option.some.inj s1
      subst w1
      refine ⟨1, 64, rfl, ⟨by decide, by decide, by decide, by decide⟩, for_range (fun j σ H' => ∃ a b c, σ = [a, some (.ref q), b, c] ∧ Same H H' ∧ ∃ cs, CellsOk cs ∧ H' q = some (.lst (cs.map V.int))) ⟨_, _, _, rfl, sm, cs, co, hcs⟩ (fun j σ H'' hj ⟨a1, b1, c1, es, sm, cs, co, hcs⟩ => ?_) fun σ H'' ⟨a1, b1, c1, es, sm, cs, co, hcs⟩ => ?_⟩
      · subst es
        have hj : j < 63 := hj
        have i0 : (0 : Int) ≤ 1 + (j : Int) := by omega
        have i1 : 1 + (j : Int) < cs.length := by rw [co.1]; omega
        have k0 : (0 : Int) ≤ 1 + (j : Int) - 1 := by omega
        have k1 : 1 + (j : Int) - 1 < cs.length := by rw [co.1]; omega
        obtain ⟨z, hz, ez, jz⟩ := at_int i0 i1
        obtain ⟨y, hy, ey, _⟩ := at_int k0 k1
        refine ⟨.ref q, rfl, .int _, rfl, q, _, _, _, rfl, rfl, .inl (.inl hcs), ez, ?_⟩
        refine ⟨.ref q, rfl, .int _, rfl, _, 1, rfl, rfl, q, _, _, _, rfl, rfl, .inl (.inl hcs), ey, y, 16807, rfl, rfl, .inr ⟨by decide, by decide⟩, z, _, rfl, rfl, ?_⟩
        refine .inl ⟨_, rfl, _, 2147483647, rfl, rfl, (by decide : (0 : Int) < 2147483647), ?_⟩
        refine ⟨.ref q, rfl, .int _, rfl, q, _, _, _, rfl, rfl, hcs, jz, ?_⟩
        exact ⟨_, _, _, rfl, oq sm, _, co.set nC, by rw [upd_same, List.map_set]⟩
      · subst es
        exact ⟨.ref q, rfl, hQ q cs H'' co hq sm hcs⟩
end
/-! ### Beg -/
section
variable {P : Program} {w : World} {K : PySem.W.Frag} {mg : Str → Option Value} {base : Heap} {a aF : Addr} {fd fdF : FuncData}
theorem sc28 : FnScope nm28 ["_law_script"] (defScope st28) := ⟨rfl, rfl, rfl, by decide +kernel, rfl, by decide +kernel, by decide +kernel⟩
def spBegun (K : PySem.W.Frag) (vs : List V) (H : Hp) (Q : VK) : Prop := ∃ (p : Addr) (ns : List Int), vs = [.ref p] ∧ SqL K H p (ns.map V.int) ∧ ns.length ≤ 63 ∧
  ∀ (d : Addr × Addr × Addr) (H' : Hp), Same H H' → (∀ c ∈ dAdr (some d), H c = none) → OrcAt BIG d H' → Q (.ref d.1) H'
theorem ok_begun (F : FunD K "_law_begun" "_law_begun" (defArgs st28) (defBody st28) (defScope st28) [] [] a fd) (FF : FunD K "_law_folded" "_law_folded" (defArgs st26) (defBody st26) (defScope st26) [] [] aF fdF) (gi : mg "int" = none) (gr : mg "range" = none) (ge : mg "enumerate" = none) (gF : mg "_law_folded" = some (.ref aF)) : FnG P w K mg base 2 a fd ["_law_script"] (spBegun K) := by
  have GF : FnG P w K mg base 1 aF fdF ["_law_script"] (spFolded K) := ok_folded FF gi gr ge
  have bF : Binds K fdF ["_law_script"] [] := FF.bindsN fun _ _ _ _ _ _ us hl => match us, hl with | [_], _ => rfl
  refine FnG.of F sc28 (fun vs H Q ⟨p, ns, e, _⟩ => by rw [e]; rfl) fun cdv A outer s H vs Q room gu ⟨p, ns, ev, sq, nl, hQ⟩ => ?_
  subst ev
  have hu : (cxOf NX P w K mg base nm28 "_law_begun" (defScope st28) a cdv A outer s H NE).nox.A.units + 1 < cLine := by
    have := room.un
    show (A.deeper _).units + 1 < cLine
    omega
  have PF : ∀ {e1 : Expr} {t1 : TE} {p pos : Pos}, PE (cxOf NX P w K mg base nm28 "_law_begun" (defScope st28) a cdv A outer s H NE).nox e1 t1 → starB e1 = false → PE (cxOf NX P w K mg base nm28 "_law_begun" (defScope st28) a cdv A outer s H NE).nox (.Call (.Name "_law_folded" p) [e1] [] pos) (tCB (spFolded K) (tCons t1 tNil)) := fun {e1 t1 p pos} q1 s1 => pe_G GF room gu bF rfl gF FF.kp (by decide +kernel) (by rw [List.all_cons, s1]; rfl) (pa_cons q1 pa_nil (star_cons s1))
  refine of_pss (pss_cons (ps_set (i := 1) sc28.nd rfl (.inl rfl) (pe_disp (pps_cons pe_str (PF (pv 0) rfl) (pps_cons pe_str (pe_lst pa_nil) (pps_cons pe_str pe_int pps_nil))) rfl rfl (by simp) (by decide)) rfl) (pss_cons (ps_dput hu (pv 1) pe_str (pe_lc rfl sc28.nd (pi_list (pv 0)) (own := [("_law_cell", 2)]) (blkOk_by (by kernel_rfl)) (fun s H C l fp => pg_name (i := 2) sc28.nd rfl (.inl rfl)) (fun s H C l fp => pts_nil) (fun s H C l fp => pe_ifExp (pt_cmpR op_ge (pe_var (i := 2) rfl (.inl rfl)) (pe_op op_pow pe_int pe_int) (nomark _)) (pe_var (i := 2) rfl (.inl rfl)) pe_int) (fun _ => rfl)) rfl) (pss_one (ps_ret (pv 1))))) ?_
  intro m hm
  refine ⟨.ref p, rfl, p, ns, rfl, SqL.le (same_upd hm) sq, nl, fun c cs H1 co hc sm hcs => ?_⟩
  refine ⟨by decide, fun e he => ?_⟩
  have Hm : upd H1 e (.lst []) m = some (.dK []) := same_upd he m _ (sm m _ upd_same)
  refine ⟨Hm, [(Sum.inr sCells, .ref c), (Sum.inr sGreat, .ref e), (Sum.inr sSpot, .int 0)], rfl, (show 3 ≤ 15 by decide), ?_⟩
  have emg : mergeK [] [(Sum.inr sCells, .ref c), (Sum.inr sGreat, .ref e), (Sum.inr sSpot, .int 0)] = stOf m c e 0 := rfl
  rw [emg]
  have cm : c ≠ m := fun z => by rw [z, upd_same] at hc; cases hc
  have hc0 : H c = none := by rwa [upd_ne cm] at hc
  have sm0 : Same H (upd (upd H1 e (.lst [])) m (.dK (stOf m c e 0))) := fun x o ex => by
    have xm : x ≠ m := fun z => by rw [z, hm] at ex; cases ex
    rw [upd_ne xm]
    exact same_upd he x o (sm x o (by rw [upd_ne xm]; exact ex))
  have hm3 : upd (upd H1 e (.lst [])) m (.dK (stOf m c e 0)) m = some (.dK (stOf m c e 0)) := upd_same
  have hc3 : upd (upd H1 e (.lst [])) m (.dK (stOf m c e 0)) c = some (.lst (cs.map V.int)) := by
    rw [upd_ne cm]
    exact same_upd he c _ hcs
  generalize upd (upd H1 e (.lst [])) m (.dK (stOf m c e 0)) = H3 at sm0 hm3 hc3 ⊢
  refine ⟨.ref p, rfl, p, rfl, ⟨_, SqL.le sm0 sq⟩, fun q hq => lc_list (xs := ns.map V.int) (fun i H' => ∃ gs : List Int, gs.length = i ∧ (∀ x ∈ gs, 0 ≤ x) ∧ H' = upd H3 q (.lst (gs.map V.int))) ⟨[], rfl, fun _ h => (List.not_mem_nil h).elim, rfl⟩ (fun i H' _ ⟨gs, _, _, eH⟩ => ?_) (fun i x H' hx ⟨gs, e1, e2, eH⟩ => ?_) fun H' ⟨gs, e1, e2, eH⟩ => ?_⟩
  · subst eH
    exact SqL.le (same_upd hq) (SqL.le sm0 sq)
  · subst eH
    have hil : i < 63 + 1 := by
      have := (List.getElem?_eq_some_iff.mp hx).1
      rw [List.length_map] at this
      omega
    rw [List.getElem?_map] at hx
    cases hn : ns[i]? with
    | none => rw [hn] at hx; cases hx
    | some n =>
      rw [hn] at hx
      have hx : V.int n = x := Option.some.inj hx
      subst hx
      refine ⟨rfl, ?_⟩
      unfold tYes
      dsimp only
      rw [if_pos rfl]
      have fin : ∀ y : Int, 0 ≤ y → ∃ acc, upd H3 q (.lst (gs.map V.int)) q = some (.lst acc) ∧ acc.length < sizeLine ∧ ∃ gs' : List Int, gs'.length = i + 1 ∧ (∀ x ∈ gs', (0 : Int) ≤ x) ∧ upd (upd H3 q (.lst (gs.map V.int))) q (.lst (acc ++ [.int y])) = upd H3 q (.lst (gs'.map V.int)) := fun y y0 => by
        refine ⟨_, upd_same, by rw [List.length_map, e1]; exact Nat.lt_trans hil (by decide), gs ++ [y], by rw [List.length_append, e1]; rfl, fun z hz => ?_, by rw [upd_upd, List.map_append]; rfl⟩
        rcases List.mem_append.mp hz with k | k
        · exact e2 z k
        · rw [List.mem_singleton.mp k]; exact y0
      refine ⟨.int n, rfl, 10, 18, rfl, rfl, ⟨by decide, by decide, by decide⟩, n, _, rfl, rfl, _, rfl, ?_⟩
      dsimp only
      by_cases hg : (10 : Int) ^ (18 : Int).toNat ≤ n
      · rw [if_pos (decide_eq_true hg)]
        refine ⟨.int n, rfl, fin n (Int.le_trans (by decide) hg)⟩
      · rw [if_neg (by rw [decide_eq_false hg]; decide)]
        exact fin 0 (by decide)
  · subst eH
    have qm : m ≠ q := fun z => by rw [← z, hm3] at hq; cases hq
    have qc : c ≠ q := fun z => by rw [← z, hc3] at hq; cases hq
    have hl : gs.length ≤ 63 := by rw [e1, List.length_map]; exact nl
    refine ⟨.ref m, rfl, m, _, rfl, DPut.k (k := Sum.inr sGreat) (same_upd hq m _ hm3) (show 3 < sizeLine by decide), ?_⟩
    have eput : L2.putK (stOf m c e 0) (Sum.inr sGreat) (.ref q) = stOf m c q 0 := rfl
    rw [eput]
    refine ⟨.ref m, rfl, hQ (m, c, q) _ (fun x o ex => ?_) (fun x hx => ?_) ⟨cs, gs, 0, upd_same, ?_, ?_, co.1, co.2, hl, e2, by omega⟩⟩
    · have xm : x ≠ m := fun z => by rw [z, hm] at ex; cases ex
      rw [upd_ne xm]
      exact same_upd hq x o (sm0 x o ex)
    · simp only [dAdr, List.mem_cons, List.not_mem_nil, or_false] at hx
      rcases hx with z | z | z
      · rw [z]; exact hm
      · rw [z]; exact hc0
      · rw [z]
        cases hh : H q with
        | none => rfl
        | some o => rw [sm0 q o hh] at hq; cases hq
    · show upd _ m _ c = _
      rw [upd_ne cm]
      exact same_upd hq c _ hc3
    · show upd _ m _ q = _
      rw [upd_ne (Ne.symm qm)]
      exact upd_same
theorem begins_ok (F : FnG P w K mg base 2 a fd ["_law_script"] (spBegun K)) (bd : Binds K fd ["_law_script"] []) (hm : mg "_law_begun" = some (.ref a)) (hk : PySem.W.keepIn K (.ref a) = true) {r0 : Nat} (hr : 2 ≤ r0) : Begins P w K mg base r0 := by
  refine ⟨a, hm, hk, fun X pl H p ns Q sq hl hQ => ?_⟩
  obtain ⟨e1, e2, e3, e4, e5, _, room, gu⟩ := pl
  subst e1 e2 e3 e4 e5
  exact F.call (room.mono hr) gu bd ⟨p, ns, rfl, sq, hl, hQ⟩
end
theorem cn_ok (k : Nat) (x : Str) (w : W) (e : csL[k]? = some (x, w)) : cn k = w := by
  unfold cn
  rw [nth_eq, e]
section
variable {P : Program} {w : World} {K : PySem.W.Frag} {h : Heap} {mg : Str → Option Value}
theorem mgAt (X : K.In h) (G : h.Ns mainGlobals mg) (c : SaysX (faOf tb.fnm) (rows.map Rw.d) csL K) (x : Str) (hx : decide (x ∈ allBi) = true) : mg x = none := bi_at (tb := tb) (rows := rows) X G c x (of_decide_eq_true hx)
theorem world (X : K.In h) (G : h.Ns mainGlobals mg) (c : SaysX (faOf tb.fnm) (rows.map Rw.d) csL K) (base : Heap) : Wd P w K mg base tb fks cn (gaOf tb K) 2 := by
  obtain ⟨fM, FM⟩ := def_at (tb := tb) c (j := 25) (r := rw25) rfl
  obtain ⟨fD, FD⟩ := def_at (tb := tb) c (j := 27) (r := rw27) rfl
  have gM := glo_at (tb := tb) X G c (j := 25) (x := "_law_mixed") rfl
  have gD := glo_at (tb := tb) X G c (j := 27) (x := "_law_draw") rfl
  have GD := ok_draw (P := P) (w := w) (base := base) (mg := mg) FD FM (mgAt X G c "int" (by decide +kernel)) (mgAt X G c "len" (by decide +kernel)) gM
  exact ⟨bi_at X G c, con_at X G c rfl cn_ok, defs_at X G c rows_ok, _, gD, FD.kp, draws_ok GD (FD.bindsN fun _ _ _ _ _ _ us hl => match us, hl with | [_, _], _ => rfl) (Nat.le_refl _)⟩
theorem begun (X : K.In h) (G : h.Ns mainGlobals mg) (c : SaysX (faOf tb.fnm) (rows.map Rw.d) csL K) (base : Heap) : Begins P w K mg base 2 := by
  obtain ⟨fF, FF⟩ := def_at (tb := tb) c (j := 26) (r := rw26) rfl
  obtain ⟨fB, FB⟩ := def_at (tb := tb) c (j := 28) (r := rw28) rfl
  have gF := glo_at (tb := tb) X G c (j := 26) (x := "_law_folded") rfl
  have gB := glo_at (tb := tb) X G c (j := 28) (x := "_law_begun") rfl
  have GB := ok_begun (P := P) (w := w) (base := base) (mg := mg) FB FF (mgAt X G c "int" (by decide +kernel)) (mgAt X G c "range" (by decide +kernel)) (mgAt X G c "enumerate" (by decide +kernel)) gF
  exact begins_ok GB (FB.bindsN fun _ _ _ _ _ _ us hl => match us, hl with | [_], _ => rfl) gB FB.kp (Nat.le_refl _)
end
def fuel : Nat := 120
theorem body_eq : defBody st42 = (defBody st42).take lwAt ++ (defBody st42).getD lwAt (.Pass ⟨0, 0, 0, 0⟩) :: (defBody st42).drop (lwAt + 1) := by rfl
theorem scL : FnScope nm42 ["_law_script"] (defScope st42) := scopeB_ok (by decide +kernel)
theorem ck1 : chkSs tb nm42 (defScope st42) [] false lw.pre ((defBody st42).take lwAt) = true := by decide +kernel
theorem ck2 : begB nm42 (defScope st42) lw.i ((defBody st42).getD lwAt (.Pass ⟨0, 0, 0, 0⟩)) = true := by decide +kernel
theorem ck3 : chkSs tb nm42 (defScope st42) [] false lw.post ((defBody st42).drop (lwAt + 1)) = true := by decide +kernel
open PySem.W in
set_option maxHeartbeats 0 in
/-- the law, from what the evaluator says -/
theorem holds_of (hl : ∀ c, c ≤ 63 → (lawN fks cn lw fuel c).wb BIG (fun r _ => r = (.bl true, false))) : PySem.Challenge.rw_openverbs_k56_whole_plans_right_by_words.Holds := by
  w_on; o_law
  refine HandSHeadRun.head_any (r := OpenLaw.row PySem.Challenge.rw_openverbs_k56_whole_plans_right_by_words) (q := view (OpenLaw.row PySem.Challenge.rw_openverbs_k56_whole_plans_right_by_words).prog [59]) (H := hk) (ob := ob) (M := 30000) (loose := looseAll) (d := HandSHeadRun.topDef (OpenLaw.row PySem.Challenge.rw_openverbs_k56_whole_plans_right_by_words).prog 59) (kwd := []) ob_eq
    (by kernel_rfl) (fun s => by kernel_rfl) runTop (by kernel_rfl) (by kernel_rfl) (by kernel_rfl) (by rfl) (by first | assumption | decide +kernel) (by decide +kernel) ⟨rfl, rfl, rfl, rfl, rfl, by decide +kernel⟩ ?hw ?hc
  case hw => w_witness2
  case hc =>
    refine walkG (l := PySem.Challenge.rw_openverbs_k56_whole_plans_right_by_words) (n := 63) (k := fuel + 2 + 1) (x := "_law_script") rfl (by decide) (by kernel_rfl) ⟨rfl, by decide, by decide⟩ ?F
    intro w mg fa h Y G hmg0
    obtain ⟨K, KX, c⟩ := Y
    have hmg : mg ("law" : PySem.Str) = some (.ref fa) := by
      have e : (HandSHeadRun.topDef (OpenLaw.row PySem.Challenge.rw_openverbs_k56_whole_plans_right_by_words).prog 59).name = ("law" : PySem.Str) := by kernel_rfl
      rw [← e]
      exact hmg0
    obtain ⟨fd, F⟩ := def_at (tb := tb) c (j := 42) (r := rw42) rfl
    have e := hmg.symm.trans (glo_at (tb := tb) KX G c (j := 42) (x := "law") rfl)
    cases e
    have F' : FunD K "law" "law" (defArgs st42) (defBody st42) (defScope st42) [] [] (He.ga K "law") fd := F
    have b := FunD.bindsA (ps := ["_law_script"]) F' fun _ _ _ _ _ _ us hl => match us, hl with | [_], _ => rfl
    rw [body_eq] at F'
    refine ⟨K, fd, fun vs H Q => ∃ (p : Addr) (ns : List Int), vs = [.ref p] ∧ ns.length ≤ 63 ∧ SqL K H p (ns.map V.int) ∧ ∀ H', Q (.bl true) H', KX, fun s v => b s [v] rfl, fun H a ns hn _ hS => ⟨a, ns, rfl, hn, hS, fun _ => rfl⟩, fun base hK hN => ?_⟩
    exact law_ok (world hK hN c base) (begun hK hN c base) F' scL rfl ck1 ck2 ck3 hl
end Ov
end
end
end
section
set_option Elab.async false
set_option linter.all false
set_option maxRecDepth 100000
set_option maxHeartbeats 1000000
noncomputable section
namespace Ov
open PySem L2 Ev
set_option autoImplicit false
/-! ### evaluation by rewriting -/
theorem nth0 {α : Type} (x : α) (xs : List α) : nth (x :: xs) 0 = some x := rfl
theorem nthS {α : Type} (x : α) (xs : List α) (n : Nat) : nth (x :: xs) (n + 1) = nth xs n := rfl
theorem sett0 {α : Type} (x y : α) (xs : List α) : sett (x :: xs) 0 y = y :: xs := rfl
theorem settS {α : Type} (x y : α) (xs : List α) (n : Nat) : sett (x :: xs) (n + 1) y = x :: sett xs n y := rfl
theorem rd0 (r : R) (sl : Sl) : rd (some r :: sl) 0 = .ok r := rfl
theorem rdS (o : Option R) (sl : Sl) (n : Nat) : rd (o :: sl) (n + 1) = rd sl n := rfl
theorem hget_val (sl : Sl) (w : W) : Hd.get sl (.val w) = .ok w := rfl
theorem hget_slot (sl : Sl) (i : Nat) : Hd.get sl (.slot i) = (rd sl i).bind fun r => .ok r.1 := rfl
theorem setG_nm (i : Nat) (w : W) (fr : Bool) (sl : Sl) : setG (.nm i) w fr sl = .ok (sett sl i (some (w, fr))) := by rw [setG]
theorem setG_tp (ts : List Tg) (ws : List W) (fr : Bool) (sl : Sl) : setG (.tp ts) (.tup ws) fr sl = setGs ts ws sl := by rw [setG]
theorem setGs_nil (sl : Sl) : setGs [] [] sl = .ok sl := by rw [setGs]
theorem setGs_cons (t : Tg) (ts : List Tg) (w : W) (ws : List W) (sl : Sl) : setGs (t :: ts) (w :: ws) sl = (setG t w false sl).bind fun sl => setGs ts ws sl := by rw [setGs]
theorem two_ii (i j : Int) (f : Int → Int → T R) : two (.int i) (.int j) f = f i j := rfl
theorem bopsI (i j : Int) : addW (.int i) (.int j) = fz (.int (i + j)) := rfl
theorem guard_tt {α : Type} (t : T α) : T.guard true t = t := rfl
theorem guard_t {α : Type} {b : Bool} {t : T α} (h : b = true) : T.guard b t = t := by rw [h]; rfl
theorem guard_sz {α : Type} {n : Nat} {t : T α} (h : n ≤ 100000) : T.guard (Nat.ble n sizeLine) t = t := guard_t (Nat.ble_eq_true_of_le (Nat.le_trans h (by decide)))
theorem guard_lt {α : Type} {n : Nat} {t : T α} (h : n ≤ 100000) : T.guard (Nat.blt n sizeLine) t = t := guard_t (Nat.ble_eq_true_of_le (show n + 1 ≤ sizeLine from Nat.le_trans (Nat.succ_le_succ h) (by decide)))
theorem appL (xs : List W) (v : W) : appW (.lst xs) v = T.guard (Nat.blt xs.length sizeLine) (.ok (.lst (xs ++ [v]))) := rfl
theorem eqW_ii (i j : Int) : eqW (.int i) (.int j) = .ok (eqI i j) := rfl
theorem seqAt_nat {xs : List W} {k : Nat} {w : W} (h : xs[k]? = some w) : seqAt xs (k : Int) = .ok w := by
  have hk : k < xs.length := (List.getElem?_eq_some_iff.mp h).1
  unfold seqAt ixOf
  rw [if_pos (by omega), if_pos (by omega)]
  show T.ofOpt (nth xs (k : Int).toNat) = _
  rw [Int.toNat_natCast, nth_eq, h]
  rfl
theorem callN_code {n j : Nat} {args : List R} {f : Fn} (h : nth fks j = some (.code f)) (h2 : (flB f.io args && Nat.beq args.length f.np) = true) :
    callN fks cn (n + 1) j args = (exSs (callN fks cn n) (ioOf fks) cn f.body (args.map some ++ List.replicate (f.ns - f.np) none)).bind (fin f.io) := by
  rw [callN, h]
  show T.guard _ _ = _
  rw [h2]
  rfl
theorem forGo_nx {turn : W → Sl → T Fl} {S : Nat → Sl} : ∀ {xs : List W} {k : Nat}, (∀ (i : Nat) x, xs[i]? = some x → turn x (S (k + i)) = .ok (.nx (S (k + i + 1)))) → forGo turn xs (S k) = .ok (.nx (S (k + xs.length)))
  | [], k, _ => rfl
  | x :: xs, k, h => by
    unfold forGo
    have h0 := h 0 x rfl
    rw [Nat.add_zero] at h0
    rw [h0]
    show forGo turn xs (S (k + 1)) = _
    rw [forGo_nx (k := k + 1) fun i y e => by
      have := h (i + 1) y (by simpa using e)
      rw [show k + 1 + i = k + (i + 1) by omega]
      exact this]
    rw [List.length_cons, show k + 1 + xs.length = k + (xs.length + 1) by omega]
theorem for_inv {turn : W → Sl → T Fl} {P : Nat → Sl → Prop} : ∀ {xs : List W} {k : Nat} {sl : Sl}, P k sl → (∀ (i : Nat) x sl, xs[i]? = some x → P (k + i) sl → ∃ sl', turn x sl = .ok (.nx sl') ∧ P (k + i + 1) sl') → ∃ sl', forGo turn xs sl = .ok (.nx sl') ∧ P (k + xs.length) sl'
  | [], k, sl, h0, _ => ⟨sl, rfl, h0⟩
  | x :: xs, k, sl, h0, h => by
    obtain ⟨sl1, e1, h1⟩ := h 0 x sl rfl h0
    obtain ⟨sl2, e2, h2⟩ := for_inv (turn := turn) (P := P) (xs := xs) (k := k + 1) (sl := sl1) h1 fun i y sl e hp => by
      have := h (i + 1) y sl (by simpa using e) (by rw [show k + (i + 1) = k + 1 + i by omega]; exact hp)
      rw [show k + (i + 1) = k + 1 + i by omega] at this
      exact this
    refine ⟨sl2, ?_, by rw [List.length_cons, show k + (xs.length + 1) = k + 1 + xs.length by omega]; exact h2⟩
    unfold forGo
    rw [e1]
    exact e2
theorem bind_as {α β γ : Type} {f : α → T β} {g : β → T γ} : ∀ (t : T α), (t.bind f).bind g = t.bind fun a => (f a).bind g
  | .ok _ => rfl
  | .exc _ _ => rfl
  | .stk => rfl
  | .draw l k => congrArg (T.draw l) (funext fun d => bind_as (k d))
theorem for1 {turn : W → Sl → T Fl} {P : Nat → Sl → Prop} {xs : List W} {sl : Sl} (h0 : P 0 sl) (h : ∀ (i : Nat) x sl, xs[i]? = some x → P i sl → ∃ sl', turn x sl = .ok (.nx sl') ∧ P (i + 1) sl') : ∃ sl', forGo turn xs sl = .ok (.nx sl') ∧ P xs.length sl' := by
  have := for_inv (turn := turn) (P := P) (xs := xs) (k := 0) h0 fun i x sl e hp => by
    rw [Nat.zero_add] at hp ⊢
    exact h i x sl e hp
  rw [Nat.zero_add] at this
  exact this
theorem for_bind {turn : W → Sl → T Fl} {P : Nat → Sl → Prop} {xs : List W} {sl : Sl} {β : Type} {k : Fl → T β} {res : T β} (h0 : P 0 sl) (h : ∀ (i : Nat) x sl, xs[i]? = some x → P i sl → ∃ sl', turn x sl = .ok (.nx sl') ∧ P (i + 1) sl')
    (hk : ∀ sl', P xs.length sl' → k (.nx sl') = res) : (forGo turn xs sl).bind k = res := by
  obtain ⟨sl', e, hp⟩ := for1 (turn := turn) h0 h
  rw [e]
  exact hk sl' hp
theorem for_ex {turn : W → Sl → T Fl} {P : Nat → Sl → Prop} {xs : List W} {sl : Sl} {β : Type} {k : Fl → T β} (G : T β → Prop) (h0 : P 0 sl) (h : ∀ (i : Nat) x sl, xs[i]? = some x → P i sl → ∃ sl', turn x sl = .ok (.nx sl') ∧ P (i + 1) sl')
    (hk : ∀ sl', P xs.length sl' → G (k (.nx sl'))) : G ((forGo turn xs sl).bind k) := by
  obtain ⟨sl', e, hp⟩ := for1 (turn := turn) h0 h
  rw [e]
  exact hk sl' hp
theorem forGo1 (turn : W → Sl → T Fl) (x : W) (sl : Sl) : forGo turn [x] sl = (turn x sl).bind fun f => match f with
    | .nx sl => .ok (.nx sl)
    | .cont sl => .ok (.nx sl)
    | .brk sl => .ok (.nx sl)
    | .ret r sl => .ok (.ret r sl) := by
  unfold forGo
  congr 1

/-! ### plans -/
structure Pn where
  many : Nat
  ds : List (Nat × Nat)
  outs : List Nat
def iW (n : Nat) : W := .int n
def pW (p : Nat × Nat) : W := .tup [iW p.1, iW p.2]
def plW (p : Pn) : W := .tup [iW p.many, .tup (p.ds.map pW), .tup (p.outs.map iW)]
def glW (gs : List (Nat × Nat)) : W := .tup (gs.map pW)
def Under : Nat → List (Nat × Nat) → Prop
  | _, [] => True
  | k, d :: ds => d.1 < k ∧ d.2 < k ∧ Under (k + 1) ds
structure Pn.Ok (p : Pn) : Prop where
  m1 : 1 ≤ p.many
  m2 : p.many ≤ 5
  un : Under p.many p.ds
  dl : p.ds.length ≤ 60
  ol : p.outs.length ≤ 4
  ou : ∀ v ∈ p.outs, v < p.many + p.ds.length
/-- values one after another -/
def grow {α : Type} (f : α → α → α) (d : α) : List α → List (Nat × Nat) → List α
  | acc, [] => acc
  | acc, p :: r => grow f d (acc ++ [f (acc.getD p.1 d) (acc.getD p.2 d)]) r
theorem grow_snoc {α : Type} {f : α → α → α} {d : α} : ∀ (ds : List (Nat × Nat)) (acc : List α) (p : Nat × Nat), grow f d acc (ds ++ [p]) = grow f d acc ds ++ [f ((grow f d acc ds).getD p.1 d) ((grow f d acc ds).getD p.2 d)]
  | [], _, _ => rfl
  | q :: ds, acc, p => grow_snoc ds _ p
theorem grow_len {α : Type} {f : α → α → α} {d : α} : ∀ (ds : List (Nat × Nat)) (acc : List α), (grow f d acc ds).length = acc.length + ds.length
  | [], _ => rfl
  | q :: ds, acc => by
    rw [grow, grow_len, List.length_append, List.length_singleton, List.length_cons]
    omega
theorem take_snoc {α : Type} {xs : List α} {i : Nat} {x : α} (h : xs[i]? = some x) : xs.take (i + 1) = xs.take i ++ [x] := by
  rw [List.take_add_one, h]
  rfl
theorem Under.get : ∀ {k : Nat} {ds : List (Nat × Nat)}, Under k ds → ∀ {i : Nat} {d : Nat × Nat}, ds[i]? = some d → d.1 < k + i ∧ d.2 < k + i
  | _, [], _, i, d, e => by simp at e
  | k, x :: ds, h, 0, d, e => by
    have e : x = d := by simpa using e
    subst e
    exact ⟨h.1, h.2.1⟩
  | k, x :: ds, h, i + 1, d, e => by
    have := Under.get h.2.2 (i := i) (d := d) (by simpa using e)
    omega
/-- reading the list of a grown row -/
theorem at_grow {α : Type} {f : α → α → α} {d : α} {g : α → W} {acc : List α} {ds : List (Nat × Nat)} {k : Nat} (h : k < acc.length + ds.length) : seqAt ((grow f d acc ds).map g) (k : Int) = .ok (g ((grow f d acc ds).getD k d)) := by
  refine seqAt_nat ?_
  have hl : k < (grow f d acc ds).length := by rw [grow_len]; exact h
  rw [List.getElem?_map, List.getD_eq_getElem?_getD, List.getElem?_eq_getElem hl]
  rfl
theorem pl0 (p : Pn) : idxW (plW p) (.int 0) = .ok (iW p.many) := rfl
theorem pl1 (p : Pn) : idxW (plW p) (.int 1) = .ok (.tup (p.ds.map pW)) := rfl
theorem pl2 (p : Pn) : idxW (plW p) (.int 2) = .ok (.tup (p.outs.map iW)) := rfl
theorem idxL (xs : List W) (i : Int) : idxW (.lst xs) (.int i) = seqAt xs i := rfl
theorem idxT (xs : List W) (i : Int) : idxW (.tup xs) (.int i) = seqAt xs i := rfl
theorem iW_eq (n : Nat) : iW n = .int n := rfl
theorem pW_eq (p : Nat × Nat) : pW p = .tup [.int p.1, .int p.2] := rfl
theorem mul1 {m : Nat} {w : W} (h : m ≤ 100) : mulW (.lst [w]) (.int m) = .ok (.lst (List.replicate m w), true) := by
  show T.guard _ _ = _
  rw [guard_t]
  · show T.ok (W.lst (List.replicate (m : Int).toNat [w]).flatten, true) = _
    rw [Int.toNat_natCast]
    congr 3
    clear h
    induction m with
    | zero => rfl
    | succ m ih => rw [List.replicate_succ, List.flatten_cons, ih, List.replicate_succ]; rfl
  · rw [Bool.and_eq_true, Bool.and_eq_true, decide_eq_true_eq, decide_eq_true_eq]
    exact ⟨⟨by omega, by omega⟩, Nat.ble_eq_true_of_le (by rw [Int.toNat_natCast, List.length_singleton]; exact Nat.le_trans (show 1 * m ≤ 100 by omega) (by decide))⟩
def sizes (p : Pn) : List Nat := grow (· + ·) 0 (List.replicate p.many 1) p.ds
theorem word_sizes_ok (p : Pn) (h : p.Ok) (n : Nat) : callN fks cn (n + 1) 13 [(plW p, false)] = .ok ((.lst ((sizes p).map iW), true), []) := by
  rw [callN_code rfl rfl]
  have h2 := h.m2
  have hl := h.dl
  simp -implicitDefEqProofs (disch := first | omega | (simp only [List.length_cons, List.length_nil]; omega)) only [exSs, exS, evE, evL, evO, evI, sSeq, sAsg, sExp, sApp, sPut, sRet, sRetv, sIte, sPar, lPar, moveS, kOp, kChain, kIdx, kLst, Ev.kTup, kCon, kVar, kNot, kAnd, kOr, kIte, kBi, kCall, kSli, oInt, kNeg, kConv, lA, lH, lAnd, lOr, lArgs, ioTake, putBack, own, hd, isV, getAll, hget_val, hget_slot, T.bind_ok, fz, rd0, rdS, sett0, settS, setG_nm, setGs_nil, setGs_cons, setG_tp, cond_true, cond_false, boolOf, bopsI, op2, two_ii, subW, ltW, leW, gtW, geW, eqR, neR, yes, nay, biW, bi1, bi2, isR, isnotR, isT1, isI1, isB1, isS1, yes, isInst, lenW, List.map_cons, List.map_nil, List.cons_append, List.nil_append, List.replicate_succ, List.replicate_zero, Nat.reduceSub, Bool.not_true, Bool.not_false, ite_true, ite_false, iSeq, seqOf, List.headD_cons, List.tail_cons, guard_tt, bind_as, pl0, pl1, iW_eq, guard_sz, mul1]
  rw [sFor]
  simp -implicitDefEqProofs only [exSs, exS, evE, evL, evO, evI, sSeq, sAsg, sExp, sApp, sPut, sRet, sRetv, sIte, sPar, lPar, moveS, kOp, kChain, kIdx, kLst, Ev.kTup, kCon, kVar, kNot, kAnd, kOr, kIte, kBi, kCall, kSli, oInt, kNeg, kConv, lA, lH, lAnd, lOr, lArgs, ioTake, putBack, own, hd, isV, getAll, hget_val, hget_slot, T.bind_ok, fz, rd0, rdS, sett0, settS, setG_nm, setGs_nil, setGs_cons, setG_tp, cond_true, cond_false, boolOf, bopsI, op2, two_ii, subW, ltW, leW, gtW, geW, eqR, neR, yes, nay, biW, bi1, bi2, isR, isnotR, isT1, isI1, isB1, isS1, yes, isInst, lenW, List.map_cons, List.map_nil, List.cons_append, List.nil_append, List.replicate_succ, List.replicate_zero, Nat.reduceSub, Bool.not_true, Bool.not_false, ite_true, ite_false, iSeq, seqOf, List.headD_cons, List.tail_cons, guard_tt, bind_as, pl1]
  refine for_bind (P := fun i sl => ∃ a b, sl = [some (plW p, false), some (.lst ((grow (· + ·) 0 (List.replicate p.many 1) (p.ds.take i)).map iW), true), a, b]) ⟨_, _, by rw [List.take_zero, grow, List.map_replicate]; rfl⟩ ?_ ?_
  · rintro i x _ hx ⟨a, b, rfl⟩
    rw [List.getElem?_map, Option.map_eq_some_iff] at hx
    obtain ⟨d, hdd, rfl⟩ := hx
    obtain ⟨u1, u2⟩ := h.un.get hdd
    have il := (List.getElem?_eq_some_iff.mp hdd).1
    have tl : (p.ds.take i).length = i := by rw [List.length_take]; omega
    refine ⟨_, ?_, some (iW d.1, false), some (iW d.2, false), rfl⟩
    rw [take_snoc hdd, grow_snoc, List.map_append]
    simp -implicitDefEqProofs (disch := first | (rw [List.length_replicate, tl]; omega) | (rw [List.length_map, grow_len, List.length_replicate, tl]; omega)) only [sTurn, pW_eq, exSs, exS, evE, evL, evO, evI, sSeq, sAsg, sExp, sApp, sPut, sRet, sRetv, sIte, sPar, lPar, moveS, kOp, kChain, kIdx, kLst, Ev.kTup, kCon, kVar, kNot, kAnd, kOr, kIte, kBi, kCall, kSli, oInt, kNeg, kConv, lA, lH, lAnd, lOr, lArgs, ioTake, putBack, own, hd, isV, getAll, hget_val, hget_slot, T.bind_ok, fz, rd0, rdS, sett0, settS, setG_nm, setGs_nil, setGs_cons, setG_tp, cond_true, cond_false, boolOf, bopsI, op2, two_ii, subW, ltW, leW, gtW, geW, eqR, neR, yes, nay, biW, bi1, bi2, isR, isnotR, isT1, isI1, isB1, isS1, yes, isInst, lenW, List.map_cons, List.map_nil, List.cons_append, List.nil_append, List.replicate_succ, List.replicate_zero, Nat.reduceSub, Bool.not_true, Bool.not_false, ite_true, ite_false, iSeq, seqOf, List.headD_cons, List.tail_cons, guard_tt, bind_as, pl1, idxL, at_grow, iW_eq, isLst, appL, guard_lt]
    rfl
  · rintro _ ⟨a, b, rfl⟩
    rw [List.length_map, List.take_length]
    rfl
end Ov
end
end
section
set_option Elab.async false
set_option linter.all false
set_option maxRecDepth 100000
set_option maxHeartbeats 1000000
noncomputable section
namespace Ov
open PySem L2 Ev
set_option autoImplicit false
theorem from_to_ok {a b c : Int} (h1 : b ≤ a) (h2 : a ≤ c) (n : Nat) : callN fks cn (n + 1) 7 [(.int a, false), (.int b, false), (.int c, false)] = .ok ((.bl true, false), []) := by
  rw [callN_code rfl rfl]
  simp -implicitDefEqProofs only [exSs, exS, evE, evL, evO, evI, sSeq, sAsg, sExp, sApp, sPut, sRet, sRetv, sIte, sPar, lPar, moveS, kOp, kChain, kIdx, kLst, Ev.kTup, kCon, kVar, kNot, kAnd, kOr, kIte, kBi, kCall, kSli, oInt, kNeg, kConv, lA, lH, lAnd, lOr, lArgs, ioTake, putBack, own, hd, isV, getAll, hget_val, hget_slot, T.bind_ok, fz, rd0, rdS, sett0, settS, setG_nm, setGs_nil, setGs_cons, setG_tp, cond_true, cond_false, boolOf, bopsI, op2, two_ii, subW, ltW, leW, gtW, geW, eqR, neR, yes, nay, biW, bi1, bi2, isR, isnotR, isT1, isI1, isB1, isS1, yes, isInst, lenW, List.map_cons, List.map_nil, List.cons_append, List.nil_append, List.replicate_succ, List.replicate_zero, Nat.reduceSub, Bool.not_true, Bool.not_false, ite_true, ite_false, iSeq, seqOf, List.headD_cons, List.tail_cons, guard_tt, bind_as, decide_eq_true h1, decide_eq_true h2]
  rfl
theorem io7 : ioOf fks 7 = [false, false, false] := rfl
theorem io8 : ioOf fks 8 = [false, false] := rfl
theorem io9 : ioOf fks 9 = [false] := rfl
theorem io10 : ioOf fks 10 = [false] := rfl
theorem io11 : ioOf fks 11 = [false, false] := rfl
theorem io12 : ioOf fks 12 = [false, false] := rfl
theorem io13 : ioOf fks 13 = [false] := rfl
theorem tup2_0 (a b : W) : idxW (.tup [a, b]) (.int 0) = .ok a := rfl
theorem tup2_1 (a b : W) : idxW (.tup [a, b]) (.int 1) = .ok b := rfl
theorem eqI_tt (i : Int) : eqI i i = true := by rw [eqI_dec]; exact decide_eq_true rfl
theorem len2 (a b : W) : ((([a, b] : List W).length : Nat) : Int) = 2 := rfl
theorem len3 (a b c : W) : ((([a, b, c] : List W).length : Nat) : Int) = 3 := rfl
theorem pair_under_ok {d : Nat × Nat} {k : Int} (h1 : (d.1 : Int) < k) (h2 : (d.2 : Int) < k) (n : Nat) : callN fks cn (n + 2) 8 [(pW d, false), (.int k, false)] = .ok ((.bl true, false), []) := by
  have e1 : callN fks cn (n + 1) 7 [(.int d.1, false), (.int 0, false), (.int (k - 1), false)] = .ok ((.bl true, false), []) := from_to_ok (by omega) (by omega) n
  have e2 : callN fks cn (n + 1) 7 [(.int d.2, false), (.int 0, false), (.int (k - 1), false)] = .ok ((.bl true, false), []) := from_to_ok (by omega) (by omega) n
  rw [callN_code rfl rfl]
  simp -implicitDefEqProofs only [pW_eq, exSs, exS, evE, evL, evO, evI, sSeq, sAsg, sExp, sApp, sPut, sRet, sRetv, sIte, sPar, lPar, moveS, kOp, kChain, kIdx, kLst, Ev.kTup, kCon, kVar, kNot, kAnd, kOr, kIte, kBi, kCall, kSli, oInt, kNeg, kConv, lA, lH, lAnd, lOr, lArgs, ioTake, putBack, own, hd, isV, getAll, hget_val, hget_slot, T.bind_ok, fz, rd0, rdS, sett0, settS, setG_nm, setGs_nil, setGs_cons, setG_tp, cond_true, cond_false, boolOf, bopsI, op2, two_ii, subW, ltW, leW, gtW, geW, eqR, neR, yes, nay, biW, bi1, bi2, isR, isnotR, isT1, isI1, isB1, isS1, yes, isInst, lenW, List.map_cons, List.map_nil, List.cons_append, List.nil_append, List.replicate_succ, List.replicate_zero, Nat.reduceSub, Bool.not_true, Bool.not_false, ite_true, ite_false, iSeq, seqOf, List.headD_cons, List.tail_cons, guard_tt, bind_as, len2, eqW_ii, eqI_tt, tup2_0, tup2_1, io7, e1, e2]
  rfl
theorem cn0 : cn 2 = .int 60 := rfl
theorem cn3 : cn 3 = .int 400 := rfl
theorem cn4 : cn 4 = .int 60 := rfl
theorem cn5 : cn 5 = .int 2000 := rfl
theorem many_ok {m : Nat} (h1 : 1 ≤ m) (h2 : m ≤ 60) (n : Nat) : callN fks cn (n + 2) 10 [(.int m, false)] = .ok ((.int m, false), []) := by
  have e1 : callN fks cn (n + 1) 7 [(.int m, false), (.int 1, false), (.int 60, false)] = .ok ((.bl true, false), []) := from_to_ok (by omega) (by omega) n
  rw [callN_code rfl rfl]
  simp -implicitDefEqProofs only [exSs, exS, evE, evL, evO, evI, sSeq, sAsg, sExp, sApp, sPut, sRet, sRetv, sIte, sPar, lPar, moveS, kOp, kChain, kIdx, kLst, Ev.kTup, kCon, kVar, kNot, kAnd, kOr, kIte, kBi, kCall, kSli, oInt, kNeg, kConv, lA, lH, lAnd, lOr, lArgs, ioTake, putBack, own, hd, isV, getAll, hget_val, hget_slot, T.bind_ok, fz, rd0, rdS, sett0, settS, setG_nm, setGs_nil, setGs_cons, setG_tp, cond_true, cond_false, boolOf, bopsI, op2, two_ii, subW, ltW, leW, gtW, geW, eqR, neR, yes, nay, biW, bi1, bi2, isR, isnotR, isT1, isI1, isB1, isS1, yes, isInst, lenW, List.map_cons, List.map_nil, List.cons_append, List.nil_append, List.replicate_succ, List.replicate_zero, Nat.reduceSub, Bool.not_true, Bool.not_false, ite_true, ite_false, iSeq, seqOf, List.headD_cons, List.tail_cons, guard_tt, bind_as, cn4, io7, e1]
  rfl
theorem value_ok {p : Pn} {v : Nat} (h : v < p.many + p.ds.length) (n : Nat) : callN fks cn (n + 2) 12 [(plW p, false), (.int v, false)] = .ok ((.non, false), []) := by
  have e1 : callN fks cn (n + 1) 7 [(.int v, false), (.int 0, false), (.int ((p.many : Int) + ((p.ds.map pW).length : Nat) - 1), false)] = .ok ((.bl true, false), []) := from_to_ok (by omega) (by rw [List.length_map]; omega) n
  rw [callN_code rfl rfl]
  simp -implicitDefEqProofs only [exSs, exS, evE, evL, evO, evI, sSeq, sAsg, sExp, sApp, sPut, sRet, sRetv, sIte, sPar, lPar, moveS, kOp, kChain, kIdx, kLst, Ev.kTup, kCon, kVar, kNot, kAnd, kOr, kIte, kBi, kCall, kSli, oInt, kNeg, kConv, lA, lH, lAnd, lOr, lArgs, ioTake, putBack, own, hd, isV, getAll, hget_val, hget_slot, T.bind_ok, fz, rd0, rdS, sett0, settS, setG_nm, setGs_nil, setGs_cons, setG_tp, cond_true, cond_false, boolOf, bopsI, op2, two_ii, subW, ltW, leW, gtW, geW, eqR, neR, yes, nay, biW, bi1, bi2, isR, isnotR, isT1, isI1, isB1, isS1, yes, isInst, lenW, List.map_cons, List.map_nil, List.cons_append, List.nil_append, List.replicate_succ, List.replicate_zero, Nat.reduceSub, Bool.not_true, Bool.not_false, ite_true, ite_false, iSeq, seqOf, List.headD_cons, List.tail_cons, guard_tt, bind_as, pl0, pl1, iW_eq, io7, e1]
  rfl
theorem enumL_get : ∀ {xs : List W} {k i : Nat} {w : W}, (enumL k xs)[i]? = some w → ∃ x, xs[i]? = some x ∧ w = .tup [.int ((k + i : Nat) : Int), x]
  | [], k, i, w, h => by simp [enumL] at h
  | x :: xs, k, 0, w, h => by
    simp [enumL] at h
    exact ⟨x, rfl, h.symm⟩
  | x :: xs, k, i + 1, w, h => by
    obtain ⟨y, e1, e2⟩ := enumL_get (xs := xs) (k := k + 1) (i := i) (w := w) (by simpa [enumL] using h)
    exact ⟨y, by simpa using e1, by rw [e2, show k + 1 + i = k + (i + 1) by omega]⟩
theorem plan_ok {p : Pn} (h : p.Ok) (n : Nat) : callN fks cn (n + 3) 9 [(plW p, false)] = .ok ((plW p, false), []) := by
  have m1 := h.m1
  have m2 := h.m2
  have dl := h.dl
  have ol := h.ol
  have e1 : callN fks cn (n + 2) 7 [(.int p.many, false), (.int 1, false), (.int 60, false)] = .ok ((.bl true, false), []) := from_to_ok (by omega) (by omega) (n + 1)
  have g1 : decide ((400 : Int) < ((p.ds.map pW).length : Nat)) = false := decide_eq_false (by rw [List.length_map]; omega)
  have g2 : decide ((60 : Int) < ((p.outs.map iW).length : Nat)) = false := decide_eq_false (by rw [List.length_map]; omega)
  rw [callN_code rfl rfl]
  simp -implicitDefEqProofs only [plW, exSs, exS, evE, evL, evO, evI, sSeq, sAsg, sExp, sApp, sPut, sRet, sRetv, sIte, sPar, lPar, moveS, kOp, kChain, kIdx, kLst, Ev.kTup, kCon, kVar, kNot, kAnd, kOr, kIte, kBi, kCall, kSli, oInt, kNeg, kConv, lA, lH, lAnd, lOr, lArgs, ioTake, putBack, own, hd, isV, getAll, hget_val, hget_slot, T.bind_ok, fz, rd0, rdS, sett0, settS, setG_nm, setGs_nil, setGs_cons, setG_tp, cond_true, cond_false, boolOf, bopsI, op2, two_ii, subW, ltW, leW, gtW, geW, eqR, neR, yes, nay, biW, bi1, bi2, isR, isnotR, isT1, isI1, isB1, isS1, yes, isInst, lenW, List.map_cons, List.map_nil, List.cons_append, List.nil_append, List.replicate_succ, List.replicate_zero, Nat.reduceSub, Bool.not_true, Bool.not_false, ite_true, ite_false, iSeq, seqOf, List.headD_cons, List.tail_cons, guard_tt, bind_as, len3, eqW_ii, eqI_tt, iW_eq, cn3, cn4, io7, e1, g1]
  rw [sFor]
  simp -implicitDefEqProofs only [exSs, exS, evE, evL, evO, evI, sSeq, sAsg, sExp, sApp, sPut, sRet, sRetv, sIte, sPar, lPar, moveS, kOp, kChain, kIdx, kLst, Ev.kTup, kCon, kVar, kNot, kAnd, kOr, kIte, kBi, kCall, kSli, oInt, kNeg, kConv, lA, lH, lAnd, lOr, lArgs, ioTake, putBack, own, hd, isV, getAll, hget_val, hget_slot, T.bind_ok, fz, rd0, rdS, sett0, settS, setG_nm, setGs_nil, setGs_cons, setG_tp, cond_true, cond_false, boolOf, bopsI, op2, two_ii, subW, ltW, leW, gtW, geW, eqR, neR, yes, nay, biW, bi1, bi2, isR, isnotR, isT1, isI1, isB1, isS1, yes, isInst, lenW, List.map_cons, List.map_nil, List.cons_append, List.nil_append, List.replicate_succ, List.replicate_zero, Nat.reduceSub, Bool.not_true, Bool.not_false, ite_true, ite_false, iSeq, seqOf, List.headD_cons, List.tail_cons, guard_tt, bind_as, Ev.iEnum, enOf]
  refine for_bind (P := fun i sl => ∃ a b c, sl = [some (plW p, false), some (.int p.many, false), some (.tup (p.ds.map pW), false), some (.tup (p.outs.map iW), false), a, b, c]) ⟨_, _, _, rfl⟩ ?_ ?_
  · rintro i x _ hx ⟨a, b, c, rfl⟩
    obtain ⟨y, hy, rfl⟩ := enumL_get hx
    rw [List.getElem?_map, Option.map_eq_some_iff] at hy
    obtain ⟨d, hdd, rfl⟩ := hy
    obtain ⟨u1, u2⟩ := h.un.get hdd
    have e2 : callN fks cn (n + 2) 8 [(pW d, false), (.int ((p.many : Int) + ((0 + i : Nat) : Int)), false)] = .ok ((.bl true, false), []) := pair_under_ok (by omega) (by omega) n
    refine ⟨_, ?_, some (.int ((0 + i : Nat) : Int), false), some (pW d, false), c, rfl⟩
    simp -implicitDefEqProofs only [sTurn, exSs, exS, evE, evL, evO, evI, sSeq, sAsg, sExp, sApp, sPut, sRet, sRetv, sIte, sPar, lPar, moveS, kOp, kChain, kIdx, kLst, Ev.kTup, kCon, kVar, kNot, kAnd, kOr, kIte, kBi, kCall, kSli, oInt, kNeg, kConv, lA, lH, lAnd, lOr, lArgs, ioTake, putBack, own, hd, isV, getAll, hget_val, hget_slot, T.bind_ok, fz, rd0, rdS, sett0, settS, setG_nm, setGs_nil, setGs_cons, setG_tp, cond_true, cond_false, boolOf, bopsI, op2, two_ii, subW, ltW, leW, gtW, geW, eqR, neR, yes, nay, biW, bi1, bi2, isR, isnotR, isT1, isI1, isB1, isS1, yes, isInst, lenW, List.map_cons, List.map_nil, List.cons_append, List.nil_append, List.replicate_succ, List.replicate_zero, Nat.reduceSub, Bool.not_true, Bool.not_false, ite_true, ite_false, iSeq, seqOf, List.headD_cons, List.tail_cons, guard_tt, bind_as, io8, e2]
  · rintro _ ⟨a, b, c, rfl⟩
    simp -implicitDefEqProofs only [exSs, exS, evE, evL, evO, evI, sSeq, sAsg, sExp, sApp, sPut, sRet, sRetv, sIte, sPar, lPar, moveS, kOp, kChain, kIdx, kLst, Ev.kTup, kCon, kVar, kNot, kAnd, kOr, kIte, kBi, kCall, kSli, oInt, kNeg, kConv, lA, lH, lAnd, lOr, lArgs, ioTake, putBack, own, hd, isV, getAll, hget_val, hget_slot, T.bind_ok, fz, rd0, rdS, sett0, settS, setG_nm, setGs_nil, setGs_cons, setG_tp, cond_true, cond_false, boolOf, bopsI, op2, two_ii, subW, ltW, leW, gtW, geW, eqR, neR, yes, nay, biW, bi1, bi2, isR, isnotR, isT1, isI1, isB1, isS1, yes, isInst, lenW, List.map_cons, List.map_nil, List.cons_append, List.nil_append, List.replicate_succ, List.replicate_zero, Nat.reduceSub, Bool.not_true, Bool.not_false, ite_true, ite_false, iSeq, seqOf, List.headD_cons, List.tail_cons, guard_tt, bind_as, cn0, g2]
    rw [sFor]
    simp -implicitDefEqProofs only [exSs, exS, evE, evL, evO, evI, sSeq, sAsg, sExp, sApp, sPut, sRet, sRetv, sIte, sPar, lPar, moveS, kOp, kChain, kIdx, kLst, Ev.kTup, kCon, kVar, kNot, kAnd, kOr, kIte, kBi, kCall, kSli, oInt, kNeg, kConv, lA, lH, lAnd, lOr, lArgs, ioTake, putBack, own, hd, isV, getAll, hget_val, hget_slot, T.bind_ok, fz, rd0, rdS, sett0, settS, setG_nm, setGs_nil, setGs_cons, setG_tp, cond_true, cond_false, boolOf, bopsI, op2, two_ii, subW, ltW, leW, gtW, geW, eqR, neR, yes, nay, biW, bi1, bi2, isR, isnotR, isT1, isI1, isB1, isS1, yes, isInst, lenW, List.map_cons, List.map_nil, List.cons_append, List.nil_append, List.replicate_succ, List.replicate_zero, Nat.reduceSub, Bool.not_true, Bool.not_false, ite_true, ite_false, iSeq, seqOf, List.headD_cons, List.tail_cons, guard_tt, bind_as, Ev.iEnum, enOf]
    refine for_bind (P := fun i sl => ∃ a b c, sl = [some (plW p, false), some (.int p.many, false), some (.tup (p.ds.map pW), false), some (.tup (p.outs.map iW), false), a, b, c]) ⟨_, _, _, rfl⟩ ?_ ?_
    · rintro i x _ hx ⟨a, b, c, rfl⟩
      obtain ⟨y, hy, rfl⟩ := enumL_get hx
      rw [List.getElem?_map, Option.map_eq_some_iff] at hy
      obtain ⟨v, hv, rfl⟩ := hy
      have lv := h.ou v (List.mem_of_getElem? hv)
      have e2 : callN fks cn (n + 2) 7 [(.int v, false), (.int 0, false), (.int ((p.many : Int) + ((p.ds.map pW).length : Nat) - 1), false)] = .ok ((.bl true, false), []) := from_to_ok (by omega) (by rw [List.length_map]; omega) (n + 1)
      refine ⟨_, ?_, some (.int ((0 + i : Nat) : Int), false), b, some (.int v, false), rfl⟩
      simp -implicitDefEqProofs only [sTurn, exSs, exS, evE, evL, evO, evI, sSeq, sAsg, sExp, sApp, sPut, sRet, sRetv, sIte, sPar, lPar, moveS, kOp, kChain, kIdx, kLst, Ev.kTup, kCon, kVar, kNot, kAnd, kOr, kIte, kBi, kCall, kSli, oInt, kNeg, kConv, lA, lH, lAnd, lOr, lArgs, ioTake, putBack, own, hd, isV, getAll, hget_val, hget_slot, T.bind_ok, fz, rd0, rdS, sett0, settS, setG_nm, setGs_nil, setGs_cons, setG_tp, cond_true, cond_false, boolOf, bopsI, op2, two_ii, subW, ltW, leW, gtW, geW, eqR, neR, yes, nay, biW, bi1, bi2, isR, isnotR, isT1, isI1, isB1, isS1, yes, isInst, lenW, List.map_cons, List.map_nil, List.cons_append, List.nil_append, List.replicate_succ, List.replicate_zero, Nat.reduceSub, Bool.not_true, Bool.not_false, ite_true, ite_false, iSeq, seqOf, List.headD_cons, List.tail_cons, guard_tt, bind_as, iW_eq, io7, e2]
    · rintro _ ⟨a, b, c, rfl⟩
      simp -implicitDefEqProofs only [exSs, exS, evE, evL, evO, evI, sSeq, sAsg, sExp, sApp, sPut, sRet, sRetv, sIte, sPar, lPar, moveS, kOp, kChain, kIdx, kLst, Ev.kTup, kCon, kVar, kNot, kAnd, kOr, kIte, kBi, kCall, kSli, oInt, kNeg, kConv, lA, lH, lAnd, lOr, lArgs, ioTake, putBack, own, hd, isV, getAll, hget_val, hget_slot, T.bind_ok, fz, rd0, rdS, sett0, settS, setG_nm, setGs_nil, setGs_cons, setG_tp, cond_true, cond_false, boolOf, bopsI, op2, two_ii, subW, ltW, leW, gtW, geW, eqR, neR, yes, nay, biW, bi1, bi2, isR, isnotR, isT1, isI1, isB1, isS1, yes, isInst, lenW, List.map_cons, List.map_nil, List.cons_append, List.nil_append, List.replicate_succ, List.replicate_zero, Nat.reduceSub, Bool.not_true, Bool.not_false, ite_true, ite_false, iSeq, seqOf, List.headD_cons, List.tail_cons, guard_tt, bind_as]
      rfl
theorem goals_ok {m : Nat} {gs : List (Nat × Nat)} (h1 : 1 ≤ m) (h2 : m ≤ 60) (hl : gs.length ≤ 60) (hg : ∀ g ∈ gs, g.1 ≤ g.2 ∧ g.2 < m) (n : Nat) : callN fks cn (n + 3) 11 [(.int m, false), (glW gs, false)] = .ok ((glW gs, false), []) := by
  have e1 : callN fks cn (n + 2) 10 [(.int m, false)] = .ok ((.int m, false), []) := many_ok h1 h2 n
  have g1 : decide ((60 : Int) < ((gs.map pW).length : Nat)) = false := decide_eq_false (by rw [List.length_map]; omega)
  rw [callN_code rfl rfl]
  simp -implicitDefEqProofs only [glW, exSs, exS, evE, evL, evO, evI, sSeq, sAsg, sExp, sApp, sPut, sRet, sRetv, sIte, sPar, lPar, moveS, kOp, kChain, kIdx, kLst, Ev.kTup, kCon, kVar, kNot, kAnd, kOr, kIte, kBi, kCall, kSli, oInt, kNeg, kConv, lA, lH, lAnd, lOr, lArgs, ioTake, putBack, own, hd, isV, getAll, hget_val, hget_slot, T.bind_ok, fz, rd0, rdS, sett0, settS, setG_nm, setGs_nil, setGs_cons, setG_tp, cond_true, cond_false, boolOf, bopsI, op2, two_ii, subW, ltW, leW, gtW, geW, eqR, neR, yes, nay, biW, bi1, bi2, isR, isnotR, isT1, isI1, isB1, isS1, yes, isInst, lenW, List.map_cons, List.map_nil, List.cons_append, List.nil_append, List.replicate_succ, List.replicate_zero, Nat.reduceSub, Bool.not_true, Bool.not_false, ite_true, ite_false, iSeq, seqOf, List.headD_cons, List.tail_cons, guard_tt, bind_as, io10, e1, cn0, g1]
  rw [sFor]
  simp -implicitDefEqProofs only [exSs, exS, evE, evL, evO, evI, sSeq, sAsg, sExp, sApp, sPut, sRet, sRetv, sIte, sPar, lPar, moveS, kOp, kChain, kIdx, kLst, Ev.kTup, kCon, kVar, kNot, kAnd, kOr, kIte, kBi, kCall, kSli, oInt, kNeg, kConv, lA, lH, lAnd, lOr, lArgs, ioTake, putBack, own, hd, isV, getAll, hget_val, hget_slot, T.bind_ok, fz, rd0, rdS, sett0, settS, setG_nm, setGs_nil, setGs_cons, setG_tp, cond_true, cond_false, boolOf, bopsI, op2, two_ii, subW, ltW, leW, gtW, geW, eqR, neR, yes, nay, biW, bi1, bi2, isR, isnotR, isT1, isI1, isB1, isS1, yes, isInst, lenW, List.map_cons, List.map_nil, List.cons_append, List.nil_append, List.replicate_succ, List.replicate_zero, Nat.reduceSub, Bool.not_true, Bool.not_false, ite_true, ite_false, iSeq, seqOf, List.headD_cons, List.tail_cons, guard_tt, bind_as, Ev.iEnum, enOf]
  refine for_bind (P := fun i sl => ∃ a b, sl = [some (.int m, false), some (glW gs, false), a, b]) ⟨_, _, rfl⟩ ?_ ?_
  · rintro i x _ hx ⟨a, b, rfl⟩
    obtain ⟨y, hy, rfl⟩ := enumL_get hx
    rw [List.getElem?_map, Option.map_eq_some_iff] at hy
    obtain ⟨d, hdd, rfl⟩ := hy
    obtain ⟨u1, u2⟩ := hg d (List.mem_of_getElem? hdd)
    have e2 : callN fks cn (n + 2) 8 [(pW d, false), (.int m, false)] = .ok ((.bl true, false), []) := pair_under_ok (by omega) (by omega) n
    rw [pW_eq] at e2 ⊢
    have g2 : decide ((d.2 : Int) < (d.1 : Int)) = false := decide_eq_false (by omega)
    refine ⟨_, ?_, some (.int ((0 + i : Nat) : Int), false), some (.tup [.int d.1, .int d.2], false), rfl⟩
    simp -implicitDefEqProofs only [sTurn, exSs, exS, evE, evL, evO, evI, sSeq, sAsg, sExp, sApp, sPut, sRet, sRetv, sIte, sPar, lPar, moveS, kOp, kChain, kIdx, kLst, Ev.kTup, kCon, kVar, kNot, kAnd, kOr, kIte, kBi, kCall, kSli, oInt, kNeg, kConv, lA, lH, lAnd, lOr, lArgs, ioTake, putBack, own, hd, isV, getAll, hget_val, hget_slot, T.bind_ok, fz, rd0, rdS, sett0, settS, setG_nm, setGs_nil, setGs_cons, setG_tp, cond_true, cond_false, boolOf, bopsI, op2, two_ii, subW, ltW, leW, gtW, geW, eqR, neR, yes, nay, biW, bi1, bi2, isR, isnotR, isT1, isI1, isB1, isS1, yes, isInst, lenW, List.map_cons, List.map_nil, List.cons_append, List.nil_append, List.replicate_succ, List.replicate_zero, Nat.reduceSub, Bool.not_true, Bool.not_false, ite_true, ite_false, iSeq, seqOf, List.headD_cons, List.tail_cons, guard_tt, bind_as, io8, e2, tup2_0, tup2_1, g2]
  · rintro _ ⟨a, b, rfl⟩
    simp -implicitDefEqProofs only [exSs, exS, evE, evL, evO, evI, sSeq, sAsg, sExp, sApp, sPut, sRet, sRetv, sIte, sPar, lPar, moveS, kOp, kChain, kIdx, kLst, Ev.kTup, kCon, kVar, kNot, kAnd, kOr, kIte, kBi, kCall, kSli, oInt, kNeg, kConv, lA, lH, lAnd, lOr, lArgs, ioTake, putBack, own, hd, isV, getAll, hget_val, hget_slot, T.bind_ok, fz, rd0, rdS, sett0, settS, setG_nm, setGs_nil, setGs_cons, setG_tp, cond_true, cond_false, boolOf, bopsI, op2, two_ii, subW, ltW, leW, gtW, geW, eqR, neR, yes, nay, biW, bi1, bi2, isR, isnotR, isT1, isI1, isB1, isS1, yes, isInst, lenW, List.map_cons, List.map_nil, List.cons_append, List.nil_append, List.replicate_succ, List.replicate_zero, Nat.reduceSub, Bool.not_true, Bool.not_false, ite_true, ite_false, iSeq, seqOf, List.headD_cons, List.tail_cons, guard_tt, bind_as, glW]
    rfl
theorem short_ok {p : Pn} (h : p.Ok) {v : Nat} (hv : v < p.many + p.ds.length) (hs : (sizes p).getD v 0 ≤ 2000) (n : Nat) : callN fks cn (n + 4) 15 [(plW p, false), (.int v, false)] = .ok ((.non, false), []) := by
  have e1 : callN fks cn (n + 3) 9 [(plW p, false)] = .ok ((plW p, false), []) := plan_ok h n
  have e2 : callN fks cn (n + 3) 12 [(plW p, false), (.int v, false)] = .ok ((.non, false), []) := value_ok hv (n + 1)
  have e3 : callN fks cn (n + 3) 13 [(plW p, false)] = .ok ((.lst ((sizes p).map iW), true), []) := word_sizes_ok p h (n + 2)
  have e4 : seqAt ((sizes p).map iW) (v : Int) = .ok (.int ((sizes p).getD v 0 : Nat)) := at_grow (by rw [List.length_replicate]; exact hv)
  have g : decide ((2000 : Int) < ((sizes p).getD v 0 : Nat)) = false := decide_eq_false (by omega)
  rw [callN_code rfl rfl]
  simp -implicitDefEqProofs only [exSs, exS, evE, evL, evO, evI, sSeq, sAsg, sExp, sApp, sPut, sRet, sRetv, sIte, sPar, lPar, moveS, kOp, kChain, kIdx, kLst, Ev.kTup, kCon, kVar, kNot, kAnd, kOr, kIte, kBi, kCall, kSli, oInt, kNeg, kConv, lA, lH, lAnd, lOr, lArgs, ioTake, putBack, own, hd, isV, getAll, hget_val, hget_slot, T.bind_ok, fz, rd0, rdS, sett0, settS, setG_nm, setGs_nil, setGs_cons, setG_tp, cond_true, cond_false, boolOf, bopsI, op2, two_ii, subW, ltW, leW, gtW, geW, eqR, neR, yes, nay, biW, bi1, bi2, isR, isnotR, isT1, isI1, isB1, isS1, yes, isInst, lenW, List.map_cons, List.map_nil, List.cons_append, List.nil_append, List.replicate_succ, List.replicate_zero, Nat.reduceSub, Bool.not_true, Bool.not_false, ite_true, ite_false, iSeq, seqOf, List.headD_cons, List.tail_cons, guard_tt, bind_as, io9, io12, io13, e1, e2, e3, idxL, e4, cn5, g]
  rfl
end Ov
end
end
section
set_option Elab.async false
set_option linter.all false
set_option maxRecDepth 100000
set_option maxHeartbeats 1000000
noncomputable section
namespace Ov
open PySem L2 Ev
set_option autoImplicit false
theorem ixOf_nat {n k : Nat} (h : k < n) : ixOf n (k : Int) = some k := by
  unfold ixOf
  rw [if_pos (by omega), if_pos (by omega), Int.toNat_natCast]
theorem putL {xs : List W} {k : Nat} {v : W} (h : k < xs.length) : putW (.lst xs) (.int k) v = .ok (.lst (xs.set k v)) := by
  show (match ixOf xs.length (k : Int) with | some j => T.ok (W.lst (sett xs j v)) | none => .stk) = _
  rw [ixOf_nat h]
  show T.ok (W.lst (sett xs k v)) = _
  rw [sett_eq]
theorem putD (kvs : List (Ky × W)) (k : Int) (v : W) (h : kvs.length ≤ 100000) : putW (.dct kvs) (.int k) v = .ok (.dct (Ev.putK kvs (.inl k) v)) := by
  show T.guard _ _ = _
  rw [guard_lt h]
theorem has_look : ∀ (kvs : List (Ky × W)) (x : Ky), hasK kvs x = (lookK kvs x).isSome
  | [], _ => rfl
  | (k, v) :: r, x => by
    unfold hasK lookK
    cases eqK k x with
    | true => rfl
    | false => exact has_look r x
theorem look_map : ∀ (kvs : List (Ky × W)) (x y : Ky) (w : W), lookK (mapK kvs x w) y = if x = y then (lookK kvs y).map fun _ => w else lookK kvs y
  | [], x, y, w => by
    unfold mapK lookK
    split <;> rfl
  | (k, v) :: r, x, y, w => by
    unfold mapK lookK
    have ih := look_map r x y w
    cases h : eqK k y with
    | true =>
      have e : k = y := by rw [eqK_dec] at h; exact of_decide_eq_true h
      subst e
      show some (cond (eqK k x) w v) = _
      by_cases q : x = k
      · rw [if_pos q, q, eqK_dec, decide_eq_true rfl]
        rfl
      · rw [if_neg q, eqK_dec, decide_eq_false fun z => q z.symm]
        rfl
    | false => exact ih
theorem look_app : ∀ (kvs : List (Ky × W)) (x y : Ky) (w : W), lookK kvs x = none → lookK (kvs ++ [(x, w)]) y = if x = y then some w else lookK kvs y
  | [], x, y, w, _ => by
    show cond (eqK x y) (some w) (lookK [] y) = _
    rw [eqK_dec]
    by_cases q : x = y
    · rw [if_pos q, decide_eq_true q]; rfl
    · rw [if_neg q, decide_eq_false q]; rfl
  | (k, v) :: r, x, y, w, h => by
    have h : cond (eqK k x) (some v) (lookK r x) = none := h
    show cond (eqK k y) (some v) (lookK (r ++ [(x, w)]) y) = if x = y then some w else cond (eqK k y) (some v) (lookK r y)
    cases h1 : eqK k x with
    | true => rw [h1] at h; cases h
    | false =>
      rw [h1] at h
      have ih := look_app r x y w h
      rw [ih]
      cases h2 : eqK k y with
      | false => rfl
      | true =>
        have e : k = y := by rw [eqK_dec] at h2; exact of_decide_eq_true h2
        have ne : k ≠ x := by rw [eqK_dec] at h1; exact of_decide_eq_false h1
        have nq : ¬ x = y := fun z => ne (e.trans z.symm)
        rw [if_neg nq, if_neg nq]
theorem look_put (kvs : List (Ky × W)) (x y : Ky) (w : W) : lookK (Ev.putK kvs x w) y = if x = y then some w else lookK kvs y := by
  unfold Ev.putK
  rw [has_look]
  cases h : lookK kvs x with
  | some v =>
    show lookK (mapK kvs x w) y = _
    rw [look_map]
    by_cases q : x = y
    · rw [if_pos q, if_pos q, ← q, h]; rfl
    · rw [if_neg q, if_neg q]
  | none => exact look_app kvs x y w h
theorem put_len (kvs : List (Ky × W)) (x : Ky) (w : W) : (Ev.putK kvs x w).length ≤ kvs.length + 1 := by
  have ml : ∀ (l : List (Ky × W)), (mapK l x w).length = l.length := fun l => by
    induction l with
    | nil => rfl
    | cons a r ih => obtain ⟨k, v⟩ := a; exact congrArg (· + 1) ih
  unfold Ev.putK
  cases hasK kvs x with
  | true => show (mapK kvs x w).length ≤ _; rw [ml]; omega
  | false => show (kvs ++ [(x, w)]).length ≤ _; rw [List.length_append]; exact Nat.le_refl _
theorem idxD (kvs : List (Ky × W)) (i : Int) : idxW (.dct kvs) (.int i) = T.ofOpt (lookK kvs (.inl i)) := rfl
theorem opt_some {α : Type} (a : α) : T.ofOpt (some a) = .ok a := rfl
/-! ### comprehensions -/
theorem lc_ok {turn : W → Sl → T (Option W × Sl)} {f : W → Option W} {S : Sl} : ∀ {xs acc : List W}, xs.length + acc.length ≤ 100000 → (∀ x ∈ xs, turn x S = .ok (f x, S)) → lcGo turn xs acc S = .ok (acc.reverse ++ xs.filterMap f, S)
  | [], acc, _, _ => by
    unfold lcGo
    rw [List.filterMap_nil, List.append_nil]
  | x :: xs, acc, hl, h => by
    unfold lcGo
    rw [h x (List.mem_cons_self ..)]
    rw [List.length_cons] at hl
    cases e : f x with
    | none =>
      show lcGo turn xs acc S = _
      rw [lc_ok (by omega) fun y hy => h y (List.mem_cons_of_mem _ hy), List.filterMap_cons, e]
    | some w =>
      show T.guard _ (lcGo turn xs (w :: acc) S) = _
      rw [guard_lt (by omega), lc_ok (by rw [List.length_cons]; omega) fun y hy => h y (List.mem_cons_of_mem _ hy), List.filterMap_cons, e, List.reverse_cons, List.append_assoc]
      rfl
theorem dnL_len (lo : Int) : ∀ n : Nat, (dnL lo n).length = n
  | 0 => rfl
  | n + 1 => congrArg (· + 1) (dnL_len (lo - 1) n)
theorem dnL_get : ∀ {lo : Int} {n i : Nat} {w : W}, (dnL lo n)[i]? = some w → w = .int (lo - i) ∧ i < n
  | lo, 0, i, w, h => by simp [dnL] at h
  | lo, n + 1, 0, w, h => by
    simp [dnL] at h
    exact ⟨by rw [← h]; congr 1; omega, by omega⟩
  | lo, n + 1, i + 1, w, h => by
    obtain ⟨e, l⟩ := dnL_get (lo := lo - 1) (n := n) (i := i) (w := w) (by simpa [dnL] using h)
    exact ⟨by rw [e]; congr 1; omega, by omega⟩
/-! ### the values that a value needs -/
structure Need (p : Pn) (v : Nat) (ns : List Nat) : Prop where
  asc : ns.Pairwise (· < ·)
  has : v ∈ ns
  rng : ∀ x ∈ ns, x < p.many + p.ds.length
  cls : ∀ x ∈ ns, p.many ≤ x → ∀ d, p.ds[x - p.many]? = some d → d.1 ∈ ns ∧ d.2 ∈ ns
theorem boolMap (wl : List Bool) {k : Nat} {b : Bool} (h : wl[k]? = some b) : seqAt (wl.map W.bl) (k : Int) = .ok (.bl b) := seqAt_nat (by rw [List.getElem?_map, h]; rfl)
def wantF : W → Option W
  | .tup [.int k, .bl b] => cond b (some (.int k)) none
  | _ => none
theorem want_enum : ∀ (wl : List Bool) (k : Nat), (enumL k (wl.map W.bl)).filterMap wantF = (((List.range' k wl.length)).filter fun i => wl.getD (i - k) false).map iW
  | [], k => rfl
  | b :: wl, k => by
    have ih := want_enum wl (k + 1)
    have e : ((List.range' (k + 1) wl.length).filter fun i => (b :: wl).getD (i - k) false) = ((List.range' (k + 1) wl.length).filter fun i => wl.getD (i - (k + 1)) false) := by
      refine List.filter_congr fun i hi => ?_
      rw [List.mem_range'_1] at hi
      rw [show i - k = (i - (k + 1)) + 1 by omega, List.getD_cons_succ]
    rw [List.map_cons, enumL, List.filterMap_cons, List.length_cons, List.range'_succ, List.filter_cons, e]
    rw [ih, Nat.sub_self, List.getD_cons_zero]
    cases b with
    | true => rfl
    | false => rfl
theorem setB (wl : List Bool) (k : Nat) : (wl.map W.bl).set k (.bl true) = (wl.set k true).map W.bl := by rw [List.map_set]
theorem getT {wl : List Bool} {k j : Nat} (h : wl[j]? = some true) : (wl.set k true)[j]? = some true := by
  by_cases e : k = j
  · subst e
    exact List.getElem?_set_self (List.getElem?_eq_some_iff.mp h).1
  · rw [List.getElem?_set_ne e]; exact h

theorem needed_ok {p : Pn} (h : p.Ok) {v : Nat} (hv : v < p.many + p.ds.length) (n : Nat) : ∃ ns, Need p v ns ∧ callN fks cn (n + 1) 14 [(plW p, false), (.lst [.int v], false)] = .ok ((.lst (ns.map iW), true), []) := by
  have m1 := h.m1
  have m2 := h.m2
  have dl := h.dl
  generalize hN : p.many + p.ds.length = N at *
  have hadd : (p.many : Int) + ((p.ds.map pW).length : Nat) = (N : Nat) := by rw [List.length_map]; omega
  have finN : ∀ wl : List Bool, wl.length = N → wl[v]? = some true → (∀ x, p.many ≤ x → x < N → wl[x]? = some true → ∀ d, p.ds[x - p.many]? = some d → wl[d.1]? = some true ∧ wl[d.2]? = some true) → Need p v ((List.range' 0 wl.length).filter fun i => wl.getD (i - 0) false) := fun wl l1 l2 l3 => by
    have mem : ∀ x, x ∈ ((List.range' 0 wl.length).filter fun i => wl.getD (i - 0) false) ↔ wl[x]? = some true := fun x => by
      rw [List.mem_filter, List.mem_range'_1, Nat.sub_zero, List.getD_eq_getElem?_getD]
      constructor
      · rintro ⟨_, e⟩
        cases q : wl[x]? with
        | none => rw [q] at e; cases e
        | some b => rw [q] at e; have e : b = true := e; rw [e]
      · intro e
        have := (List.getElem?_eq_some_iff.mp e).1
        exact ⟨⟨Nat.zero_le _, by omega⟩, by rw [e]; rfl⟩
    refine ⟨List.Pairwise.filter _ (List.pairwise_lt_range' ..), (mem v).mpr l2, fun x hx => ?_, fun x hx hm d hd => ?_⟩
    · have := (List.getElem?_eq_some_iff.mp ((mem x).mp hx)).1
      omega
    · have hx := (mem x).mp hx
      have := (List.getElem?_eq_some_iff.mp hx).1
      obtain ⟨a, b⟩ := l3 x hm (by omega) hx d hd
      exact ⟨(mem _).mpr a, (mem _).mpr b⟩
  suffices key : ∃ wl : List Bool, wl.length = N ∧ wl[v]? = some true ∧ (∀ x, p.many ≤ x → x < N → wl[x]? = some true → ∀ d, p.ds[x - p.many]? = some d → wl[d.1]? = some true ∧ wl[d.2]? = some true) ∧ callN fks cn (n + 1) 14 [(plW p, false), (.lst [.int v], false)] = .ok ((.lst (((List.range' 0 wl.length).filter fun i => wl.getD (i - 0) false).map iW), true), []) by
    obtain ⟨wl, l1, l2, l3, e⟩ := key
    exact ⟨_, finN wl l1 l2 l3, e⟩
  rw [callN_code rfl rfl]
  simp -implicitDefEqProofs (disch := omega) only [exSs, exS, evE, evL, evO, evI, sSeq, sAsg, sExp, sApp, sPut, sRet, sRetv, sIte, sPar, lPar, moveS, kOp, kChain, kIdx, kLst, Ev.kTup, kCon, kVar, kNot, kAnd, kOr, kIte, kBi, kCall, kSli, oInt, kNeg, kConv, lA, lH, lAnd, lOr, lArgs, ioTake, putBack, own, hd, isV, getAll, hget_val, hget_slot, T.bind_ok, fz, rd0, rdS, sett0, settS, setG_nm, setGs_nil, setGs_cons, setG_tp, cond_true, cond_false, boolOf, bopsI, op2, two_ii, subW, ltW, leW, gtW, geW, eqR, neR, yes, nay, biW, bi1, bi2, isR, isnotR, isT1, isI1, isB1, isS1, yes, isInst, lenW, List.map_cons, List.map_nil, List.cons_append, List.nil_append, List.replicate_succ, List.replicate_zero, Nat.reduceSub, Bool.not_true, Bool.not_false, ite_true, ite_false, iSeq, seqOf, List.headD_cons, List.tail_cons, guard_tt, bind_as, pl0, pl1, iW_eq, guard_sz, hadd, mul1, List.length_singleton]
  rw [sFor]
  simp -implicitDefEqProofs (disch := (rw [List.length_replicate]; exact hv)) only [exSs, exS, evE, evL, evO, evI, sSeq, sAsg, sExp, sApp, sPut, sRet, sRetv, sIte, sPar, lPar, moveS, kOp, kChain, kIdx, kLst, Ev.kTup, kCon, kVar, kNot, kAnd, kOr, kIte, kBi, kCall, kSli, oInt, kNeg, kConv, lA, lH, lAnd, lOr, lArgs, ioTake, putBack, own, hd, isV, getAll, hget_val, hget_slot, T.bind_ok, fz, rd0, rdS, sett0, settS, setG_nm, setGs_nil, setGs_cons, setG_tp, cond_true, cond_false, boolOf, bopsI, op2, two_ii, subW, ltW, leW, gtW, geW, eqR, neR, yes, nay, biW, bi1, bi2, isR, isnotR, isT1, isI1, isB1, isS1, yes, isInst, lenW, List.map_cons, List.map_nil, List.cons_append, List.nil_append, List.replicate_succ, List.replicate_zero, Nat.reduceSub, Bool.not_true, Bool.not_false, ite_true, ite_false, iSeq, seqOf, List.headD_cons, List.tail_cons, guard_tt, bind_as, forGo1, sTurn, putL]
  rw [show (List.replicate N (W.bl false)).set v (W.bl true) = ((List.replicate N false).set v true).map W.bl by rw [List.map_set, List.map_replicate]]
  rw [sFor]
  have hf1 : fits62 (((N : Nat) : Int) - 1) = true := by
    unfold fits62
    rw [Bool.and_eq_true, decide_eq_true_eq, decide_eq_true_eq]
    omega
  have hf2 : fits62 ((p.many : Int) - 1) = true := by
    unfold fits62
    rw [Bool.and_eq_true, decide_eq_true_eq, decide_eq_true_eq]
    omega
  have hcn : ((((N : Nat) : Int) - 1) - ((p.many : Int) - 1)).toNat = p.ds.length := by omega
  have hneg : eqI (-1) (-1) = true := rfl
  simp -implicitDefEqProofs only [exSs, exS, evE, evL, evO, evI, sSeq, sAsg, sExp, sApp, sPut, sRet, sRetv, sIte, sPar, lPar, moveS, kOp, kChain, kIdx, kLst, Ev.kTup, kCon, kVar, kNot, kAnd, kOr, kIte, kBi, kCall, kSli, oInt, kNeg, kConv, lA, lH, lAnd, lOr, lArgs, ioTake, putBack, own, hd, isV, getAll, hget_val, hget_slot, T.bind_ok, fz, rd0, rdS, sett0, settS, setG_nm, setGs_nil, setGs_cons, setG_tp, cond_true, cond_false, boolOf, bopsI, op2, two_ii, subW, ltW, leW, gtW, geW, eqR, neR, yes, nay, biW, bi1, bi2, isR, isnotR, isT1, isI1, isB1, isS1, yes, isInst, lenW, List.map_cons, List.map_nil, List.cons_append, List.nil_append, List.replicate_succ, List.replicate_zero, Nat.reduceSub, Bool.not_true, Bool.not_false, ite_true, ite_false, iSeq, seqOf, List.headD_cons, List.tail_cons, guard_tt, bind_as, iR3, int2, List.length_map, List.length_set, List.length_replicate, hf1, hf2, hneg, Bool.and_self, hcn]
  refine for_ex (fun t : T (R × List W) => ∃ wl : List Bool, wl.length = N ∧ wl[v]? = some true ∧ (∀ x, p.many ≤ x → x < N → wl[x]? = some true → ∀ d, p.ds[x - p.many]? = some d → wl[d.1]? = some true ∧ wl[d.2]? = some true) ∧ t = .ok ((W.lst (((List.range' 0 wl.length).filter fun i => wl.getD (i - 0) false).map iW), true), []))
    (P := fun i sl => ∃ (wl : List Bool) (a b c : Option R), sl = [some (plW p, false), some (.lst [.int v], false), some (.int p.many, false), some (.lst (wl.map W.bl), true), a, b, c, none] ∧ wl.length = N ∧ wl[v]? = some true ∧
      ∀ x, N - i ≤ x → p.many ≤ x → x < N → wl[x]? = some true → ∀ d, p.ds[x - p.many]? = some d → wl[d.1]? = some true ∧ wl[d.2]? = some true) ?_ ?_ ?_
  · refine ⟨_, _, _, _, rfl, by rw [List.length_set, List.length_replicate], List.getElem?_set_self (by rw [List.length_replicate]; exact hv), fun x h1 _ h3 => by omega⟩
  · rintro i x _ hx ⟨wl, a, b, c, rfl, l1, l2, l3⟩
    obtain ⟨rfl, il⟩ := dnL_get hx
    have ex : ((N : Nat) : Int) - 1 - (i : Nat) = ((N - 1 - i : Nat) : Int) := by omega
    rw [ex]
    generalize hX : N - 1 - i = X at *
    have hXN : X < N := by omega
    have hXm : p.many ≤ X := by omega
    obtain ⟨bX, hbX⟩ : ∃ b, wl[X]? = some b := ⟨_, List.getElem?_eq_getElem (by omega)⟩
    obtain ⟨d, hdd⟩ : ∃ d, p.ds[X - p.many]? = some d := ⟨_, List.getElem?_eq_getElem (by omega)⟩
    obtain ⟨u1, u2⟩ := h.un.get hdd
    have rb := boolMap wl hbX
    have rdd : seqAt (p.ds.map pW) ((X : Int) - (p.many : Int)) = .ok (pW d) := by
      rw [show (X : Int) - (p.many : Int) = ((X - p.many : Nat) : Int) by omega]
      exact seqAt_nat (by rw [List.getElem?_map, hdd]; rfl)
    have i1 : d.1 < (wl.map W.bl).length := by rw [List.length_map]; omega
    have i2 : d.2 < ((wl.set d.1 true).map W.bl).length := by rw [List.length_map, List.length_set]; omega
    cases bX with
    | false =>
      refine ⟨_, ?_, wl, some (.int X, false), b, c, rfl, l1, l2, fun x h1 h2 h3 h4 => ?_⟩
      · simp -implicitDefEqProofs only [sTurn, exSs, exS, evE, evL, evO, evI, sSeq, sAsg, sExp, sApp, sPut, sRet, sRetv, sIte, sPar, lPar, moveS, kOp, kChain, kIdx, kLst, Ev.kTup, kCon, kVar, kNot, kAnd, kOr, kIte, kBi, kCall, kSli, oInt, kNeg, kConv, lA, lH, lAnd, lOr, lArgs, ioTake, putBack, own, hd, isV, getAll, hget_val, hget_slot, T.bind_ok, fz, rd0, rdS, sett0, settS, setG_nm, setGs_nil, setGs_cons, setG_tp, cond_true, cond_false, boolOf, bopsI, op2, two_ii, subW, ltW, leW, gtW, geW, eqR, neR, yes, nay, biW, bi1, bi2, isR, isnotR, isT1, isI1, isB1, isS1, yes, isInst, lenW, List.map_cons, List.map_nil, List.cons_append, List.nil_append, List.replicate_succ, List.replicate_zero, Nat.reduceSub, Bool.not_true, Bool.not_false, ite_true, ite_false, iSeq, seqOf, List.headD_cons, List.tail_cons, guard_tt, bind_as, idxL, rb]
      · by_cases e : x = X
        · subst e
          rw [hbX] at h4
          cases h4
        · exact l3 x (by omega) h2 h3 h4
    | true =>
      refine ⟨_, ?_, (wl.set d.1 true).set d.2 true, some (.int X, false), some (.int d.1, false), some (.int d.2, false), rfl, by rw [List.length_set, List.length_set]; exact l1, getT (getT l2), fun x h1 h2 h3 h4 d' hd' => ?_⟩
      · simp -implicitDefEqProofs only [sTurn, exSs, exS, evE, evL, evO, evI, sSeq, sAsg, sExp, sApp, sPut, sRet, sRetv, sIte, sPar, lPar, moveS, kOp, kChain, kIdx, kLst, Ev.kTup, kCon, kVar, kNot, kAnd, kOr, kIte, kBi, kCall, kSli, oInt, kNeg, kConv, lA, lH, lAnd, lOr, lArgs, ioTake, putBack, own, hd, isV, getAll, hget_val, hget_slot, T.bind_ok, fz, rd0, rdS, sett0, settS, setG_nm, setGs_nil, setGs_cons, setG_tp, cond_true, cond_false, boolOf, bopsI, op2, two_ii, subW, ltW, leW, gtW, geW, eqR, neR, yes, nay, biW, bi1, bi2, isR, isnotR, isT1, isI1, isB1, isS1, yes, isInst, lenW, List.map_cons, List.map_nil, List.cons_append, List.nil_append, List.replicate_succ, List.replicate_zero, Nat.reduceSub, Bool.not_true, Bool.not_false, ite_true, ite_false, iSeq, seqOf, List.headD_cons, List.tail_cons, guard_tt, bind_as, idxL, rb, pl1, idxT, rdd, pW_eq, iW_eq, putL i1, setB, putL i2]
      · by_cases e : x = X
        · subst e
          rw [hdd] at hd'
          cases hd'
          exact ⟨getT (List.getElem?_set_self (by omega)), List.getElem?_set_self (by rw [List.length_set]; omega)⟩
        · have hx : wl[x]? = some true := by
            rw [List.getElem?_set_ne (by omega), List.getElem?_set_ne (by omega)] at h4
            exact h4
          obtain ⟨q1, q2⟩ := l3 x (by omega) h2 h3 hx d' hd'
          exact ⟨getT (getT q1), getT (getT q2)⟩
  · rintro _ ⟨wl, a, b, c, rfl, l1, l2, l3⟩
    rw [dnL_len] at l3
    refine ⟨wl, l1, l2, fun x h1 h2 => l3 x (by omega) h1 h2, ?_⟩
    have lc := lc_ok (turn := kLcT [4, 7] (kVar 4) (Tg.tp [Tg.nm 4, Tg.nm 7]) [(some 7, kVar 7)]) (f := wantF) (S := [some (plW p, false), some (.lst [.int v], false), some (.int p.many, false), some (.lst (wl.map W.bl), false), none, b, c, none]) (xs := enumL 0 (wl.map W.bl)) (acc := []) (by rw [enum_len, List.length_map, List.length_nil]; omega) fun x hx => by
      obtain ⟨i, hi⟩ := List.getElem?_of_mem hx
      obtain ⟨y, hy, rfl⟩ := enumL_get hi
      rw [List.getElem?_map, Option.map_eq_some_iff] at hy
      obtain ⟨bb, hb, rfl⟩ := hy
      cases bb with
      | true =>
        simp -implicitDefEqProofs only [kLcT, exSs, exS, evE, evL, evO, evI, sSeq, sAsg, sExp, sApp, sPut, sRet, sRetv, sIte, sPar, lPar, moveS, kOp, kChain, kIdx, kLst, Ev.kTup, kCon, kVar, kNot, kAnd, kOr, kIte, kBi, kCall, kSli, oInt, kNeg, kConv, lA, lH, lAnd, lOr, lArgs, ioTake, putBack, own, hd, isV, getAll, hget_val, hget_slot, T.bind_ok, fz, rd0, rdS, sett0, settS, setG_nm, setGs_nil, setGs_cons, setG_tp, cond_true, cond_false, boolOf, bopsI, op2, two_ii, subW, ltW, leW, gtW, geW, eqR, neR, yes, nay, biW, bi1, bi2, isR, isnotR, isT1, isI1, isB1, isS1, yes, isInst, lenW, List.map_cons, List.map_nil, List.cons_append, List.nil_append, List.replicate_succ, List.replicate_zero, Nat.reduceSub, Bool.not_true, Bool.not_false, ite_true, ite_false, iSeq, seqOf, List.headD_cons, List.tail_cons, guard_tt, bind_as, wipeS]
        rfl
      | false =>
        simp -implicitDefEqProofs only [kLcT, exSs, exS, evE, evL, evO, evI, sSeq, sAsg, sExp, sApp, sPut, sRet, sRetv, sIte, sPar, lPar, moveS, kOp, kChain, kIdx, kLst, Ev.kTup, kCon, kVar, kNot, kAnd, kOr, kIte, kBi, kCall, kSli, oInt, kNeg, kConv, lA, lH, lAnd, lOr, lArgs, ioTake, putBack, own, hd, isV, getAll, hget_val, hget_slot, T.bind_ok, fz, rd0, rdS, sett0, settS, setG_nm, setGs_nil, setGs_cons, setG_tp, cond_true, cond_false, boolOf, bopsI, op2, two_ii, subW, ltW, leW, gtW, geW, eqR, neR, yes, nay, biW, bi1, bi2, isR, isnotR, isT1, isI1, isB1, isS1, yes, isInst, lenW, List.map_cons, List.map_nil, List.cons_append, List.nil_append, List.replicate_succ, List.replicate_zero, Nat.reduceSub, Bool.not_true, Bool.not_false, ite_true, ite_false, iSeq, seqOf, List.headD_cons, List.tail_cons, guard_tt, bind_as, wipeS]
        rfl
    rw [want_enum] at lc
    simp -implicitDefEqProofs only [exSs, exS, evE, evL, evO, evI, sSeq, sAsg, sExp, sApp, sPut, sRet, sRetv, sIte, sPar, lPar, moveS, kOp, kChain, kIdx, kLst, Ev.kTup, kCon, kVar, kNot, kAnd, kOr, kIte, kBi, kCall, kSli, oInt, kNeg, kConv, lA, lH, lAnd, lOr, lArgs, ioTake, putBack, own, hd, isV, getAll, hget_val, hget_slot, T.bind_ok, fz, rd0, rdS, sett0, settS, setG_nm, setGs_nil, setGs_cons, setG_tp, cond_true, cond_false, boolOf, bopsI, op2, two_ii, subW, ltW, leW, gtW, geW, eqR, neR, yes, nay, biW, bi1, bi2, isR, isnotR, isT1, isI1, isB1, isS1, yes, isInst, lenW, List.map_cons, List.map_nil, List.cons_append, List.nil_append, List.replicate_succ, List.replicate_zero, Nat.reduceSub, Bool.not_true, Bool.not_false, ite_true, ite_false, iSeq, seqOf, List.headD_cons, List.tail_cons, guard_tt, bind_as, kLc, Ev.iEnum, enOf, wipeS, lc]
    rfl
end Ov
end
end
section
set_option Elab.async false
set_option linter.all false
set_option maxRecDepth 100000
set_option maxHeartbeats 1000000
noncomputable section
namespace Ov
open PySem L2 Ev
set_option autoImplicit false
/-! ### trees -/
inductive Tr where
  | lf (n : Nat) | nd (a b : Tr)
  deriving DecidableEq
def Tr.toW : Tr → W
  | .lf n => .int n
  | .nd a b => .tup [a.toW, b.toW]
def Tr.word : Tr → List Nat
  | .lf n => [n]
  | .nd a b => a.word ++ b.word
def Tr.dep : Tr → Nat
  | .lf _ => 1
  | .nd a b => max a.dep b.dep + 1
def wW (l : List Nat) : W := .tup (l.map iW)
def wT (t : Tr) : W := wW t.word
def trs (p : Pn) : List Tr := grow Tr.nd (.lf 0) ((List.range p.many).map Tr.lf) p.ds
def tr (p : Pn) (v : Nat) : Tr := (trs p).getD v (.lf 0)
def bitsOf : List Nat → Nat
  | [] => 0
  | i :: r => 2 ^ i ||| bitsOf r
theorem bits_app : ∀ a b : List Nat, bitsOf (a ++ b) = bitsOf a ||| bitsOf b
  | [], b => by rw [List.nil_append, bitsOf, Nat.zero_or]
  | i :: a, b => by rw [List.cons_append, bitsOf, bitsOf, bits_app a b, Nat.or_assoc]
theorem getD_map' {α β : Type} (f : α → β) (d : α) (xs : List α) (i : Nat) : (xs.map f).getD i (f d) = f (xs.getD i d) := by
  rw [List.getD_eq_getElem?_getD, List.getD_eq_getElem?_getD, List.getElem?_map]
  cases xs[i]? <;> rfl
theorem getD_app {α : Type} {xs ys : List α} {i : Nat} {d : α} (h : i < xs.length) : (xs ++ ys).getD i d = xs.getD i d := by
  simp only [List.getD_eq_getElem?_getD]
  rw [List.getElem?_append_left h]
theorem getD_in {α : Type} {xs : List α} {i : Nat} {d d' : α} (h : i < xs.length) : xs.getD i d = xs.getD i d' := by
  simp only [List.getD_eq_getElem?_getD]
  rw [List.getElem?_eq_getElem h]
  rfl
theorem grow_dflt {α : Type} {f : α → α → α} {d d' : α} : ∀ (ds : List (Nat × Nat)) (acc : List α), Under acc.length ds → grow f d acc ds = grow f d' acc ds
  | [], _, _ => rfl
  | q :: ds, acc, hu => by
    obtain ⟨h1, h2, h3⟩ := hu
    rw [grow, grow, getD_in (d' := d') h1, getD_in (d := d) (d' := d') h2]
    exact grow_dflt ds _ (by rw [List.length_append]; exact h3)
theorem grow_map {α β : Type} {f : α → α → α} {d : α} {g : β → β → β} {h : α → β} (hf : ∀ a b, h (f a b) = g (h a) (h b)) : ∀ (ds : List (Nat × Nat)) (acc : List α), (grow f d acc ds).map h = grow g (h d) (acc.map h) ds
  | [], _ => rfl
  | q :: ds, acc => by
    rw [grow, grow_map hf ds, List.map_append, grow]
    congr 2
    rw [List.map_cons, List.map_nil, hf, getD_map', getD_map']
theorem grow_pre {α : Type} {f : α → α → α} {d : α} : ∀ (ds : List (Nat × Nat)) (acc : List α) (i : Nat), i < acc.length → (grow f d acc ds).getD i d = acc.getD i d
  | [], _, _, _ => rfl
  | q :: ds, acc, i, h => by
    rw [grow, grow_pre ds _ i (by rw [List.length_append]; omega), getD_app h]
theorem grow_get {α : Type} {f : α → α → α} {d : α} : ∀ (ds : List (Nat × Nat)) (acc : List α), Under acc.length ds → ∀ (k : Nat) (q : Nat × Nat), ds[k]? = some q → (grow f d acc ds).getD (acc.length + k) d = f ((grow f d acc ds).getD q.1 d) ((grow f d acc ds).getD q.2 d)
  | [], _, _, _, _, e => by simp at e
  | r :: ds, acc, hu, 0, q, e => by
    have e : r = q := by simpa using e
    subst e
    obtain ⟨h1, h2, _⟩ := hu
    rw [grow, grow_pre ds _ _ (by rw [List.length_append, List.length_singleton]; omega), grow_pre ds _ r.1 (by rw [List.length_append]; omega), grow_pre ds _ r.2 (by rw [List.length_append]; omega)]
    rw [getD_app h1, getD_app h2, List.getD_eq_getElem?_getD, Nat.add_zero, List.getElem?_append_right (Nat.le_refl _), Nat.sub_self]
    rfl
  | r :: ds, acc, hu, k + 1, q, e => by
    obtain ⟨_, _, h3⟩ := hu
    have := grow_get (f := f) (d := d) ds (acc ++ [f (acc.getD r.1 d) (acc.getD r.2 d)]) (by rw [List.length_append]; exact h3) k q (by simpa using e)
    rw [List.length_append, List.length_singleton, show acc.length + 1 + k = acc.length + (k + 1) by omega] at this
    rw [grow]
    exact this
theorem tr_lf {p : Pn} {v : Nat} (h : v < p.many) : tr p v = .lf v := by
  unfold tr trs
  rw [grow_pre _ _ _ (by rw [List.length_map, List.length_range]; exact h), getD_map', List.getD_eq_getElem?_getD, List.getElem?_range h]
  rfl
theorem tr_nd {p : Pn} (h : p.Ok) {v : Nat} {d : Nat × Nat} (hm : p.many ≤ v) (hd : p.ds[v - p.many]? = some d) : tr p v = .nd (tr p d.1) (tr p d.2) := by
  have hl : ((List.range p.many).map Tr.lf).length = p.many := by rw [List.length_map, List.length_range]
  have := grow_get (f := Tr.nd) (d := .lf 0) p.ds ((List.range p.many).map Tr.lf) (by rw [hl]; exact h.un) (v - p.many) d hd
  rw [hl, Nat.add_sub_cancel' hm] at this
  exact this
theorem sizes_tr {p : Pn} (h : p.Ok) {v : Nat} (hv : v < p.many + p.ds.length) : (sizes p).getD v 0 = (tr p v).word.length := by
  have e := grow_map (f := Tr.nd) (d := .lf 0) (g := (· + ·)) (h := fun t => t.word.length) (fun a b => by show (a.word ++ b.word).length = _; rw [List.length_append]) p.ds ((List.range p.many).map Tr.lf)
  have e2 : ((List.range p.many).map Tr.lf).map (fun t => t.word.length) = List.replicate p.many 1 := by
    rw [List.map_map]
    refine List.ext_getElem (by rw [List.length_map, List.length_range, List.length_replicate]) fun i h1 h2 => ?_
    rw [List.getElem_map, List.getElem_replicate]
    rfl
  have hl : v < (grow Tr.nd (.lf 0) ((List.range p.many).map Tr.lf) p.ds).length := by rw [grow_len, List.length_map, List.length_range]; exact hv
  have e3 : (grow (· + ·) 1 (List.replicate p.many 1) p.ds).getD v 0 = (tr p v).word.length := by
    rw [← e2]
    have e' : grow (· + ·) 1 (((List.range p.many).map Tr.lf).map fun t => t.word.length) p.ds = (grow Tr.nd (.lf 0) ((List.range p.many).map Tr.lf) p.ds).map fun t => t.word.length := e.symm
    rw [e', List.getD_eq_getElem?_getD, List.getElem?_map, List.getElem?_eq_getElem hl]
    unfold tr trs
    rw [List.getD_eq_getElem?_getD, List.getElem?_eq_getElem hl]
    rfl
  unfold sizes
  rw [grow_dflt (d' := 1) p.ds _ (by rw [List.length_replicate]; exact h.un)]
  exact e3
def lots (p : Pn) : List Nat := grow (· ||| ·) 0 ((List.range p.many).map (2 ^ ·)) p.ds
theorem lots_tr {p : Pn} (h : p.Ok) {v : Nat} (hv : v < p.many + p.ds.length) : (lots p).getD v 0 = bitsOf (tr p v).word := by
  have e := grow_map (f := Tr.nd) (d := .lf 0) (g := (· ||| ·)) (h := fun t => bitsOf t.word) (fun a b => bits_app a.word b.word) p.ds ((List.range p.many).map Tr.lf)
  have e2 : ((List.range p.many).map Tr.lf).map (fun t => bitsOf t.word) = (List.range p.many).map (2 ^ ·) := by
    rw [List.map_map]
    refine List.map_congr_left fun i _ => ?_
    show 2 ^ i ||| 0 = 2 ^ i
    rw [Nat.or_zero]
  have hl : v < (grow Tr.nd (.lf 0) ((List.range p.many).map Tr.lf) p.ds).length := by rw [grow_len, List.length_map, List.length_range]; exact hv
  unfold lots
  rw [grow_dflt (d' := bitsOf (Tr.lf 0).word) p.ds _ (by rw [List.length_map, List.length_range]; exact h.un), ← e2]
  have e' : grow (· ||| ·) (bitsOf (Tr.lf 0).word) (((List.range p.many).map Tr.lf).map fun t => bitsOf t.word) p.ds = (grow Tr.nd (.lf 0) ((List.range p.many).map Tr.lf) p.ds).map fun t => bitsOf t.word := e.symm
  rw [e', List.getD_eq_getElem?_getD, List.getElem?_map, List.getElem?_eq_getElem hl]
  unfold tr trs
  rw [List.getD_eq_getElem?_getD, List.getElem?_eq_getElem hl]
  rfl
theorem asc_take : ∀ {ns : List Nat}, ns.Pairwise (· < ·) → ∀ {i x y : Nat}, ns[i]? = some x → y ∈ ns → y < x → y ∈ ns.take i
  | [], _, i, x, y, e, _, _ => by simp at e
  | a :: ns, hp, 0, x, y, e, hy, hl => by
    have e : a = x := by simpa using e
    subst e
    rcases List.mem_cons.mp hy with z | z
    · omega
    · have := (List.pairwise_cons.mp hp).1 y z
      omega
  | a :: ns, hp, i + 1, x, y, e, hy, hl => by
    rw [List.take_succ_cons]
    rcases List.mem_cons.mp hy with z | z
    · exact List.mem_cons.mpr (.inl z)
    · exact List.mem_cons_of_mem _ (asc_take (List.pairwise_cons.mp hp).2 (by simpa using e) z hl)
theorem io14 : ioOf fks 14 = [false, false] := rfl
theorem dwEq {p : Pn} {x : Nat} {d : Nat × Nat} (hm : p.many ≤ x) (hd : p.ds[x - p.many]? = some d) : seqAt (p.ds.map pW) ((x : Int) - (p.many : Int)) = .ok (pW d) := by
  rw [show (x : Int) - (p.many : Int) = ((x - p.many : Nat) : Int) by omega]
  exact seqAt_nat (by rw [List.getElem?_map, hd]; rfl)
theorem need_bound : ∀ {ns : List Nat} {k N : Nat}, ns.Pairwise (· < ·) → (∀ x ∈ ns, k ≤ x ∧ x < N) → k + ns.length ≤ N ∨ ns = []
  | [], _, _, _, _ => .inr rfl
  | a :: ns, k, N, hp, h => by
    obtain ⟨h1, h2⟩ := List.pairwise_cons.mp hp
    obtain ⟨h3, h4⟩ := h a (List.mem_cons_self ..)
    rcases need_bound (k := a + 1) (N := N) h2 fun x hx => ⟨h1 x hx, (h x (List.mem_cons_of_mem _ hx)).2⟩ with z | z
    · exact .inl (by rw [List.length_cons]; omega)
    · subst z
      exact .inl (by rw [List.length_cons, List.length_nil]; omega)

theorem tree_in_ok {p : Pn} (h : p.Ok) {v : Nat} (hv : v < p.many + p.ds.length) (n : Nat) : callN fks cn (n + 2) 16 [(plW p, false), (.int v, false)] = .ok ((Tr.toW (tr p v), false), []) := by
  obtain ⟨ns, nd, e0⟩ := needed_ok h hv n
  have m2 := h.m2
  have dl := h.dl
  have nl : ns.length ≤ 100 := by
    rcases need_bound (k := 0) (N := p.many + p.ds.length) nd.asc fun x hx => ⟨Nat.zero_le _, nd.rng x hx⟩ with z | z
    · omega
    · rw [z]; exact Nat.zero_le _
  rw [callN_code rfl rfl]
  simp -implicitDefEqProofs (disch := omega) only [exSs, exS, evE, evL, evO, evI, sSeq, sAsg, sExp, sApp, sPut, sRet, sRetv, sIte, sPar, lPar, moveS, kOp, kChain, kIdx, kLst, Ev.kTup, kCon, kVar, kNot, kAnd, kOr, kIte, kBi, kCall, kSli, oInt, kNeg, kConv, lA, lH, lAnd, lOr, lArgs, ioTake, putBack, own, hd, isV, getAll, hget_val, hget_slot, T.bind_ok, fz, rd0, rdS, sett0, settS, setG_nm, setGs_nil, setGs_cons, setG_tp, cond_true, cond_false, boolOf, bopsI, op2, two_ii, subW, ltW, leW, gtW, geW, eqR, neR, yes, nay, biW, bi1, bi2, isR, isnotR, isT1, isI1, isB1, isS1, yes, isInst, lenW, List.map_cons, List.map_nil, List.cons_append, List.nil_append, List.replicate_succ, List.replicate_zero, Nat.reduceSub, Bool.not_true, Bool.not_false, ite_true, ite_false, iSeq, seqOf, List.headD_cons, List.tail_cons, guard_tt, bind_as, pl0, iW_eq, guard_sz, List.length_singleton, io14, e0]
  rw [sFor]
  simp -implicitDefEqProofs (disch := omega) only [exSs, exS, evE, evL, evO, evI, sSeq, sAsg, sExp, sApp, sPut, sRet, sRetv, sIte, sPar, lPar, moveS, kOp, kChain, kIdx, kLst, Ev.kTup, kCon, kVar, kNot, kAnd, kOr, kIte, kBi, kCall, kSli, oInt, kNeg, kConv, lA, lH, lAnd, lOr, lArgs, ioTake, putBack, own, hd, isV, getAll, hget_val, hget_slot, T.bind_ok, fz, rd0, rdS, sett0, settS, setG_nm, setGs_nil, setGs_cons, setG_tp, cond_true, cond_false, boolOf, bopsI, op2, two_ii, subW, ltW, leW, gtW, geW, eqR, neR, yes, nay, biW, bi1, bi2, isR, isnotR, isT1, isI1, isB1, isS1, yes, isInst, lenW, List.map_cons, List.map_nil, List.cons_append, List.nil_append, List.replicate_succ, List.replicate_zero, Nat.reduceSub, Bool.not_true, Bool.not_false, ite_true, ite_false, iSeq, seqOf, List.headD_cons, List.tail_cons, guard_tt, bind_as, pl0, iW_eq, guard_sz, List.length_singleton, io14, e0]
  refine for_bind (P := fun i sl => ∃ (kvs : List (Ky × W)) (a b c : Option R), sl = [some (plW p, false), some (.int v, false), some (.dct kvs, true), some (.int p.many, false), a, b, c, none, none] ∧ kvs.length ≤ i ∧ ∀ x ∈ ns.take i, lookK kvs (.inl (x : Int)) = some (Tr.toW (tr p x))) ⟨[], _, _, _, rfl, Nat.le_refl _, fun x hx => by rw [List.take_zero] at hx; cases hx⟩ ?_ ?_
  · rintro i x _ hx ⟨kvs, a, b, c, rfl, l1, l2⟩
    rw [List.getElem?_map, Option.map_eq_some_iff] at hx
    obtain ⟨x, hx, rfl⟩ := hx
    have il := (List.getElem?_eq_some_iff.mp hx).1
    have mx := List.mem_of_getElem? hx
    have rx := nd.rng x mx
    have nx : ∀ w, w = Tr.toW (tr p x) → ∀ y ∈ ns.take (i + 1), lookK (Ev.putK kvs (.inl (x : Int)) w) (.inl (y : Int)) = some (Tr.toW (tr p y)) := fun w hw y hy => by
      rw [look_put]
      rw [take_snoc hx] at hy
      by_cases e : x = y
      · subst e
        rw [if_pos rfl, hw]
      · rw [if_neg fun z => e (by have := Sum.inl.inj z; omega)]
        rcases List.mem_append.mp hy with z | z
        · exact l2 y z
        · exact (e (List.mem_singleton.mp z).symm).elim
    by_cases hm : x < p.many
    · have g : decide ((x : Int) < (p.many : Int)) = true := decide_eq_true (by omega)
      refine ⟨_, ?_, Ev.putK kvs (.inl (x : Int)) (Tr.toW (tr p x)), some (.int x, false), b, c, rfl, Nat.le_trans (put_len ..) (by omega), nx _ rfl⟩
      rw [tr_lf hm]
      simp -implicitDefEqProofs (disch := omega) only [sTurn, exSs, exS, evE, evL, evO, evI, sSeq, sAsg, sExp, sApp, sPut, sRet, sRetv, sIte, sPar, lPar, moveS, kOp, kChain, kIdx, kLst, Ev.kTup, kCon, kVar, kNot, kAnd, kOr, kIte, kBi, kCall, kSli, oInt, kNeg, kConv, lA, lH, lAnd, lOr, lArgs, ioTake, putBack, own, hd, isV, getAll, hget_val, hget_slot, T.bind_ok, fz, rd0, rdS, sett0, settS, setG_nm, setGs_nil, setGs_cons, setG_tp, cond_true, cond_false, boolOf, bopsI, op2, two_ii, subW, ltW, leW, gtW, geW, eqR, neR, yes, nay, biW, bi1, bi2, isR, isnotR, isT1, isI1, isB1, isS1, yes, isInst, lenW, List.map_cons, List.map_nil, List.cons_append, List.nil_append, List.replicate_succ, List.replicate_zero, Nat.reduceSub, Bool.not_true, Bool.not_false, ite_true, ite_false, iSeq, seqOf, List.headD_cons, List.tail_cons, guard_tt, bind_as, iW_eq, g, guard_sz, List.length_singleton, putD _ _ _ (show kvs.length ≤ 100000 by omega)]
      rfl
    · have g : decide ((x : Int) < (p.many : Int)) = false := decide_eq_false (by omega)
      obtain ⟨d, hdd⟩ : ∃ d, p.ds[x - p.many]? = some d := ⟨_, List.getElem?_eq_getElem (by omega)⟩
      obtain ⟨u1, u2⟩ := h.un.get hdd
      obtain ⟨c1, c2⟩ := nd.cls x mx (by omega) d hdd
      have k1 := l2 d.1 (asc_take nd.asc hx c1 (by omega))
      have k2 := l2 d.2 (asc_take nd.asc hx c2 (by omega))
      have rdd := dwEq (p := p) (x := x) (by omega) hdd
      refine ⟨_, ?_, Ev.putK kvs (.inl (x : Int)) (Tr.toW (tr p x)), some (.int x, false), some (.int d.1, false), some (.int d.2, false), rfl, Nat.le_trans (put_len ..) (by omega), nx _ rfl⟩
      rw [tr_nd h (by omega) hdd]
      simp -implicitDefEqProofs (disch := first | omega | (simp only [List.length_cons, List.length_nil]; omega)) only [sTurn, exSs, exS, evE, evL, evO, evI, sSeq, sAsg, sExp, sApp, sPut, sRet, sRetv, sIte, sPar, lPar, moveS, kOp, kChain, kIdx, kLst, Ev.kTup, kCon, kVar, kNot, kAnd, kOr, kIte, kBi, kCall, kSli, oInt, kNeg, kConv, lA, lH, lAnd, lOr, lArgs, ioTake, putBack, own, hd, isV, getAll, hget_val, hget_slot, T.bind_ok, fz, rd0, rdS, sett0, settS, setG_nm, setGs_nil, setGs_cons, setG_tp, cond_true, cond_false, boolOf, bopsI, op2, two_ii, subW, ltW, leW, gtW, geW, eqR, neR, yes, nay, biW, bi1, bi2, isR, isnotR, isT1, isI1, isB1, isS1, yes, isInst, lenW, List.map_cons, List.map_nil, List.cons_append, List.nil_append, List.replicate_succ, List.replicate_zero, Nat.reduceSub, Bool.not_true, Bool.not_false, ite_true, ite_false, iSeq, seqOf, List.headD_cons, List.tail_cons, guard_tt, bind_as, iW_eq, g, pl1, idxT, rdd, pW_eq, idxD, k1, k2, opt_some, guard_sz, List.length_cons, List.length_nil, putD _ _ _ (show kvs.length ≤ 100000 by omega)]
      rfl
  · rintro _ ⟨kvs, a, b, c, rfl, l1, l2⟩
    rw [List.length_map, List.take_length] at l2
    simp -implicitDefEqProofs only [exSs, exS, evE, evL, evO, evI, sSeq, sAsg, sExp, sApp, sPut, sRet, sRetv, sIte, sPar, lPar, moveS, kOp, kChain, kIdx, kLst, Ev.kTup, kCon, kVar, kNot, kAnd, kOr, kIte, kBi, kCall, kSli, oInt, kNeg, kConv, lA, lH, lAnd, lOr, lArgs, ioTake, putBack, own, hd, isV, getAll, hget_val, hget_slot, T.bind_ok, fz, rd0, rdS, sett0, settS, setG_nm, setGs_nil, setGs_cons, setG_tp, cond_true, cond_false, boolOf, bopsI, op2, two_ii, subW, ltW, leW, gtW, geW, eqR, neR, yes, nay, biW, bi1, bi2, isR, isnotR, isT1, isI1, isB1, isS1, yes, isInst, lenW, List.map_cons, List.map_nil, List.cons_append, List.nil_append, List.replicate_succ, List.replicate_zero, Nat.reduceSub, Bool.not_true, Bool.not_false, ite_true, ite_false, iSeq, seqOf, List.headD_cons, List.tail_cons, guard_tt, bind_as, idxD, l2 v nd.has, opt_some]
    rfl

theorem word_in_ok {p : Pn} (h : p.Ok) (hs : ∀ v, v < p.many + p.ds.length → (sizes p).getD v 0 ≤ 2000) {v : Nat} (hv : v < p.many + p.ds.length) (n : Nat) : callN fks cn (n + 2) 17 [(plW p, false), (.int v, false)] = .ok ((wT (tr p v), false), []) := by
  obtain ⟨ns, nd, e0⟩ := needed_ok h hv n
  have m2 := h.m2
  have dl := h.dl
  have nl : ns.length ≤ 100 := by
    rcases need_bound (k := 0) (N := p.many + p.ds.length) nd.asc fun x hx => ⟨Nat.zero_le _, nd.rng x hx⟩ with z | z
    · omega
    · rw [z]; exact Nat.zero_le _
  rw [callN_code rfl rfl]
  simp -implicitDefEqProofs (disch := omega) only [exSs, exS, evE, evL, evO, evI, sSeq, sAsg, sExp, sApp, sPut, sRet, sRetv, sIte, sPar, lPar, moveS, kOp, kChain, kIdx, kLst, Ev.kTup, kCon, kVar, kNot, kAnd, kOr, kIte, kBi, kCall, kSli, oInt, kNeg, kConv, lA, lH, lAnd, lOr, lArgs, ioTake, putBack, own, hd, isV, getAll, hget_val, hget_slot, T.bind_ok, fz, rd0, rdS, sett0, settS, setG_nm, setGs_nil, setGs_cons, setG_tp, cond_true, cond_false, boolOf, bopsI, op2, two_ii, subW, ltW, leW, gtW, geW, eqR, neR, yes, nay, biW, bi1, bi2, isR, isnotR, isT1, isI1, isB1, isS1, yes, isInst, lenW, List.map_cons, List.map_nil, List.cons_append, List.nil_append, List.replicate_succ, List.replicate_zero, Nat.reduceSub, Bool.not_true, Bool.not_false, ite_true, ite_false, iSeq, seqOf, List.headD_cons, List.tail_cons, guard_tt, bind_as, pl0, iW_eq, guard_sz, List.length_singleton, io14, e0]
  rw [sFor]
  simp -implicitDefEqProofs (disch := omega) only [exSs, exS, evE, evL, evO, evI, sSeq, sAsg, sExp, sApp, sPut, sRet, sRetv, sIte, sPar, lPar, moveS, kOp, kChain, kIdx, kLst, Ev.kTup, kCon, kVar, kNot, kAnd, kOr, kIte, kBi, kCall, kSli, oInt, kNeg, kConv, lA, lH, lAnd, lOr, lArgs, ioTake, putBack, own, hd, isV, getAll, hget_val, hget_slot, T.bind_ok, fz, rd0, rdS, sett0, settS, setG_nm, setGs_nil, setGs_cons, setG_tp, cond_true, cond_false, boolOf, bopsI, op2, two_ii, subW, ltW, leW, gtW, geW, eqR, neR, yes, nay, biW, bi1, bi2, isR, isnotR, isT1, isI1, isB1, isS1, yes, isInst, lenW, List.map_cons, List.map_nil, List.cons_append, List.nil_append, List.replicate_succ, List.replicate_zero, Nat.reduceSub, Bool.not_true, Bool.not_false, ite_true, ite_false, iSeq, seqOf, List.headD_cons, List.tail_cons, guard_tt, bind_as, pl0, iW_eq, guard_sz, List.length_singleton, io14, e0]
  refine for_bind (P := fun i sl => ∃ (kvs : List (Ky × W)) (a b c : Option R), sl = [some (plW p, false), some (.int v, false), some (.dct kvs, true), some (.int p.many, false), a, b, c, none, none] ∧ kvs.length ≤ i ∧ ∀ x ∈ ns.take i, lookK kvs (.inl (x : Int)) = some (wT (tr p x))) ⟨[], _, _, _, rfl, Nat.le_refl _, fun x hx => by rw [List.take_zero] at hx; cases hx⟩ ?_ ?_
  · rintro i x _ hx ⟨kvs, a, b, c, rfl, l1, l2⟩
    rw [List.getElem?_map, Option.map_eq_some_iff] at hx
    obtain ⟨x, hx, rfl⟩ := hx
    have il := (List.getElem?_eq_some_iff.mp hx).1
    have mx := List.mem_of_getElem? hx
    have rx := nd.rng x mx
    have nx : ∀ w, w = wT (tr p x) → ∀ y ∈ ns.take (i + 1), lookK (Ev.putK kvs (.inl (x : Int)) w) (.inl (y : Int)) = some (wT (tr p y)) := fun w hw y hy => by
      rw [look_put]
      rw [take_snoc hx] at hy
      by_cases e : x = y
      · subst e
        rw [if_pos rfl, hw]
      · rw [if_neg fun z => e (by have := Sum.inl.inj z; omega)]
        rcases List.mem_append.mp hy with z | z
        · exact l2 y z
        · exact (e (List.mem_singleton.mp z).symm).elim
    by_cases hm : x < p.many
    · have g : decide ((x : Int) < (p.many : Int)) = true := decide_eq_true (by omega)
      refine ⟨_, ?_, Ev.putK kvs (.inl (x : Int)) (wT (tr p x)), some (.int x, false), b, c, rfl, Nat.le_trans (put_len ..) (by omega), nx _ rfl⟩
      rw [tr_lf hm]
      simp -implicitDefEqProofs (disch := omega) only [sTurn, exSs, exS, evE, evL, evO, evI, sSeq, sAsg, sExp, sApp, sPut, sRet, sRetv, sIte, sPar, lPar, moveS, kOp, kChain, kIdx, kLst, Ev.kTup, kCon, kVar, kNot, kAnd, kOr, kIte, kBi, kCall, kSli, oInt, kNeg, kConv, lA, lH, lAnd, lOr, lArgs, ioTake, putBack, own, hd, isV, getAll, hget_val, hget_slot, T.bind_ok, fz, rd0, rdS, sett0, settS, setG_nm, setGs_nil, setGs_cons, setG_tp, cond_true, cond_false, boolOf, bopsI, op2, two_ii, subW, ltW, leW, gtW, geW, eqR, neR, yes, nay, biW, bi1, bi2, isR, isnotR, isT1, isI1, isB1, isS1, yes, isInst, lenW, List.map_cons, List.map_nil, List.cons_append, List.nil_append, List.replicate_succ, List.replicate_zero, Nat.reduceSub, Bool.not_true, Bool.not_false, ite_true, ite_false, iSeq, seqOf, List.headD_cons, List.tail_cons, guard_tt, bind_as, iW_eq, g, guard_sz, List.length_singleton, putD _ _ _ (show kvs.length ≤ 100000 by omega)]
      rfl
    · have g : decide ((x : Int) < (p.many : Int)) = false := decide_eq_false (by omega)
      obtain ⟨d, hdd⟩ : ∃ d, p.ds[x - p.many]? = some d := ⟨_, List.getElem?_eq_getElem (by omega)⟩
      obtain ⟨u1, u2⟩ := h.un.get hdd
      obtain ⟨c1, c2⟩ := nd.cls x mx (by omega) d hdd
      have k1 := l2 d.1 (asc_take nd.asc hx c1 (by omega))
      have k2 := l2 d.2 (asc_take nd.asc hx c2 (by omega))
      have rdd := dwEq (p := p) (x := x) (by omega) hdd
      have ad : addW (wT (tr p d.1)) (wT (tr p d.2)) = .ok (wT (.nd (tr p d.1) (tr p d.2)), false) := by
        have z1 := hs d.1 (by omega)
        have z2 := hs d.2 (by omega)
        rw [sizes_tr h (by omega)] at z1 z2
        show T.guard (Nat.ble (((tr p d.1).word.map iW).length + ((tr p d.2).word.map iW).length) sizeLine) _ = _
        rw [guard_sz (by rw [List.length_map, List.length_map]; omega)]
        show T.ok (W.tup ((tr p d.1).word.map iW ++ (tr p d.2).word.map iW), false) = _
        rw [← List.map_append]
        rfl
      refine ⟨_, ?_, Ev.putK kvs (.inl (x : Int)) (wT (tr p x)), some (.int x, false), some (.int d.1, false), some (.int d.2, false), rfl, Nat.le_trans (put_len ..) (by omega), nx _ rfl⟩
      rw [tr_nd h (by omega) hdd]
      simp -implicitDefEqProofs (disch := first | omega | (simp only [List.length_cons, List.length_nil]; omega)) only [sTurn, exSs, exS, evE, evL, evO, evI, sSeq, sAsg, sExp, sApp, sPut, sRet, sRetv, sIte, sPar, lPar, moveS, kOp, kChain, kIdx, kLst, Ev.kTup, kCon, kVar, kNot, kAnd, kOr, kIte, kBi, kCall, kSli, oInt, kNeg, kConv, lA, lH, lAnd, lOr, lArgs, ioTake, putBack, own, hd, isV, getAll, hget_val, hget_slot, T.bind_ok, fz, rd0, rdS, sett0, settS, setG_nm, setGs_nil, setGs_cons, setG_tp, cond_true, cond_false, boolOf, bopsI, op2, two_ii, subW, ltW, leW, gtW, geW, eqR, neR, yes, nay, biW, bi1, bi2, isR, isnotR, isT1, isI1, isB1, isS1, yes, isInst, lenW, List.map_cons, List.map_nil, List.cons_append, List.nil_append, List.replicate_succ, List.replicate_zero, Nat.reduceSub, Bool.not_true, Bool.not_false, ite_true, ite_false, iSeq, seqOf, List.headD_cons, List.tail_cons, guard_tt, bind_as, iW_eq, g, pl1, idxT, rdd, pW_eq, idxD, k1, k2, opt_some, guard_sz, ad, putD _ _ _ (show kvs.length ≤ 100000 by omega)]
  · rintro _ ⟨kvs, a, b, c, rfl, l1, l2⟩
    rw [List.length_map, List.take_length] at l2
    simp -implicitDefEqProofs only [exSs, exS, evE, evL, evO, evI, sSeq, sAsg, sExp, sApp, sPut, sRet, sRetv, sIte, sPar, lPar, moveS, kOp, kChain, kIdx, kLst, Ev.kTup, kCon, kVar, kNot, kAnd, kOr, kIte, kBi, kCall, kSli, oInt, kNeg, kConv, lA, lH, lAnd, lOr, lArgs, ioTake, putBack, own, hd, isV, getAll, hget_val, hget_slot, T.bind_ok, fz, rd0, rdS, sett0, settS, setG_nm, setGs_nil, setGs_cons, setG_tp, cond_true, cond_false, boolOf, bopsI, op2, two_ii, subW, ltW, leW, gtW, geW, eqR, neR, yes, nay, biW, bi1, bi2, isR, isnotR, isT1, isI1, isB1, isS1, yes, isInst, lenW, List.map_cons, List.map_nil, List.cons_append, List.nil_append, List.replicate_succ, List.replicate_zero, Nat.reduceSub, Bool.not_true, Bool.not_false, ite_true, ite_false, iSeq, seqOf, List.headD_cons, List.tail_cons, guard_tt, bind_as, idxD, l2 v nd.has, opt_some]
    rfl

end Ov
end
end
section
set_option Elab.async false
set_option linter.all false
set_option maxRecDepth 100000
set_option maxHeartbeats 1000000
noncomputable section
namespace Ov
open PySem L2 Ev
set_option autoImplicit false
/-! ### rows of numbers: sorting, bits -/
def insN (x : Nat) : List Nat → List Nat
  | [] => [x]
  | y :: r => if x ≤ y then x :: y :: r else y :: insN x r
def sortN : List Nat → List Nat
  | [] => []
  | x :: r => insN x (sortN r)
theorem insI_nat (x : Nat) : ∀ l : List Nat, insI (x : Int) (l.map fun n : Nat => (n : Int)) = (insN x l).map fun n : Nat => (n : Int)
  | [] => rfl
  | y :: r => by
    rw [List.map_cons, insI, insN]
    by_cases h : x ≤ y
    · rw [if_pos h, if_pos (by omega)]; rfl
    · rw [if_neg h, if_neg (by omega), insI_nat x r]; rfl
theorem sortI_nat : ∀ l : List Nat, sortI (l.map fun n : Nat => (n : Int)) = (sortN l).map fun n : Nat => (n : Int)
  | [] => rfl
  | x :: r => by
    rw [List.map_cons, sortI, sortN, sortI_nat r, insI_nat]
theorem ins_perm (x : Nat) : ∀ l : List Nat, (insN x l).Perm (x :: l)
  | [] => .refl _
  | y :: r => by
    rw [insN]
    by_cases h : x ≤ y
    · rw [if_pos h]
    · rw [if_neg h]
      exact ((ins_perm x r).cons y).trans (.swap x y r)
theorem sort_perm : ∀ l : List Nat, (sortN l).Perm l
  | [] => .nil
  | x :: r => (ins_perm x (sortN r)).trans ((sort_perm r).cons x)
theorem ins_comm (x y : Nat) : ∀ l : List Nat, insN x (insN y l) = insN y (insN x l)
  | [] => by
    by_cases h : x ≤ y
    · by_cases h2 : y ≤ x
      · have e : x = y := by omega
        subst e
        rfl
      · simp only [insN, if_pos h, if_neg h2]
    · simp only [insN, if_neg h, if_pos (show y ≤ x by omega)]
  | z :: r => by
    have ih := ins_comm x y r
    by_cases h1 : x ≤ z
    · by_cases h2 : y ≤ z
      · by_cases h3 : x ≤ y
        · by_cases h4 : y ≤ x
          · have e : x = y := by omega
            subst e
            rfl
          · simp only [insN, if_pos h1, if_pos h2, if_pos h3, if_neg h4]
        · simp only [insN, if_pos h1, if_pos h2, if_neg h3, if_pos (show y ≤ x by omega)]
      · simp only [insN, if_pos h1, if_neg h2, if_neg (show ¬ y ≤ x by omega)]
    · by_cases h2 : y ≤ z
      · simp only [insN, if_neg h1, if_pos h2, if_neg (show ¬ x ≤ y by omega)]
      · simp only [insN, if_neg h1, if_neg h2, ih]
theorem sort_of_perm {a b : List Nat} (h : a.Perm b) : sortN a = sortN b := by
  induction h with
  | nil => rfl
  | cons x _ ih => rw [sortN, sortN, ih]
  | swap x y l => rw [sortN, sortN, sortN, sortN, ins_comm]
  | trans _ _ h1 h2 => rw [h1, h2]
theorem sort_iff (a b : List Nat) : sortN a = sortN b ↔ a.Perm b :=
  ⟨fun h => (sort_perm a).symm.trans ((h ▸ .refl _ : (sortN a).Perm (sortN b)).trans (sort_perm b)), sort_of_perm⟩
theorem perm_of_sub : ∀ {r w : List Nat}, r.Nodup → (∀ x ∈ r, x ∈ w) → w.length ≤ r.length → w.Perm r
  | [], w, _, _, hl => by
    have : w = [] := List.length_eq_zero_iff.mp (by simpa using hl)
    subst this
    exact .nil
  | x :: r, w, nd, hs, hl => by
    obtain ⟨n1, n2⟩ := List.nodup_cons.mp nd
    obtain ⟨a, b, rfl⟩ := List.append_of_mem (hs x (List.mem_cons_self ..))
    have pm : (a ++ x :: b).Perm (x :: (a ++ b)) := List.perm_middle
    refine pm.trans (.cons x (perm_of_sub n2 (fun y hy => ?_) ?_))
    · have hm := hs y (List.mem_cons_of_mem _ hy)
      rcases List.mem_append.mp hm with z | z
      · exact List.mem_append.mpr (.inl z)
      · rcases List.mem_cons.mp z with z | z
        · subst z; exact (n1 hy).elim
        · exact List.mem_append.mpr (.inr z)
    · simp only [List.length_append, List.length_cons] at hl ⊢
      omega
theorem bit_test : ∀ (w : List Nat) (i : Nat), (bitsOf w).testBit i = decide (i ∈ w)
  | [], i => by rw [bitsOf, Nat.zero_testBit]; exact (decide_eq_false (List.not_mem_nil)).symm
  | x :: w, i => by
    rw [bitsOf, Nat.testBit_or, bit_test w i, Nat.testBit_two_pow]
    by_cases h1 : x = i
    · subst h1
      simp
    · by_cases h2 : i ∈ w
      · simp [h1, h2]
      · have : ¬ i ∈ x :: w := fun z => by
          rcases List.mem_cons.mp z with z | z
          · exact h1 z.symm
          · exact h2 z
        rw [decide_eq_false h1, decide_eq_false h2, decide_eq_false this]
        rfl
theorem bits_iff (a b : List Nat) : bitsOf a = bitsOf b ↔ ∀ i, i ∈ a ↔ i ∈ b := by
  constructor
  · intro h i
    have := bit_test a i
    rw [h, bit_test b i] at this
    exact (decide_eq_decide.mp this).symm
  · intro h
    refine Nat.eq_of_testBit_eq fun i => ?_
    rw [bit_test, bit_test]
    exact decide_eq_decide.mpr (h i)
theorem bits_sum : ∀ (n f : Nat), ∃ k, bitsOf (List.range' f n) = 2 ^ f * k ∧ ((List.range' f n).map (2 ^ ·)).sum = bitsOf (List.range' f n)
  | 0, f => ⟨0, rfl, rfl⟩
  | n + 1, f => by
    obtain ⟨k, e1, e2⟩ := bits_sum n (f + 1)
    refine ⟨2 * k + 1, ?_, ?_⟩
    · rw [List.range'_succ, bitsOf, e1, Nat.or_comm, ← Nat.two_pow_add_eq_or_of_lt (Nat.pow_lt_pow_right (by decide) (Nat.lt_succ_self f)), Nat.pow_succ, Nat.mul_add, Nat.mul_one, Nat.mul_assoc]
    · rw [List.range'_succ, List.map_cons, List.sum_cons, e2, bitsOf, e1, Nat.or_comm, ← Nat.two_pow_add_eq_or_of_lt (Nat.pow_lt_pow_right (by decide) (Nat.lt_succ_self f)), Nat.add_comm]
/-- what is met, once each -/
def ddF (acc : List Nat) (x : Nat) : List Nat := if x ∈ acc then acc else acc ++ [x]
def dd (l : List Nat) : List Nat := l.foldl ddF []
theorem dd_mem : ∀ (l acc : List Nat) (y : Nat), y ∈ l.foldl ddF acc ↔ y ∈ acc ∨ y ∈ l
  | [], acc, y => by simp
  | x :: l, acc, y => by
    rw [List.foldl_cons, dd_mem l, ddF]
    by_cases h : x ∈ acc
    · rw [if_pos h, List.mem_cons]
      constructor
      · rintro (z | z)
        · exact .inl z
        · exact .inr (.inr z)
      · rintro (z | z | z)
        · exact .inl z
        · subst z; exact .inl h
        · exact .inr z
    · rw [if_neg h, List.mem_append, List.mem_singleton, List.mem_cons]
      constructor
      · rintro ((z | z) | z)
        · exact .inl z
        · exact .inr (.inl z)
        · exact .inr (.inr z)
      · rintro (z | z | z)
        · exact .inl (.inl z)
        · exact .inl (.inr z)
        · exact .inr z
theorem dd_nodup : ∀ (l acc : List Nat), acc.Nodup → (l.foldl ddF acc).Nodup
  | [], acc, h => h
  | x :: l, acc, h => by
    rw [List.foldl_cons]
    refine dd_nodup l _ ?_
    rw [ddF]
    by_cases hx : x ∈ acc
    · rw [if_pos hx]; exact h
    · rw [if_neg hx]
      refine List.nodup_append.mpr ⟨h, by simp, fun a ha b hb => ?_⟩
      rw [List.mem_singleton.mp hb]
      intro e
      subst e
      exact hx ha
theorem len_of_sub {a b : List Nat} (h : a.Nodup) (hs : ∀ x ∈ a, x ∈ b) : a.length ≤ b.length := by
  by_cases q : b.length ≤ a.length
  · exact Nat.le_of_eq (perm_of_sub h hs q).length_eq.symm
  · omega
theorem once_iff (a b : List Nat) : sortN (dd a) = sortN (dd b) ↔ bitsOf a = bitsOf b := by
  rw [sort_iff, bits_iff]
  have ma : ∀ y, y ∈ dd a ↔ y ∈ a := fun y => by rw [dd, dd_mem]; simp
  have mb : ∀ y, y ∈ dd b ↔ y ∈ b := fun y => by rw [dd, dd_mem]; simp
  have na : (dd a).Nodup := dd_nodup a [] List.nodup_nil
  have nb : (dd b).Nodup := dd_nodup b [] List.nodup_nil
  constructor
  · intro h i
    rw [← ma, ← mb]
    exact h.mem_iff
  · intro h
    have s1 : ∀ x ∈ dd b, x ∈ dd a := fun x hx => (ma x).mpr ((h x).mpr ((mb x).mp hx))
    have s2 : ∀ x ∈ dd a, x ∈ dd b := fun x hx => (mb x).mpr ((h x).mp ((ma x).mp hx))
    exact perm_of_sub nb s1 (len_of_sub na s2)
theorem any_iff (a : List Nat) (f n : Nat) : sortN a = sortN (List.range' f n) ↔ bitsOf a = bitsOf (List.range' f n) ∧ a.length = n := by
  rw [sort_iff]
  constructor
  · intro h
    exact ⟨(bits_iff _ _).mpr fun i => h.mem_iff, by rw [h.length_eq, List.length_range']⟩
  · rintro ⟨h1, h2⟩
    rw [bits_iff] at h1
    exact perm_of_sub (List.nodup_range' ..) (fun x hx => (h1 x).mpr hx) (by rw [List.length_range']; omega)
end Ov
end
end
section
set_option Elab.async false
set_option linter.all false
set_option maxRecDepth 100000
set_option maxHeartbeats 1000000
noncomputable section
namespace Ov
open PySem L2 Ev
set_option autoImplicit false
/-- no word is too long -/
def Pn.Sm (p : Pn) : Prop := ∀ v, v < p.many + p.ds.length → (sizes p).getD v 0 ≤ 2000
theorem io15 : ioOf fks 15 = [false, false] := rfl
theorem io16 : ioOf fks 16 = [false, false] := rfl
theorem io17 : ioOf fks 17 = [false, false] := rfl
theorem plan_tree_ok {p : Pn} (h : p.Ok) (hs : p.Sm) {v : Nat} (hv : v < p.many + p.ds.length) (n : Nat) : callN fks cn (n + 5) 18 [(plW p, false), (.int v, false)] = .ok (((tr p v).toW, false), []) := by
  have e1 := short_ok h hv (hs v hv) n
  have e2 := tree_in_ok h hv (n + 2)
  rw [callN_code rfl rfl]
  simp -implicitDefEqProofs only [exSs, exS, evE, evL, evO, evI, sSeq, sAsg, sExp, sApp, sPut, sRet, sRetv, sIte, sPar, lPar, moveS, kOp, kChain, kIdx, kLst, Ev.kTup, kCon, kVar, kNot, kAnd, kOr, kIte, kBi, kCall, kSli, oInt, kNeg, kConv, lA, lH, lAnd, lOr, lArgs, ioTake, putBack, own, hd, isV, getAll, hget_val, hget_slot, T.bind_ok, fz, rd0, rdS, sett0, settS, setG_nm, setGs_nil, setGs_cons, setG_tp, cond_true, cond_false, boolOf, bopsI, op2, two_ii, subW, ltW, leW, gtW, geW, eqR, neR, yes, nay, biW, bi1, bi2, isR, isnotR, isT1, isI1, isB1, isS1, yes, isInst, lenW, List.map_cons, List.map_nil, List.cons_append, List.nil_append, List.replicate_succ, List.replicate_zero, Nat.reduceSub, Bool.not_true, Bool.not_false, ite_true, ite_false, iSeq, seqOf, List.headD_cons, List.tail_cons, guard_tt, bind_as, io15, io16, e1, e2]
  rfl
theorem plan_word_ok {p : Pn} (h : p.Ok) (hs : p.Sm) {v : Nat} (hv : v < p.many + p.ds.length) (n : Nat) : callN fks cn (n + 5) 19 [(plW p, false), (.int v, false)] = .ok ((wT (tr p v), false), []) := by
  have e1 := short_ok h hv (hs v hv) n
  have e2 := word_in_ok h hs hv (n + 2)
  rw [callN_code rfl rfl]
  simp -implicitDefEqProofs only [exSs, exS, evE, evL, evO, evI, sSeq, sAsg, sExp, sApp, sPut, sRet, sRetv, sIte, sPar, lPar, moveS, kOp, kChain, kIdx, kLst, Ev.kTup, kCon, kVar, kNot, kAnd, kOr, kIte, kBi, kCall, kSli, oInt, kNeg, kConv, lA, lH, lAnd, lOr, lArgs, ioTake, putBack, own, hd, isV, getAll, hget_val, hget_slot, T.bind_ok, fz, rd0, rdS, sett0, settS, setG_nm, setGs_nil, setGs_cons, setG_tp, cond_true, cond_false, boolOf, bopsI, op2, two_ii, subW, ltW, leW, gtW, geW, eqR, neR, yes, nay, biW, bi1, bi2, isR, isnotR, isT1, isI1, isB1, isS1, yes, isInst, lenW, List.map_cons, List.map_nil, List.cons_append, List.nil_append, List.replicate_succ, List.replicate_zero, Nat.reduceSub, Bool.not_true, Bool.not_false, ite_true, ite_false, iSeq, seqOf, List.headD_cons, List.tail_cons, guard_tt, bind_as, io15, io17, e1, e2]
  rfl
theorem rngL_eq : ∀ (n k : Nat), rngL (k : Int) n = (List.range' k n).map iW
  | 0, _ => rfl
  | n + 1, k => by
    rw [rngL, List.range'_succ, List.map_cons]
    have := rngL_eq n (k + 1)
    rw [show ((k + 1 : Nat) : Int) = (k : Int) + 1 by omega] at this
    rw [this]
    rfl
theorem rngL0 (n : Nat) : rngL 0 n = (List.range n).map iW := by
  have := rngL_eq n 0
  rw [← List.range_eq_range'] at this
  exact this
theorem fits_nat {m : Nat} (h : m ≤ 1000000) : fits62 (m : Int) = true := by
  unfold fits62
  rw [Bool.and_eq_true, decide_eq_true_eq, decide_eq_true_eq]
  omega
theorem mul2 (x : Int) : mulW (.int 2) (.int x) = .ok (.int (2 * x), false) := by
  show T.guard _ _ = _
  rw [guard_t]
  · rfl
  · rfl
theorem bor_nat (a b : Nat) : borW (.int a) (.int b) = .ok (.int ((a ||| b : Nat) : Int), false) := by
  show T.ok (W.int (Builtin.bitOr a b), false) = _
  rw [bitOr_nn (by omega) (by omega), Int.toNat_natCast, Int.toNat_natCast]
theorem lots_ok {p : Pn} (h : p.Ok) (n : Nat) : callN fks cn (n + 1) 20 [(plW p, false)] = .ok ((.lst ((lots p).map iW), true), []) := by
  have m2 := h.m2
  have dl := h.dl
  rw [callN_code rfl rfl]
  simp -implicitDefEqProofs (disch := omega) only [exSs, exS, evE, evL, evO, evI, sSeq, sAsg, sExp, sApp, sPut, sRet, sRetv, sIte, sPar, lPar, moveS, kOp, kChain, kIdx, kLst, Ev.kTup, kCon, kVar, kNot, kAnd, kOr, kIte, kBi, kCall, kSli, oInt, kNeg, kConv, lA, lH, lAnd, lOr, lArgs, ioTake, putBack, own, hd, isV, getAll, hget_val, hget_slot, T.bind_ok, fz, rd0, rdS, sett0, settS, setG_nm, setGs_nil, setGs_cons, setG_tp, cond_true, cond_false, boolOf, bopsI, op2, two_ii, subW, ltW, leW, gtW, geW, eqR, neR, yes, nay, biW, bi1, bi2, isR, isnotR, isT1, isI1, isB1, isS1, yes, isInst, lenW, List.map_cons, List.map_nil, List.cons_append, List.nil_append, List.replicate_succ, List.replicate_zero, Nat.reduceSub, Bool.not_true, Bool.not_false, ite_true, ite_false, iSeq, seqOf, List.headD_cons, List.tail_cons, guard_tt, bind_as, pl0, guard_sz, List.length_nil]
  rw [sFor]
  simp -implicitDefEqProofs (disch := omega) only [exSs, exS, evE, evL, evO, evI, sSeq, sAsg, sExp, sApp, sPut, sRet, sRetv, sIte, sPar, lPar, moveS, kOp, kChain, kIdx, kLst, Ev.kTup, kCon, kVar, kNot, kAnd, kOr, kIte, kBi, kCall, kSli, oInt, kNeg, kConv, lA, lH, lAnd, lOr, lArgs, ioTake, putBack, own, hd, isV, getAll, hget_val, hget_slot, T.bind_ok, fz, rd0, rdS, sett0, settS, setG_nm, setGs_nil, setGs_cons, setG_tp, cond_true, cond_false, boolOf, bopsI, op2, two_ii, subW, ltW, leW, gtW, geW, eqR, neR, yes, nay, biW, bi1, bi2, isR, isnotR, isT1, isI1, isB1, isS1, yes, isInst, lenW, List.map_cons, List.map_nil, List.cons_append, List.nil_append, List.replicate_succ, List.replicate_zero, Nat.reduceSub, Bool.not_true, Bool.not_false, ite_true, ite_false, iSeq, seqOf, List.headD_cons, List.tail_cons, guard_tt, bind_as, iR1, pl0, iW_eq, fits_nat, Int.toNat_natCast, rngL0]
  refine for_bind (P := fun i sl => ∃ a, sl = [some (plW p, false), some (.lst (((List.range i).map (2 ^ ·)).map iW), true), some (.int ((2 ^ i : Nat) : Int), false), a, none, none, none, none]) ⟨_, rfl⟩ ?_ ?_
  · rintro i x _ hx ⟨a, rfl⟩
    have il : i < p.many := by
      have := (List.getElem?_eq_some_iff.mp hx).1
      rw [List.length_map, List.length_range] at this
      exact this
    refine ⟨_, ?_, some (x, false), rfl⟩
    simp -implicitDefEqProofs (disch := (rw [List.length_map, List.length_map, List.length_range]; omega)) only [sTurn, exSs, exS, evE, evL, evO, evI, sSeq, sAsg, sExp, sApp, sPut, sRet, sRetv, sIte, sPar, lPar, moveS, kOp, kChain, kIdx, kLst, Ev.kTup, kCon, kVar, kNot, kAnd, kOr, kIte, kBi, kCall, kSli, oInt, kNeg, kConv, lA, lH, lAnd, lOr, lArgs, ioTake, putBack, own, hd, isV, getAll, hget_val, hget_slot, T.bind_ok, fz, rd0, rdS, sett0, settS, setG_nm, setGs_nil, setGs_cons, setG_tp, cond_true, cond_false, boolOf, bopsI, op2, two_ii, subW, ltW, leW, gtW, geW, eqR, neR, yes, nay, biW, bi1, bi2, isR, isnotR, isT1, isI1, isB1, isS1, yes, isInst, lenW, List.map_cons, List.map_nil, List.cons_append, List.nil_append, List.replicate_succ, List.replicate_zero, Nat.reduceSub, Bool.not_true, Bool.not_false, ite_true, ite_false, iSeq, seqOf, List.headD_cons, List.tail_cons, guard_tt, bind_as, isLst, appL, guard_lt, mul2]
    rw [List.range_succ, List.map_append, List.map_append, show (2 : Int) * ((2 ^ i : Nat) : Int) = ((2 ^ (i + 1) : Nat) : Int) by rw [Nat.pow_succ, Nat.mul_comm]; rfl]
    rfl
  · rintro _ ⟨a, rfl⟩
    rw [List.length_map, List.length_range]
    simp -implicitDefEqProofs only [exSs, exS, evE, evL, evO, evI, sSeq, sAsg, sExp, sApp, sPut, sRet, sRetv, sIte, sPar, lPar, moveS, kOp, kChain, kIdx, kLst, Ev.kTup, kCon, kVar, kNot, kAnd, kOr, kIte, kBi, kCall, kSli, oInt, kNeg, kConv, lA, lH, lAnd, lOr, lArgs, ioTake, putBack, own, hd, isV, getAll, hget_val, hget_slot, T.bind_ok, fz, rd0, rdS, sett0, settS, setG_nm, setGs_nil, setGs_cons, setG_tp, cond_true, cond_false, boolOf, bopsI, op2, two_ii, subW, ltW, leW, gtW, geW, eqR, neR, yes, nay, biW, bi1, bi2, isR, isnotR, isT1, isI1, isB1, isS1, yes, isInst, lenW, List.map_cons, List.map_nil, List.cons_append, List.nil_append, List.replicate_succ, List.replicate_zero, Nat.reduceSub, Bool.not_true, Bool.not_false, ite_true, ite_false, iSeq, seqOf, List.headD_cons, List.tail_cons, guard_tt, bind_as]
    rw [sFor]
    simp -implicitDefEqProofs only [exSs, exS, evE, evL, evO, evI, sSeq, sAsg, sExp, sApp, sPut, sRet, sRetv, sIte, sPar, lPar, moveS, kOp, kChain, kIdx, kLst, Ev.kTup, kCon, kVar, kNot, kAnd, kOr, kIte, kBi, kCall, kSli, oInt, kNeg, kConv, lA, lH, lAnd, lOr, lArgs, ioTake, putBack, own, hd, isV, getAll, hget_val, hget_slot, T.bind_ok, fz, rd0, rdS, sett0, settS, setG_nm, setGs_nil, setGs_cons, setG_tp, cond_true, cond_false, boolOf, bopsI, op2, two_ii, subW, ltW, leW, gtW, geW, eqR, neR, yes, nay, biW, bi1, bi2, isR, isnotR, isT1, isI1, isB1, isS1, yes, isInst, lenW, List.map_cons, List.map_nil, List.cons_append, List.nil_append, List.replicate_succ, List.replicate_zero, Nat.reduceSub, Bool.not_true, Bool.not_false, ite_true, ite_false, iSeq, seqOf, List.headD_cons, List.tail_cons, guard_tt, bind_as, pl1]
    refine for_bind (P := fun i sl => ∃ a b, sl = [some (plW p, false), some (.lst ((grow (· ||| ·) 0 ((List.range p.many).map (2 ^ ·)) (p.ds.take i)).map iW), true), some (.int ((2 ^ p.many : Nat) : Int), false), (_ : Option R), a, b, none, none]) ⟨_, _, rfl⟩ ?_ ?_
    · rintro i x _ hx ⟨a, b, rfl⟩
      rw [List.getElem?_map, Option.map_eq_some_iff] at hx
      obtain ⟨d, hdd, rfl⟩ := hx
      obtain ⟨u1, u2⟩ := h.un.get hdd
      have il := (List.getElem?_eq_some_iff.mp hdd).1
      have tl : (p.ds.take i).length = i := by rw [List.length_take]; omega
      refine ⟨_, ?_, some (iW d.1, false), some (iW d.2, false), rfl⟩
      rw [take_snoc hdd, grow_snoc, List.map_append]
      simp -implicitDefEqProofs (disch := first | (rw [List.length_map, List.length_range, tl]; omega) | (rw [List.length_map, grow_len, List.length_map, List.length_range, tl]; omega)) only [sTurn, pW_eq, exSs, exS, evE, evL, evO, evI, sSeq, sAsg, sExp, sApp, sPut, sRet, sRetv, sIte, sPar, lPar, moveS, kOp, kChain, kIdx, kLst, Ev.kTup, kCon, kVar, kNot, kAnd, kOr, kIte, kBi, kCall, kSli, oInt, kNeg, kConv, lA, lH, lAnd, lOr, lArgs, ioTake, putBack, own, hd, isV, getAll, hget_val, hget_slot, T.bind_ok, fz, rd0, rdS, sett0, settS, setG_nm, setGs_nil, setGs_cons, setG_tp, cond_true, cond_false, boolOf, bopsI, op2, two_ii, subW, ltW, leW, gtW, geW, eqR, neR, yes, nay, biW, bi1, bi2, isR, isnotR, isT1, isI1, isB1, isS1, yes, isInst, lenW, List.map_cons, List.map_nil, List.cons_append, List.nil_append, List.replicate_succ, List.replicate_zero, Nat.reduceSub, Bool.not_true, Bool.not_false, ite_true, ite_false, iSeq, seqOf, List.headD_cons, List.tail_cons, guard_tt, bind_as, idxL, at_grow, iW_eq, isLst, appL, guard_lt, bor_nat]
    · rintro _ ⟨a, b, rfl⟩
      rw [List.length_map, List.take_length]
      simp -implicitDefEqProofs only [exSs, exS, evE, evL, evO, evI, sSeq, sAsg, sExp, sApp, sPut, sRet, sRetv, sIte, sPar, lPar, moveS, kOp, kChain, kIdx, kLst, Ev.kTup, kCon, kVar, kNot, kAnd, kOr, kIte, kBi, kCall, kSli, oInt, kNeg, kConv, lA, lH, lAnd, lOr, lArgs, ioTake, putBack, own, hd, isV, getAll, hget_val, hget_slot, T.bind_ok, fz, rd0, rdS, sett0, settS, setG_nm, setGs_nil, setGs_cons, setG_tp, cond_true, cond_false, boolOf, bopsI, op2, two_ii, subW, ltW, leW, gtW, geW, eqR, neR, yes, nay, biW, bi1, bi2, isR, isnotR, isT1, isI1, isB1, isS1, yes, isInst, lenW, List.map_cons, List.map_nil, List.cons_append, List.nil_append, List.replicate_succ, List.replicate_zero, Nat.reduceSub, Bool.not_true, Bool.not_false, ite_true, ite_false, iSeq, seqOf, List.headD_cons, List.tail_cons, guard_tt, bind_as]
      rfl
theorem law_trees_ok {p : Pn} (h : p.Ok) (n : Nat) : callN fks cn (n + 1) 34 [(plW p, false)] = .ok ((.lst ((trs p).map Tr.toW), true), []) := by
  have m2 := h.m2
  have dl := h.dl
  rw [callN_code rfl rfl]
  simp -implicitDefEqProofs (disch := first | omega | (rw [List.length_map, List.length_range]; omega)) only [exSs, exS, evE, evL, evO, evI, sSeq, sAsg, sExp, sApp, sPut, sRet, sRetv, sIte, sPar, lPar, moveS, kOp, kChain, kIdx, kLst, Ev.kTup, kCon, kVar, kNot, kAnd, kOr, kIte, kBi, kCall, kSli, oInt, kNeg, kConv, lA, lH, lAnd, lOr, lArgs, ioTake, putBack, own, hd, isV, getAll, hget_val, hget_slot, T.bind_ok, fz, rd0, rdS, sett0, settS, setG_nm, setGs_nil, setGs_cons, setG_tp, cond_true, cond_false, boolOf, bopsI, op2, two_ii, subW, ltW, leW, gtW, geW, eqR, neR, yes, nay, biW, bi1, bi2, isR, isnotR, isT1, isI1, isB1, isS1, yes, isInst, lenW, List.map_cons, List.map_nil, List.cons_append, List.nil_append, List.replicate_succ, List.replicate_zero, Nat.reduceSub, Bool.not_true, Bool.not_false, ite_true, ite_false, iSeq, seqOf, List.headD_cons, List.tail_cons, guard_tt, bind_as, iR1, pl0, iW_eq, fits_nat, Int.toNat_natCast, rngL0, guard_sz]
  rw [sFor]
  simp -implicitDefEqProofs only [exSs, exS, evE, evL, evO, evI, sSeq, sAsg, sExp, sApp, sPut, sRet, sRetv, sIte, sPar, lPar, moveS, kOp, kChain, kIdx, kLst, Ev.kTup, kCon, kVar, kNot, kAnd, kOr, kIte, kBi, kCall, kSli, oInt, kNeg, kConv, lA, lH, lAnd, lOr, lArgs, ioTake, putBack, own, hd, isV, getAll, hget_val, hget_slot, T.bind_ok, fz, rd0, rdS, sett0, settS, setG_nm, setGs_nil, setGs_cons, setG_tp, cond_true, cond_false, boolOf, bopsI, op2, two_ii, subW, ltW, leW, gtW, geW, eqR, neR, yes, nay, biW, bi1, bi2, isR, isnotR, isT1, isI1, isB1, isS1, yes, isInst, lenW, List.map_cons, List.map_nil, List.cons_append, List.nil_append, List.replicate_succ, List.replicate_zero, Nat.reduceSub, Bool.not_true, Bool.not_false, ite_true, ite_false, iSeq, seqOf, List.headD_cons, List.tail_cons, guard_tt, bind_as, pl1]
  refine for_bind (P := fun i sl => ∃ a b, sl = [some (plW p, false), some (.lst ((grow Tr.nd (.lf 0) ((List.range p.many).map Tr.lf) (p.ds.take i)).map Tr.toW), true), a, b]) ⟨_, _, by rw [List.take_zero, grow, List.map_map]; rfl⟩ ?_ ?_
  · rintro i x _ hx ⟨a, b, rfl⟩
    rw [List.getElem?_map, Option.map_eq_some_iff] at hx
    obtain ⟨d, hdd, rfl⟩ := hx
    obtain ⟨u1, u2⟩ := h.un.get hdd
    have il := (List.getElem?_eq_some_iff.mp hdd).1
    have tl : (p.ds.take i).length = i := by rw [List.length_take]; omega
    refine ⟨_, ?_, some (iW d.1, false), some (iW d.2, false), rfl⟩
    rw [take_snoc hdd, grow_snoc, List.map_append]
    simp -implicitDefEqProofs (disch := first | omega | (rw [List.length_map, List.length_range, tl]; omega) | (rw [List.length_map, grow_len, List.length_map, List.length_range, tl]; omega)) only [sTurn, pW_eq, exSs, exS, evE, evL, evO, evI, sSeq, sAsg, sExp, sApp, sPut, sRet, sRetv, sIte, sPar, lPar, moveS, kOp, kChain, kIdx, kLst, Ev.kTup, kCon, kVar, kNot, kAnd, kOr, kIte, kBi, kCall, kSli, oInt, kNeg, kConv, lA, lH, lAnd, lOr, lArgs, ioTake, putBack, own, hd, isV, getAll, hget_val, hget_slot, T.bind_ok, fz, rd0, rdS, sett0, settS, setG_nm, setGs_nil, setGs_cons, setG_tp, cond_true, cond_false, boolOf, bopsI, op2, two_ii, subW, ltW, leW, gtW, geW, eqR, neR, yes, nay, biW, bi1, bi2, isR, isnotR, isT1, isI1, isB1, isS1, yes, isInst, lenW, List.map_cons, List.map_nil, List.cons_append, List.nil_append, List.replicate_succ, List.replicate_zero, Nat.reduceSub, Bool.not_true, Bool.not_false, ite_true, ite_false, iSeq, seqOf, List.headD_cons, List.tail_cons, guard_tt, bind_as, idxL, at_grow, iW_eq, isLst, appL, guard_lt, guard_sz, List.length_cons, List.length_nil]
    rfl
  · rintro _ ⟨a, b, rfl⟩
    rw [List.length_map, List.take_length]
    simp -implicitDefEqProofs only [exSs, exS, evE, evL, evO, evI, sSeq, sAsg, sExp, sApp, sPut, sRet, sRetv, sIte, sPar, lPar, moveS, kOp, kChain, kIdx, kLst, Ev.kTup, kCon, kVar, kNot, kAnd, kOr, kIte, kBi, kCall, kSli, oInt, kNeg, kConv, lA, lH, lAnd, lOr, lArgs, ioTake, putBack, own, hd, isV, getAll, hget_val, hget_slot, T.bind_ok, fz, rd0, rdS, sett0, settS, setG_nm, setGs_nil, setGs_cons, setG_tp, cond_true, cond_false, boolOf, bopsI, op2, two_ii, subW, ltW, leW, gtW, geW, eqR, neR, yes, nay, biW, bi1, bi2, isR, isnotR, isT1, isI1, isB1, isS1, yes, isInst, lenW, List.map_cons, List.map_nil, List.cons_append, List.nil_append, List.replicate_succ, List.replicate_zero, Nat.reduceSub, Bool.not_true, Bool.not_false, ite_true, ite_false, iSeq, seqOf, List.headD_cons, List.tail_cons, guard_tt, bind_as]
    rfl
theorem io35 : ioOf fks 35 = [false] := rfl
theorem tup1 (a b : W) : idxW (.tup [a, b]) (.int 1) = .ok b := rfl
theorem law_word_ok : ∀ (t : Tr) (n : Nat), t.dep ≤ n → t.word.length ≤ 5000 → callN fks cn n 35 [(t.toW, false)] = .ok ((wT t, false), [])
  | .lf k, 0, h, _ => by cases h
  | .lf k, n + 1, _, _ => by
    rw [callN_code rfl rfl]
    simp -implicitDefEqProofs (disch := omega) only [Tr.toW, exSs, exS, evE, evL, evO, evI, sSeq, sAsg, sExp, sApp, sPut, sRet, sRetv, sIte, sPar, lPar, moveS, kOp, kChain, kIdx, kLst, Ev.kTup, kCon, kVar, kNot, kAnd, kOr, kIte, kBi, kCall, kSli, oInt, kNeg, kConv, lA, lH, lAnd, lOr, lArgs, ioTake, putBack, own, hd, isV, getAll, hget_val, hget_slot, T.bind_ok, fz, rd0, rdS, sett0, settS, setG_nm, setGs_nil, setGs_cons, setG_tp, cond_true, cond_false, boolOf, bopsI, op2, two_ii, subW, ltW, leW, gtW, geW, eqR, neR, yes, nay, biW, bi1, bi2, isR, isnotR, isT1, isI1, isB1, isS1, yes, isInst, lenW, List.map_cons, List.map_nil, List.cons_append, List.nil_append, List.replicate_succ, List.replicate_zero, Nat.reduceSub, Bool.not_true, Bool.not_false, ite_true, ite_false, iSeq, seqOf, List.headD_cons, List.tail_cons, guard_tt, bind_as, guard_sz, List.length_singleton]
    rfl
  | .nd a b, 0, h, _ => by cases h
  | .nd a b, n + 1, h, hl => by
    have h : max a.dep b.dep + 1 ≤ n + 1 := h
    have hl : (a.word ++ b.word).length ≤ 5000 := hl
    rw [List.length_append] at hl
    have e1 := law_word_ok a n (by omega) (by omega)
    have e2 := law_word_ok b n (by omega) (by omega)
    have ad : addW (wT a) (wT b) = .ok (wT (.nd a b), false) := by
      show T.guard (Nat.ble ((a.word.map iW).length + (b.word.map iW).length) sizeLine) _ = _
      rw [guard_sz (by rw [List.length_map, List.length_map]; omega)]
      show T.ok (W.tup (a.word.map iW ++ b.word.map iW), false) = _
      rw [← List.map_append]
      rfl
    rw [callN_code rfl rfl]
    simp -implicitDefEqProofs (disch := omega) only [Tr.toW, exSs, exS, evE, evL, evO, evI, sSeq, sAsg, sExp, sApp, sPut, sRet, sRetv, sIte, sPar, lPar, moveS, kOp, kChain, kIdx, kLst, Ev.kTup, kCon, kVar, kNot, kAnd, kOr, kIte, kBi, kCall, kSli, oInt, kNeg, kConv, lA, lH, lAnd, lOr, lArgs, ioTake, putBack, own, hd, isV, getAll, hget_val, hget_slot, T.bind_ok, fz, rd0, rdS, sett0, settS, setG_nm, setGs_nil, setGs_cons, setG_tp, cond_true, cond_false, boolOf, bopsI, op2, two_ii, subW, ltW, leW, gtW, geW, eqR, neR, yes, nay, biW, bi1, bi2, isR, isnotR, isT1, isI1, isB1, isS1, yes, isInst, lenW, List.map_cons, List.map_nil, List.cons_append, List.nil_append, List.replicate_succ, List.replicate_zero, Nat.reduceSub, Bool.not_true, Bool.not_false, ite_true, ite_false, iSeq, seqOf, List.headD_cons, List.tail_cons, guard_tt, bind_as, tup2_0, tup2_1, io35, e1, e2, ad]
    rfl
/-- from the right -/
def gT (f : Nat) : Nat → Tr
  | 0 => .lf f
  | n + 1 => .nd (.lf f) (gT (f + 1) n)
theorem gT_word : ∀ (n f : Nat), (gT f n).word = List.range' f (n + 1)
  | 0, f => rfl
  | n + 1, f => by
    rw [gT, Tr.word, gT_word n (f + 1)]
    rfl
theorem goal_tree_ok {g : Nat × Nat} (h : g.1 ≤ g.2) (h2 : g.2 ≤ 1000) (n : Nat) : callN fks cn (n + 1) 37 [(pW g, false)] = .ok (((gT g.1 (g.2 - g.1)).toW, false), []) := by
  rw [callN_code rfl rfl]
  have hf1 : fits62 ((g.2 : Int) - 1) = true := by
    unfold fits62
    rw [Bool.and_eq_true, decide_eq_true_eq, decide_eq_true_eq]
    omega
  have hf2 : fits62 ((g.1 : Int) - 1) = true := by
    unfold fits62
    rw [Bool.and_eq_true, decide_eq_true_eq, decide_eq_true_eq]
    omega
  have hcn : ((g.2 : Int) - 1 - ((g.1 : Int) - 1)).toNat = g.2 - g.1 := by omega
  have hneg : eqI (-1) (-1) = true := rfl
  simp -implicitDefEqProofs only [pW_eq, exSs, exS, evE, evL, evO, evI, sSeq, sAsg, sExp, sApp, sPut, sRet, sRetv, sIte, sPar, lPar, moveS, kOp, kChain, kIdx, kLst, Ev.kTup, kCon, kVar, kNot, kAnd, kOr, kIte, kBi, kCall, kSli, oInt, kNeg, kConv, lA, lH, lAnd, lOr, lArgs, ioTake, putBack, own, hd, isV, getAll, hget_val, hget_slot, T.bind_ok, fz, rd0, rdS, sett0, settS, setG_nm, setGs_nil, setGs_cons, setG_tp, cond_true, cond_false, boolOf, bopsI, op2, two_ii, subW, ltW, leW, gtW, geW, eqR, neR, yes, nay, biW, bi1, bi2, isR, isnotR, isT1, isI1, isB1, isS1, yes, isInst, lenW, List.map_cons, List.map_nil, List.cons_append, List.nil_append, List.replicate_succ, List.replicate_zero, Nat.reduceSub, Bool.not_true, Bool.not_false, ite_true, ite_false, iSeq, seqOf, List.headD_cons, List.tail_cons, guard_tt, bind_as, tup2_0, tup2_1]
  rw [sFor]
  simp -implicitDefEqProofs only [exSs, exS, evE, evL, evO, evI, sSeq, sAsg, sExp, sApp, sPut, sRet, sRetv, sIte, sPar, lPar, moveS, kOp, kChain, kIdx, kLst, Ev.kTup, kCon, kVar, kNot, kAnd, kOr, kIte, kBi, kCall, kSli, oInt, kNeg, kConv, lA, lH, lAnd, lOr, lArgs, ioTake, putBack, own, hd, isV, getAll, hget_val, hget_slot, T.bind_ok, fz, rd0, rdS, sett0, settS, setG_nm, setGs_nil, setGs_cons, setG_tp, cond_true, cond_false, boolOf, bopsI, op2, two_ii, subW, ltW, leW, gtW, geW, eqR, neR, yes, nay, biW, bi1, bi2, isR, isnotR, isT1, isI1, isB1, isS1, yes, isInst, lenW, List.map_cons, List.map_nil, List.cons_append, List.nil_append, List.replicate_succ, List.replicate_zero, Nat.reduceSub, Bool.not_true, Bool.not_false, ite_true, ite_false, iSeq, seqOf, List.headD_cons, List.tail_cons, guard_tt, bind_as, iR3, int2, tup2_0, tup2_1, hf1, hf2, hneg, Bool.and_self, hcn]
  refine for_bind (P := fun i sl => ∃ a, sl = [some (.tup [.int g.1, .int g.2], false), some ((gT (g.2 - i) i).toW, false), a]) ⟨_, rfl⟩ ?_ ?_
  · rintro i x _ hx ⟨a, rfl⟩
    obtain ⟨rfl, il⟩ := dnL_get hx
    have ex : (g.2 : Int) - 1 - (i : Nat) = ((g.2 - (i + 1) : Nat) : Int) := by omega
    refine ⟨_, ?_, some (.int ((g.2 : Int) - 1 - (i : Nat)), false), rfl⟩
    simp -implicitDefEqProofs (disch := omega) only [sTurn, exSs, exS, evE, evL, evO, evI, sSeq, sAsg, sExp, sApp, sPut, sRet, sRetv, sIte, sPar, lPar, moveS, kOp, kChain, kIdx, kLst, Ev.kTup, kCon, kVar, kNot, kAnd, kOr, kIte, kBi, kCall, kSli, oInt, kNeg, kConv, lA, lH, lAnd, lOr, lArgs, ioTake, putBack, own, hd, isV, getAll, hget_val, hget_slot, T.bind_ok, fz, rd0, rdS, sett0, settS, setG_nm, setGs_nil, setGs_cons, setG_tp, cond_true, cond_false, boolOf, bopsI, op2, two_ii, subW, ltW, leW, gtW, geW, eqR, neR, yes, nay, biW, bi1, bi2, isR, isnotR, isT1, isI1, isB1, isS1, yes, isInst, lenW, List.map_cons, List.map_nil, List.cons_append, List.nil_append, List.replicate_succ, List.replicate_zero, Nat.reduceSub, Bool.not_true, Bool.not_false, ite_true, ite_false, iSeq, seqOf, List.headD_cons, List.tail_cons, guard_tt, bind_as, guard_sz, List.length_cons, List.length_nil]
    rw [gT, show g.2 - (i + 1) + 1 = g.2 - i by omega, ex]
    rfl
  · rintro _ ⟨a, rfl⟩
    rw [dnL_len, show g.2 - (g.2 - g.1) = g.1 by omega]
    simp -implicitDefEqProofs only [exSs, exS, evE, evL, evO, evI, sSeq, sAsg, sExp, sApp, sPut, sRet, sRetv, sIte, sPar, lPar, moveS, kOp, kChain, kIdx, kLst, Ev.kTup, kCon, kVar, kNot, kAnd, kOr, kIte, kBi, kCall, kSli, oInt, kNeg, kConv, lA, lH, lAnd, lOr, lArgs, ioTake, putBack, own, hd, isV, getAll, hget_val, hget_slot, T.bind_ok, fz, rd0, rdS, sett0, settS, setG_nm, setGs_nil, setGs_cons, setG_tp, cond_true, cond_false, boolOf, bopsI, op2, two_ii, subW, ltW, leW, gtW, geW, eqR, neR, yes, nay, biW, bi1, bi2, isR, isnotR, isT1, isI1, isB1, isS1, yes, isInst, lenW, List.map_cons, List.map_nil, List.cons_append, List.nil_append, List.replicate_succ, List.replicate_zero, Nat.reduceSub, Bool.not_true, Bool.not_false, ite_true, ite_false, iSeq, seqOf, List.headD_cons, List.tail_cons, guard_tt, bind_as]
    rfl
end Ov
end
end
section
set_option Elab.async false
set_option linter.all false
set_option maxRecDepth 100000
set_option maxHeartbeats 1000000
noncomputable section
namespace Ov
open PySem L2 Ev
set_option autoImplicit false
theorem seq2_0 (a b : W) : seqAt [a, b] 0 = .ok a := rfl
theorem seq2_1 (a b : W) : seqAt [a, b] 1 = .ok b := rfl
theorem tr_is_lf {p : Pn} (h : p.Ok) {x f : Nat} (hx : x < p.many + p.ds.length) (hf : f < p.many) : tr p x = .lf f ↔ x = f := by
  by_cases hm : x < p.many
  · rw [tr_lf hm]
    exact ⟨fun e => Tr.lf.inj e, fun e => by rw [e]⟩
  · obtain ⟨d, hdd⟩ : ∃ d, p.ds[x - p.many]? = some d := ⟨_, List.getElem?_eq_getElem (by omega)⟩
    rw [tr_nd h (by omega) hdd]
    exact ⟨fun e => (by cases e), fun e => by omega⟩
theorem fr_loop {p : Pn} (h : p.Ok) {turn : W → Sl → T Fl} {K : Fl → T (R × List W)} {S : Nat → Option R → Sl} {l : Nat}
    (t1 : ∀ (f x : Nat) a, x < p.many → ∃ sl, turn (.int (f : Int)) (S x a) = .ok (.ret (.bl false, false) sl) ∧ K (.ret (.bl false, false) sl) = .ok ((.bl false, false), []))
    (t2 : ∀ (f x : Nat) a d, p.many ≤ x → p.ds[x - p.many]? = some d → d.1 ≠ f → ∃ sl, turn (.int (f : Int)) (S x a) = .ok (.ret (.bl false, false) sl) ∧ K (.ret (.bl false, false) sl) = .ok ((.bl false, false), []))
    (t3 : ∀ (f x : Nat) a d, p.many ≤ x → p.ds[x - p.many]? = some d → d.1 = f → ∃ a', turn (.int (f : Int)) (S x a) = .ok (.nx (S d.2 a')))
    (tk : ∀ (x : Nat) a, K (.nx (S x a)) = .ok ((.bl (eqI x l), false), [])) :
    ∀ (n f x : Nat) a, x < p.many + p.ds.length → f + n = l → l < p.many → (forGo turn (rngL f n) (S x a)).bind K = .ok ((.bl (decide (tr p x = gT f n)), false), [])
  | 0, f, x, a, hx, hl, hm => by
    show K (.nx (S x a)) = _
    rw [tk, eqI_dec, gT]
    have e : (((x : Nat) : Int) = (l : Nat)) ↔ tr p x = .lf f := by
      rw [tr_is_lf h hx (by omega)]
      omega
    rw [decide_eq_decide.mpr e]
  | n + 1, f, x, a, hx, hl, hm => by
    rw [rngL, forGo]
    by_cases hxm : x < p.many
    · obtain ⟨sl, e1, e2⟩ := t1 f x a hxm
      rw [e1]
      show K (.ret (.bl false, false) sl) = _
      rw [e2, tr_lf hxm, gT, decide_eq_false (by intro z; cases z)]
    · obtain ⟨d, hdd⟩ : ∃ d, p.ds[x - p.many]? = some d := ⟨_, List.getElem?_eq_getElem (by omega)⟩
      obtain ⟨u1, u2⟩ := h.un.get hdd
      have et := tr_nd h (Nat.le_of_not_lt hxm) hdd
      by_cases hd : d.1 = f
      · obtain ⟨a', e1⟩ := t3 f x a d (by omega) hdd hd
        rw [e1]
        have ih := fr_loop h t1 t2 t3 tk n (f + 1) d.2 a' (by omega) (by omega) hm
        show (forGo turn (rngL ((f : Int) + 1) n) (S d.2 a')).bind K = _
        rw [show (f : Int) + 1 = ((f + 1 : Nat) : Int) by omega, ih, et, gT]
        have e : tr p d.2 = gT (f + 1) n ↔ Tr.nd (tr p d.1) (tr p d.2) = Tr.nd (.lf f) (gT (f + 1) n) := by
          rw [(tr_is_lf h (x := d.1) (f := f) (by omega) (by omega)).mpr hd]
          exact ⟨fun z => by rw [z], fun z => (Tr.nd.inj z).2⟩
        rw [decide_eq_decide.mpr e]
      · obtain ⟨sl, e1, e2⟩ := t2 f x a d (by omega) hdd hd
        rw [e1]
        show K (.ret (.bl false, false) sl) = _
        rw [e2, et, gT, decide_eq_false (by
          intro z
          injection z with z1 z2
          exact hd ((tr_is_lf h (by omega) (by omega)).mp z1))]
theorem from_right_ok {p : Pn} (h : p.Ok) {v : Nat} {g : Nat × Nat} (hv : v < p.many + p.ds.length) (hg : g.1 ≤ g.2) (hg2 : g.2 < p.many) (n : Nat) :
    callN fks cn (n + 1) 21 [(plW p, false), (.int v, false), (.int g.1, false), (.int g.2, false)] = .ok ((.bl (decide (tr p v = gT g.1 (g.2 - g.1))), false), []) := by
  have m2 := h.m2
  rw [callN_code rfl rfl]
  simp -implicitDefEqProofs only [exSs, exS, evE, evL, evO, evI, sSeq, sAsg, sExp, sApp, sPut, sRet, sRetv, sIte, sPar, lPar, moveS, kOp, kChain, kIdx, kLst, Ev.kTup, kCon, kVar, kNot, kAnd, kOr, kIte, kBi, kCall, kSli, oInt, kNeg, kConv, lA, lH, lAnd, lOr, lArgs, ioTake, putBack, own, hd, isV, getAll, hget_val, hget_slot, T.bind_ok, fz, rd0, rdS, sett0, settS, setG_nm, setGs_nil, setGs_cons, setG_tp, cond_true, cond_false, boolOf, bopsI, op2, two_ii, subW, ltW, leW, gtW, geW, eqR, neR, yes, nay, biW, bi1, bi2, isR, isnotR, isT1, isI1, isB1, isS1, yes, isInst, lenW, List.map_cons, List.map_nil, List.cons_append, List.nil_append, List.replicate_succ, List.replicate_zero, Nat.reduceSub, Bool.not_true, Bool.not_false, ite_true, ite_false, iSeq, seqOf, List.headD_cons, List.tail_cons, guard_tt, bind_as, pl0, iW_eq]
  rw [sFor]
  have hc : ((g.2 : Int) - (g.1 : Int)).toNat = g.2 - g.1 := by omega
  simp -implicitDefEqProofs only [exSs, exS, evE, evL, evO, evI, sSeq, sAsg, sExp, sApp, sPut, sRet, sRetv, sIte, sPar, lPar, moveS, kOp, kChain, kIdx, kLst, Ev.kTup, kCon, kVar, kNot, kAnd, kOr, kIte, kBi, kCall, kSli, oInt, kNeg, kConv, lA, lH, lAnd, lOr, lArgs, ioTake, putBack, own, hd, isV, getAll, hget_val, hget_slot, T.bind_ok, fz, rd0, rdS, sett0, settS, setG_nm, setGs_nil, setGs_cons, setG_tp, cond_true, cond_false, boolOf, bopsI, op2, two_ii, subW, ltW, leW, gtW, geW, eqR, neR, yes, nay, biW, bi1, bi2, isR, isnotR, isT1, isI1, isB1, isS1, yes, isInst, lenW, List.map_cons, List.map_nil, List.cons_append, List.nil_append, List.replicate_succ, List.replicate_zero, Nat.reduceSub, Bool.not_true, Bool.not_false, ite_true, ite_false, iSeq, seqOf, List.headD_cons, List.tail_cons, guard_tt, bind_as, iR2, int2, fits_nat (show g.1 ≤ 1000000 by omega), fits_nat (show g.2 ≤ 1000000 by omega), Bool.and_self, hc]
  refine fr_loop h (S := fun x a => [some (plW p, false), some (.int v, false), some (.int g.1, false), some (.int g.2, false), some (.int p.many, false), some (.int x, false), a, none, none]) (l := g.2) ?_ ?_ ?_ ?_ _ _ _ _ hv (by omega) hg2
  · intro f x a hx
    have gd : decide ((x : Int) < (p.many : Int)) = true := decide_eq_true (by omega)
    refine ⟨[some (plW p, false), some (.int v, false), some (.int g.1, false), some (.int g.2, false), some (.int p.many, false), some (.int x, false), some (.int f, false), none, none], ?_, rfl⟩
    simp -implicitDefEqProofs only [sTurn, exSs, exS, evE, evL, evO, evI, sSeq, sAsg, sExp, sApp, sPut, sRet, sRetv, sIte, sPar, lPar, moveS, kOp, kChain, kIdx, kLst, Ev.kTup, kCon, kVar, kNot, kAnd, kOr, kIte, kBi, kCall, kSli, oInt, kNeg, kConv, lA, lH, lAnd, lOr, lArgs, ioTake, putBack, own, hd, isV, getAll, hget_val, hget_slot, T.bind_ok, fz, rd0, rdS, sett0, settS, setG_nm, setGs_nil, setGs_cons, setG_tp, cond_true, cond_false, boolOf, bopsI, op2, two_ii, subW, ltW, leW, gtW, geW, eqR, neR, yes, nay, biW, bi1, bi2, isR, isnotR, isT1, isI1, isB1, isS1, yes, isInst, lenW, List.map_cons, List.map_nil, List.cons_append, List.nil_append, List.replicate_succ, List.replicate_zero, Nat.reduceSub, Bool.not_true, Bool.not_false, ite_true, ite_false, iSeq, seqOf, List.headD_cons, List.tail_cons, guard_tt, bind_as, gd]
  · intro f x a d hx hdd hf
    have gd : decide ((x : Int) < (p.many : Int)) = false := decide_eq_false (by omega)
    have rdd := dwEq hx hdd
    have ne : eqI (d.1 : Int) (f : Int) = false := by rw [eqI_dec]; exact decide_eq_false (by omega)
    refine ⟨[some (plW p, false), some (.int v, false), some (.int g.1, false), some (.int g.2, false), some (.int p.many, false), some (.int x, false), some (.int f, false), none, none], ?_, rfl⟩
    simp -implicitDefEqProofs only [sTurn, exSs, exS, evE, evL, evO, evI, sSeq, sAsg, sExp, sApp, sPut, sRet, sRetv, sIte, sPar, lPar, moveS, kOp, kChain, kIdx, kLst, Ev.kTup, kCon, kVar, kNot, kAnd, kOr, kIte, kBi, kCall, kSli, oInt, kNeg, kConv, lA, lH, lAnd, lOr, lArgs, ioTake, putBack, own, hd, isV, getAll, hget_val, hget_slot, T.bind_ok, fz, rd0, rdS, sett0, settS, setG_nm, setGs_nil, setGs_cons, setG_tp, cond_true, cond_false, boolOf, bopsI, op2, two_ii, subW, ltW, leW, gtW, geW, eqR, neR, yes, nay, biW, bi1, bi2, isR, isnotR, isT1, isI1, isB1, isS1, yes, isInst, lenW, List.map_cons, List.map_nil, List.cons_append, List.nil_append, List.replicate_succ, List.replicate_zero, Nat.reduceSub, Bool.not_true, Bool.not_false, ite_true, ite_false, iSeq, seqOf, List.headD_cons, List.tail_cons, guard_tt, bind_as, gd, pl1, idxT, rdd, pW_eq, tup2_0, seq2_0, eqW_ii, ne]
  · intro f x a d hx hdd hf
    have gd : decide ((x : Int) < (p.many : Int)) = false := decide_eq_false (by omega)
    have rdd := dwEq hx hdd
    have ne : eqI (d.1 : Int) (f : Int) = true := by rw [eqI_dec]; exact decide_eq_true (by omega)
    refine ⟨some (.int f, false), ?_⟩
    simp -implicitDefEqProofs only [sTurn, exSs, exS, evE, evL, evO, evI, sSeq, sAsg, sExp, sApp, sPut, sRet, sRetv, sIte, sPar, lPar, moveS, kOp, kChain, kIdx, kLst, Ev.kTup, kCon, kVar, kNot, kAnd, kOr, kIte, kBi, kCall, kSli, oInt, kNeg, kConv, lA, lH, lAnd, lOr, lArgs, ioTake, putBack, own, hd, isV, getAll, hget_val, hget_slot, T.bind_ok, fz, rd0, rdS, sett0, settS, setG_nm, setGs_nil, setGs_cons, setG_tp, cond_true, cond_false, boolOf, bopsI, op2, two_ii, subW, ltW, leW, gtW, geW, eqR, neR, yes, nay, biW, bi1, bi2, isR, isnotR, isT1, isI1, isB1, isS1, yes, isInst, lenW, List.map_cons, List.map_nil, List.cons_append, List.nil_append, List.replicate_succ, List.replicate_zero, Nat.reduceSub, Bool.not_true, Bool.not_false, ite_true, ite_false, iSeq, seqOf, List.headD_cons, List.tail_cons, guard_tt, bind_as, gd, pl1, idxT, rdd, pW_eq, seq2_0, seq2_1, eqW_ii, ne]
  · intro x a
    simp -implicitDefEqProofs only [exSs, exS, evE, evL, evO, evI, sSeq, sAsg, sExp, sApp, sPut, sRet, sRetv, sIte, sPar, lPar, moveS, kOp, kChain, kIdx, kLst, Ev.kTup, kCon, kVar, kNot, kAnd, kOr, kIte, kBi, kCall, kSli, oInt, kNeg, kConv, lA, lH, lAnd, lOr, lArgs, ioTake, putBack, own, hd, isV, getAll, hget_val, hget_slot, T.bind_ok, fz, rd0, rdS, sett0, settS, setG_nm, setGs_nil, setGs_cons, setG_tp, cond_true, cond_false, boolOf, bopsI, op2, two_ii, subW, ltW, leW, gtW, geW, eqR, neR, yes, nay, biW, bi1, bi2, isR, isnotR, isT1, isI1, isB1, isS1, yes, isInst, lenW, List.map_cons, List.map_nil, List.cons_append, List.nil_append, List.replicate_succ, List.replicate_zero, Nat.reduceSub, Bool.not_true, Bool.not_false, ite_true, ite_false, iSeq, seqOf, List.headD_cons, List.tail_cons, guard_tt, bind_as, eqW_ii]
    rfl
/-! ### data -/
def Tr.toDt : Tr → PyData
  | .lf n => .int n
  | .nd a b => .tuple [a.toDt, b.toDt]
theorem toD_tr : ∀ t : Tr, toD t.toW = some t.toDt
  | .lf _ => by rw [Tr.toW, toD, Tr.toDt]
  | .nd a b => by rw [Tr.toW, toD, toDs, toD_tr a, toDs, toD_tr b, toDs, Tr.toDt]; rfl
def nats (l : List Nat) : List PyData := l.map fun n : Nat => .int (n : Int)
theorem toDs_nats (l : List Nat) : toDs (l.map iW) = some (nats l) := by
  induction l with
  | nil => rw [List.map_nil, toDs]; rfl
  | cons a l ih => rw [List.map_cons, toDs, ih, iW, toD]; rfl
theorem toD_wW (l : List Nat) : toD (wW l) = some (.tuple (nats l)) := by rw [wW, toD, toDs_nats]; rfl
theorem eqv_tr : ∀ t u : Tr, PyData.eqv t.toDt u.toDt = decide (t = u)
  | .lf a, .lf b => by
    simp only [Tr.toDt, PyData.eqv]
    by_cases e : a = b
    · subst e; simp
    · rw [decide_eq_false (by intro z; cases z; exact e rfl)]
      simp only [beq_eq_false_iff_ne, ne_eq]
      omega
  | .lf a, .nd b c => by simp only [Tr.toDt, PyData.eqv]; exact (decide_eq_false (by intro z; cases z)).symm
  | .nd b c, .lf a => by simp only [Tr.toDt, PyData.eqv]; exact (decide_eq_false (by intro z; cases z)).symm
  | .nd a b, .nd c d => by
    simp only [Tr.toDt, PyData.eqv, PyData.eqvAll, eqv_tr a c, eqv_tr b d, Bool.and_true]
    by_cases e1 : a = c
    · by_cases e2 : b = d
      · subst e1 e2; simp
      · rw [decide_eq_false e2, Bool.and_false, decide_eq_false (by intro z; cases z; exact e2 rfl)]
    · rw [decide_eq_false e1, Bool.false_and, decide_eq_false (by intro z; cases z; exact e1 rfl)]
theorem eqv_ints : ∀ a b : List Nat, PyData.eqvAll (nats a) (nats b) = decide (a = b)
  | [], [] => by simp only [nats, List.map_nil, PyData.eqvAll]; rfl
  | [], _ :: _ => by simp only [nats, List.map_nil, List.map_cons, PyData.eqvAll]; rfl
  | _ :: _, [] => by simp only [nats, List.map_nil, List.map_cons, PyData.eqvAll]; rfl
  | x :: a, y :: b => by
    have ih := eqv_ints a b
    unfold nats at ih ⊢
    simp only [List.map_cons, PyData.eqvAll, ih, PyData.eqv]
    by_cases e1 : x = y
    · subst e1
      by_cases e2 : a = b
      · subst e2; simp
      · rw [decide_eq_false e2, Bool.and_false, decide_eq_false (by intro z; cases z; exact e2 rfl)]
    · rw [decide_eq_false (show ¬ x :: a = y :: b by intro z; cases z; exact e1 rfl)]
      have : (((x : Nat) : Int) == ((y : Nat) : Int)) = false := by simp only [beq_eq_false_iff_ne, ne_eq]; omega
      rw [this, Bool.false_and]
def Tr.ht : Tr → Nat
  | .lf _ => 0
  | .nd a b => max a.ht b.ht + 1
theorem lay_tr : ∀ t : Tr, t.toDt.canLay0 = true
  | .lf _ => by rw [Tr.toDt, PyData.canLay0]
  | .nd a b => by rw [Tr.toDt, PyData.canLay0, PyData.canLayAll0, lay_tr a, PyData.canLayAll0, lay_tr b, PyData.canLayAll0]; rfl
theorem dep_tr : ∀ t : Tr, t.toDt.depth = t.ht
  | .lf _ => by rw [Tr.toDt, PyData.depth, Tr.ht]
  | .nd a b => by
    rw [Tr.toDt, PyData.depth, PyData.depthAll, dep_tr a, PyData.depthAll, dep_tr b, PyData.depthAll, Tr.ht]
    omega
theorem lay_ints : ∀ l : List Nat, PyData.canLayAll0 (nats l) = true
  | [] => by rw [nats, List.map_nil, PyData.canLayAll0]
  | a :: l => by
    have := lay_ints l
    unfold nats at this ⊢
    rw [List.map_cons, PyData.canLayAll0, this, PyData.canLay0]
    rfl
theorem dep_ints' : ∀ l : List Nat, PyData.depthAll (nats l) = 0
  | [] => by rw [nats, List.map_nil, PyData.depthAll]
  | a :: l => by
    have := dep_ints' l
    unfold nats at this ⊢
    rw [List.map_cons, PyData.depthAll, this, PyData.depth]
    rfl
theorem shaped_tr {t : Tr} (h : t.ht ≤ 64) : SeqAt.shaped t.toDt = true := by
  unfold SeqAt.shaped
  rw [lay_tr, dep_tr, Bool.true_and]
  exact decide_eq_true h
theorem shaped_w (l : List Nat) : SeqAt.shaped (.tuple (nats l)) = true := by
  unfold SeqAt.shaped
  rw [PyData.canLay0, lay_ints, PyData.depth, dep_ints']
  rfl
theorem eqW_tr {t u : Tr} (h1 : t.ht ≤ 64) (h2 : u.ht ≤ 64) : eqW t.toW u.toW = .ok (decide (t = u)) := by
  have eg : eqG t.toW u.toW = .ok (decide (t = u)) := by
    unfold eqG
    rw [toD_tr, toD_tr]
    show T.guard _ _ = _
    rw [guard_t (by rw [shaped_tr h1, shaped_tr h2]; rfl), eqv_tr]
  cases t with
  | lf a =>
    cases u with
    | lf b =>
      show T.ok (eqI a b) = _
      rw [eqI_dec]
      have e : ((a : Int) = (b : Int)) ↔ Tr.lf a = Tr.lf b := ⟨fun z => by congr 1; omega, fun z => by cases z; rfl⟩
      rw [decide_eq_decide.mpr e]
    | nd c d => exact eg
  | nd a b => exact eg
theorem eqW_w (a b : List Nat) : eqW (wW a) (wW b) = .ok (decide (a = b)) := by
  show eqG (wW a) (wW b) = _
  unfold eqG
  rw [toD_wW, toD_wW]
  show T.guard _ _ = _
  rw [guard_t (by rw [shaped_w, shaped_w]; rfl)]
  simp only [PyData.eqv, eqv_ints]
theorem ht_tr {p : Pn} (h : p.Ok) : ∀ (v : Nat), v < p.many + p.ds.length → (tr p v).ht ≤ v + 1 - p.many ∧ (tr p v).dep ≤ (tr p v).ht + 1
  | v, hv => by
    by_cases hm : v < p.many
    · rw [tr_lf hm]
      exact ⟨Nat.zero_le _, Nat.le_refl _⟩
    · obtain ⟨d, hdd⟩ : ∃ d, p.ds[v - p.many]? = some d := ⟨_, List.getElem?_eq_getElem (by omega)⟩
      obtain ⟨u1, u2⟩ := h.un.get hdd
      rw [tr_nd h (by omega) hdd]
      obtain ⟨a1, a2⟩ := ht_tr h d.1 (by omega)
      obtain ⟨b1, b2⟩ := ht_tr h d.2 (by omega)
      refine ⟨?_, ?_⟩
      · show max _ _ + 1 ≤ _
        omega
      · show max _ _ + 1 ≤ max _ _ + 1 + 1
        omega
  termination_by v => v
/-! ### repr -/
def ItD : PyData → Prop
  | .int n => 0 ≤ n ∧ n < 1000
  | .none => True
  | .bool _ => True
  | _ => False
theorem io29 : ioOf fks 29 = [false, false] := rfl
theorem like_ok {w : W} {d : PyData} (h1 : toD w = some d) (h2 : reprOk d = true) (n : Nat) : callN fks cn (n + 1) 29 [(w, false), (w, false)] = .ok ((.bl true, false), []) := by
  have e1 : reprW w = .ok (.rpr d, false) := by
    unfold reprW
    rw [h1]
    show T.guard _ _ = _
    rw [guard_t h2]
    rfl
  have e2 : eqW (.rpr d) (.rpr d) = .ok true := by
    show T.ok (sameD d d || eqS d.shown d.shown) = _
    rw [eqS_self, Bool.or_true]
  rw [callN_code rfl rfl]
  simp -implicitDefEqProofs only [exSs, exS, evE, evL, evO, evI, sSeq, sAsg, sExp, sApp, sPut, sRet, sRetv, sIte, sPar, lPar, moveS, kOp, kChain, kIdx, kLst, Ev.kTup, kCon, kVar, kNot, kAnd, kOr, kIte, kBi, kCall, kSli, oInt, kNeg, kConv, lA, lH, lAnd, lOr, lArgs, ioTake, putBack, own, hd, isV, getAll, hget_val, hget_slot, T.bind_ok, fz, rd0, rdS, sett0, settS, setG_nm, setGs_nil, setGs_cons, setG_tp, cond_true, cond_false, boolOf, bopsI, op2, two_ii, subW, ltW, leW, gtW, geW, eqR, neR, yes, nay, biW, bi1, bi2, isR, isnotR, isT1, isI1, isB1, isS1, yes, isInst, lenW, List.map_cons, List.map_nil, List.cons_append, List.nil_append, List.replicate_succ, List.replicate_zero, Nat.reduceSub, Bool.not_true, Bool.not_false, ite_true, ite_false, iSeq, seqOf, List.headD_cons, List.tail_cons, guard_tt, bind_as, e1, e2]
  rfl
theorem show_tr : ∀ t : Tr, (∀ n ∈ t.word, n < 1000) → t.toDt.showable = true ∧ t.toDt.hasDict = false ∧ roomD t.toDt + 7 ≤ 1100 * t.word.length
  | .lf n, h => by
    have hn := h n (List.mem_singleton.mpr rfl)
    rw [Tr.toDt, PyData.showable, PyData.hasDict, roomD, Tr.word]
    have hl : (n : Int).natAbs.log2 ≤ n := by
      rw [Int.natAbs_natCast]
      exact Nat.log2_le_self n
    exact ⟨decide_eq_true (by omega), rfl, by rw [List.length_singleton]; omega⟩
  | .nd a b, h => by
    have ha := show_tr a fun n hn => h n (List.mem_append.mpr (.inl hn))
    have hb := show_tr b fun n hn => h n (List.mem_append.mpr (.inr hn))
    rw [Tr.toDt, PyData.showable, PyData.showableAll, PyData.showableAll, PyData.showableAll, PyData.hasDict, PyData.hasDictAll, PyData.hasDictAll, PyData.hasDictAll, roomD, roomDs, roomDs, roomDs, Tr.word, List.length_append, ha.1, hb.1, ha.2.1, hb.2.1]
    exact ⟨rfl, rfl, by have := ha.2.2; have := hb.2.2; omega⟩
theorem repr_tr {t : Tr} (h1 : ∀ n ∈ t.word, n < 1000) (h2 : t.word.length ≤ 2000) (h3 : t.ht ≤ 64) : reprOk t.toDt = true := by
  obtain ⟨a, b, c⟩ := show_tr t h1
  unfold reprOk
  rw [a, b, dep_tr, Bool.true_and, Bool.and_eq_true, Bool.and_eq_true]
  exact ⟨⟨decide_eq_true (Nat.le_trans (show roomD t.toDt ≤ 3000000 by omega) (by decide)), rfl⟩, decide_eq_true h3⟩
theorem show_ints : ∀ l : List Nat, (∀ n ∈ l, n < 1000) → PyData.showableAll (nats l) = true ∧ PyData.hasDictAll (nats l) = false ∧ roomDs (nats l) ≤ 1100 * l.length
  | [], _ => by rw [nats, List.map_nil, PyData.showableAll, PyData.hasDictAll, roomDs]; exact ⟨rfl, rfl, Nat.zero_le _⟩
  | n :: l, h => by
    have hn := h n (List.mem_cons_self ..)
    have ih := show_ints l fun m hm => h m (List.mem_cons_of_mem _ hm)
    unfold nats at ih ⊢
    have hl : (n : Int).natAbs.log2 ≤ n := by
      rw [Int.natAbs_natCast]
      exact Nat.log2_le_self n
    rw [List.map_cons, PyData.showableAll, PyData.hasDictAll, roomDs, ih.1, ih.2.1, PyData.showable, PyData.hasDict, roomD, List.length_cons]
    exact ⟨by rw [Bool.and_true]; exact decide_eq_true (by omega), rfl, by have := ih.2.2; omega⟩
theorem repr_w {l : List Nat} (h1 : ∀ n ∈ l, n < 1000) (h2 : l.length ≤ 2000) : reprOk (.tuple (nats l)) = true := by
  obtain ⟨a, b, c⟩ := show_ints l h1
  unfold reprOk
  rw [PyData.showable, PyData.hasDict, a, b, PyData.depth, dep_ints', roomD, Bool.true_and, Bool.and_eq_true, Bool.and_eq_true]
  exact ⟨⟨decide_eq_true (Nat.le_trans (show roomDs (nats l) + 3 ≤ 3000000 by omega) (by decide)), rfl⟩, rfl⟩
end Ov
end
end
section
set_option Elab.async false
set_option linter.all false
set_option maxRecDepth 100000
set_option maxHeartbeats 1000000
noncomputable section
namespace Ov
open PySem L2 Ev
set_option autoImplicit false
inductive Cu where
  | none | group | any | once
def Cu.s : Cu → Str
  | .none => ⟨#[110, 111, 110, 101]⟩
  | .group => ⟨#[103, 114, 111, 117, 112]⟩
  | .any => ⟨#[97, 110, 121]⟩
  | .once => ⟨#[111, 110, 99, 101]⟩
/-- what the free verb of a custom makes of two things is the same -/
def same (c : Cu) (t u : Tr) : Bool := match c with
  | .none => decide (t = u)
  | .group => decide (t.word = u.word)
  | .any => decide (sortN t.word = sortN u.word)
  | .once => decide (sortN (dd t.word) = sortN (dd u.word))
def freeW (c : Cu) (t : Tr) : W := match c with
  | .none => t.toW
  | .group => wT t
  | .any => wW (sortN t.word)
  | .once => wW (sortN (dd t.word))
theorem eqW_ss (x y : Str) : eqW (.str x) (.str y) = .ok (eqS x y) := rfl
theorem intsOf_nat : ∀ l : List Nat, intsOf (l.map iW) = some (l.map fun n : Nat => (n : Int))
  | [] => rfl
  | a :: l => by
    rw [List.map_cons, iW, intsOf, intsOf_nat l]
    rfl
theorem sorted_w {l : List Nat} (h : l.length ≤ 100000) : sortedW (wW l) = .ok (.lst ((sortN l).map iW), true) := by
  show sortW (intsOf (l.map iW)) = _
  rw [intsOf_nat]
  show T.guard _ _ = _
  rw [guard_sz (by rw [List.length_map]; exact h), sortI_nat, List.map_map]
  rfl
theorem keys_put : ∀ (l : List Nat) (x : Nat), (keysI (l.map fun n : Nat => (((.inl (n : Int) : Ky), (.bl true : W))))) = some (l.map fun n : Nat => (n : Int))
  | [], _ => rfl
  | a :: l, x => by
    rw [List.map_cons, keysI, keys_put l x]
    rfl
def dctOf (l : List Nat) : List (Ky × W) := l.map fun n : Nat => (((.inl (n : Int) : Ky), (.bl true : W)))
theorem dct_has : ∀ (l : List Nat) (x : Nat), hasK (dctOf l) (.inl (x : Int)) = decide (x ∈ l)
  | [], x => (decide_eq_false List.not_mem_nil).symm
  | a :: l, x => by
    have ih := dct_has l x
    show cond (eqK (.inl (a : Int)) (.inl (x : Int))) true (hasK (dctOf l) (.inl (x : Int))) = _
    rw [ih, eqK_dec]
    by_cases h : a = x
    · subst h
      simp
    · have h1 : ¬ ((Sum.inl (a : Int) : Ky) = Sum.inl (x : Int)) := fun z => h (by have := Sum.inl.inj z; omega)
      rw [decide_eq_false h1]
      show decide (x ∈ l) = _
      refine decide_eq_decide.mpr ⟨fun z => List.mem_cons_of_mem _ z, fun z => ?_⟩
      rcases List.mem_cons.mp z with q | q
      · exact (h q.symm).elim
      · exact q
theorem dct_map : ∀ (l : List Nat) (x : Ky), mapK (dctOf l) x (.bl true) = dctOf l
  | [], _ => rfl
  | a :: l, x => by
    show (Sum.inl (a : Int), cond (eqK _ x) (W.bl true) (W.bl true)) :: mapK (dctOf l) x (.bl true) = _
    rw [dct_map l x, Bool.cond_self]
    rfl
theorem dct_put (l : List Nat) (x : Nat) : Ev.putK (dctOf l) (.inl (x : Int)) (.bl true) = dctOf (ddF l x) := by
  unfold Ev.putK ddF
  rw [dct_has, dct_map]
  by_cases h : x ∈ l
  · rw [decide_eq_true h, if_pos h]; rfl
  · rw [decide_eq_false h, if_neg h]
    show dctOf l ++ [_] = _
    unfold dctOf
    rw [List.map_append]
    rfl
theorem pairs_nat : ∀ l : List Nat, pairsOf (l.map fun n : Nat => W.tup [.int (n : Int), .bl true]) = some (dctOf l)
  | [] => rfl
  | a :: l => by
    rw [List.map_cons, pairsOf, pairs_nat l]
    rfl
theorem dct_fold : ∀ (l acc : List Nat), (dctOf l).foldl (fun (d : List (Ky × W)) (p : Ky × W) => Ev.putK d p.1 p.2) (dctOf acc) = dctOf (l.foldl ddF acc)
  | [], _ => rfl
  | a :: l, acc => by
    show (dctOf l).foldl _ (Ev.putK (dctOf acc) (.inl (a : Int)) (.bl true)) = _
    rw [dct_put, dct_fold l]
    rfl
theorem dict_nat (l : List Nat) : dictW (.lst (l.map fun n : Nat => W.tup [.int (n : Int), .bl true])) = .ok (.dct (dctOf (dd l)), true) := by
  show (match pairsOf (l.map fun n : Nat => W.tup [.int (n : Int), .bl true]) with | some ps => T.ok (W.dct (ps.foldl (fun (d : List (Ky × W)) (p : Ky × W) => Ev.putK d p.1 p.2) []), true) | none => T.stk) = _
  rw [pairs_nat]
  show T.ok (W.dct ((dctOf l).foldl _ (dctOf [])), true) = _
  rw [dct_fold]
  rfl
theorem dd_len (l : List Nat) : (dd l).length ≤ l.length := len_of_sub (dd_nodup l [] List.nodup_nil) fun x hx => by
  have := (dd_mem l [] x).mp hx
  simpa using this
theorem sorted_d {l : List Nat} (h : l.length ≤ 100000) : sortedW (.dct (dctOf l)) = .ok (.lst ((sortN l).map iW), true) := by
  show sortW (keysI (dctOf l)) = _
  rw [show keysI (dctOf l) = some (l.map fun n : Nat => (n : Int)) from keys_put l 0]
  show T.guard _ _ = _
  rw [guard_sz (by rw [List.length_map]; exact h), sortI_nat, List.map_map]
  rfl
theorem tupleL (xs : List W) : tupleW (.lst xs) = .ok (.tup xs, false) := rfl
def oncF : W → Option W
  | .int k => some (.tup [.int k, .bl true])
  | _ => none
theorem onc_map (l : List Nat) : (l.map iW).filterMap oncF = l.map fun n : Nat => W.tup [.int (n : Int), .bl true] := by
  rw [List.filterMap_map]
  induction l with
  | nil => rfl
  | cons a l ih => rw [List.filterMap_cons, List.map_cons, ih]; rfl
theorem free_ok (c : Cu) (t : Tr) (h : t.word.length ≤ 5000) (n : Nat) : callN fks cn (n + 1) 36 [(.str c.s, false), (wT t, false), (t.toW, false)] = .ok ((freeW c t, false), []) := by
  rw [callN_code rfl rfl]
  cases c with
  | none =>
    have e1 : eqS Cu.none.s ⟨#[110, 111, 110, 101]⟩ = true := by decide +kernel
    simp -implicitDefEqProofs only [exSs, exS, evE, evL, evO, evI, sSeq, sAsg, sExp, sApp, sPut, sRet, sRetv, sIte, sPar, lPar, moveS, kOp, kChain, kIdx, kLst, Ev.kTup, kCon, kVar, kNot, kAnd, kOr, kIte, kBi, kCall, kSli, oInt, kNeg, kConv, lA, lH, lAnd, lOr, lArgs, ioTake, putBack, own, hd, isV, getAll, hget_val, hget_slot, T.bind_ok, fz, rd0, rdS, sett0, settS, setG_nm, setGs_nil, setGs_cons, setG_tp, cond_true, cond_false, boolOf, bopsI, op2, two_ii, subW, ltW, leW, gtW, geW, eqR, neR, yes, nay, biW, bi1, bi2, isR, isnotR, isT1, isI1, isB1, isS1, yes, isInst, lenW, List.map_cons, List.map_nil, List.cons_append, List.nil_append, List.replicate_succ, List.replicate_zero, Nat.reduceSub, Bool.not_true, Bool.not_false, ite_true, ite_false, iSeq, seqOf, List.headD_cons, List.tail_cons, guard_tt, bind_as, eqW_ss, e1]
    rfl
  | group =>
    have e1 : eqS Cu.group.s ⟨#[110, 111, 110, 101]⟩ = false := by decide +kernel
    have e2 : eqS Cu.group.s ⟨#[103, 114, 111, 117, 112]⟩ = true := by decide +kernel
    simp -implicitDefEqProofs only [exSs, exS, evE, evL, evO, evI, sSeq, sAsg, sExp, sApp, sPut, sRet, sRetv, sIte, sPar, lPar, moveS, kOp, kChain, kIdx, kLst, Ev.kTup, kCon, kVar, kNot, kAnd, kOr, kIte, kBi, kCall, kSli, oInt, kNeg, kConv, lA, lH, lAnd, lOr, lArgs, ioTake, putBack, own, hd, isV, getAll, hget_val, hget_slot, T.bind_ok, fz, rd0, rdS, sett0, settS, setG_nm, setGs_nil, setGs_cons, setG_tp, cond_true, cond_false, boolOf, bopsI, op2, two_ii, subW, ltW, leW, gtW, geW, eqR, neR, yes, nay, biW, bi1, bi2, isR, isnotR, isT1, isI1, isB1, isS1, yes, isInst, lenW, List.map_cons, List.map_nil, List.cons_append, List.nil_append, List.replicate_succ, List.replicate_zero, Nat.reduceSub, Bool.not_true, Bool.not_false, ite_true, ite_false, iSeq, seqOf, List.headD_cons, List.tail_cons, guard_tt, bind_as, eqW_ss, e1, e2]
    rfl
  | any =>
    have e1 : eqS Cu.any.s ⟨#[110, 111, 110, 101]⟩ = false := by decide +kernel
    have e2 : eqS Cu.any.s ⟨#[103, 114, 111, 117, 112]⟩ = false := by decide +kernel
    have e3 : eqS Cu.any.s ⟨#[97, 110, 121]⟩ = true := by decide +kernel
    simp -implicitDefEqProofs only [exSs, exS, evE, evL, evO, evI, sSeq, sAsg, sExp, sApp, sPut, sRet, sRetv, sIte, sPar, lPar, moveS, kOp, kChain, kIdx, kLst, Ev.kTup, kCon, kVar, kNot, kAnd, kOr, kIte, kBi, kCall, kSli, oInt, kNeg, kConv, lA, lH, lAnd, lOr, lArgs, ioTake, putBack, own, hd, isV, getAll, hget_val, hget_slot, T.bind_ok, fz, rd0, rdS, sett0, settS, setG_nm, setGs_nil, setGs_cons, setG_tp, cond_true, cond_false, boolOf, bopsI, op2, two_ii, subW, ltW, leW, gtW, geW, eqR, neR, yes, nay, biW, bi1, bi2, isR, isnotR, isT1, isI1, isB1, isS1, yes, isInst, lenW, List.map_cons, List.map_nil, List.cons_append, List.nil_append, List.replicate_succ, List.replicate_zero, Nat.reduceSub, Bool.not_true, Bool.not_false, ite_true, ite_false, iSeq, seqOf, List.headD_cons, List.tail_cons, guard_tt, bind_as, eqW_ss, e1, e2, e3, wT, sorted_w (show t.word.length ≤ 100000 by omega), tupleL]
    rfl
  | once =>
    have e1 : eqS Cu.once.s ⟨#[110, 111, 110, 101]⟩ = false := by decide +kernel
    have e2 : eqS Cu.once.s ⟨#[103, 114, 111, 117, 112]⟩ = false := by decide +kernel
    have e3 : eqS Cu.once.s ⟨#[97, 110, 121]⟩ = false := by decide +kernel
    have hdl := dd_len t.word
    have lc := lc_ok (turn := kLcT [3] (Ev.kTup [(some 3, kVar 3), (none, kCon (.bl true))]) (Tg.nm 3) []) (f := oncF) (S := [some (.str Cu.once.s, false), some (wT t, false), some (t.toW, false), none]) (xs := t.word.map iW) (acc := []) (by rw [List.length_map, List.length_nil]; omega) fun x hx => by
      obtain ⟨k, _, rfl⟩ := List.mem_map.mp hx
      simp -implicitDefEqProofs (disch := omega) only [kLcT, exSs, exS, evE, evL, evO, evI, sSeq, sAsg, sExp, sApp, sPut, sRet, sRetv, sIte, sPar, lPar, moveS, kOp, kChain, kIdx, kLst, Ev.kTup, kCon, kVar, kNot, kAnd, kOr, kIte, kBi, kCall, kSli, oInt, kNeg, kConv, lA, lH, lAnd, lOr, lArgs, ioTake, putBack, own, hd, isV, getAll, hget_val, hget_slot, T.bind_ok, fz, rd0, rdS, sett0, settS, setG_nm, setGs_nil, setGs_cons, setG_tp, cond_true, cond_false, boolOf, bopsI, op2, two_ii, subW, ltW, leW, gtW, geW, eqR, neR, yes, nay, biW, bi1, bi2, isR, isnotR, isT1, isI1, isB1, isS1, yes, isInst, lenW, List.map_cons, List.map_nil, List.cons_append, List.nil_append, List.replicate_succ, List.replicate_zero, Nat.reduceSub, Bool.not_true, Bool.not_false, ite_true, ite_false, iSeq, seqOf, List.headD_cons, List.tail_cons, guard_tt, bind_as, wipeS, guard_sz, List.length_cons, List.length_nil]
      rfl
    rw [onc_map] at lc
    simp -implicitDefEqProofs only [exSs, exS, evE, evL, evO, evI, sSeq, sAsg, sExp, sApp, sPut, sRet, sRetv, sIte, sPar, lPar, moveS, kOp, kChain, kIdx, kLst, Ev.kTup, kCon, kVar, kNot, kAnd, kOr, kIte, kBi, kCall, kSli, oInt, kNeg, kConv, lA, lH, lAnd, lOr, lArgs, ioTake, putBack, own, hd, isV, getAll, hget_val, hget_slot, T.bind_ok, fz, rd0, rdS, sett0, settS, setG_nm, setGs_nil, setGs_cons, setG_tp, cond_true, cond_false, boolOf, bopsI, op2, two_ii, subW, ltW, leW, gtW, geW, eqR, neR, yes, nay, biW, bi1, bi2, isR, isnotR, isT1, isI1, isB1, isS1, yes, isInst, lenW, List.map_cons, List.map_nil, List.cons_append, List.nil_append, List.replicate_succ, List.replicate_zero, Nat.reduceSub, Bool.not_true, Bool.not_false, ite_true, ite_false, iSeq, seqOf, List.headD_cons, List.tail_cons, guard_tt, bind_as, eqW_ss, e1, e2, e3, kLc, wT, wW, wipeS]
    unfold wT wW at lc
    simp -implicitDefEqProofs only [exSs, exS, evE, evL, evO, evI, sSeq, sAsg, sExp, sApp, sPut, sRet, sRetv, sIte, sPar, lPar, moveS, kOp, kChain, kIdx, kLst, Ev.kTup, kCon, kVar, kNot, kAnd, kOr, kIte, kBi, kCall, kSli, oInt, kNeg, kConv, lA, lH, lAnd, lOr, lArgs, ioTake, putBack, own, hd, isV, getAll, hget_val, hget_slot, T.bind_ok, fz, rd0, rdS, sett0, settS, setG_nm, setGs_nil, setGs_cons, setG_tp, cond_true, cond_false, boolOf, bopsI, op2, two_ii, subW, ltW, leW, gtW, geW, eqR, neR, yes, nay, biW, bi1, bi2, isR, isnotR, isT1, isI1, isB1, isS1, yes, isInst, lenW, List.map_cons, List.map_nil, List.cons_append, List.nil_append, List.replicate_succ, List.replicate_zero, Nat.reduceSub, Bool.not_true, Bool.not_false, ite_true, ite_false, iSeq, seqOf, List.headD_cons, List.tail_cons, guard_tt, bind_as, lc, List.reverse_nil, dict_nat, sorted_d (show (dd t.word).length ≤ 100000 by omega), tupleL]
    rfl
theorem free_eq (c : Cu) {t u : Tr} (h1 : t.ht ≤ 64) (h2 : u.ht ≤ 64) : eqW (freeW c t) (freeW c u) = .ok (same c t u) := by
  cases c with
  | none => exact eqW_tr h1 h2
  | group => exact eqW_w _ _
  | any => exact eqW_w _ _
  | once => exact eqW_w _ _
/-! ### does_make -/
theorem cut_nat (xs : List Nat) {f l : Nat} (h1 : f ≤ l) (h2 : l < xs.length) : cut (xs.map iW) (some (f : Int)) (some ((l : Int) + 1)) = ((xs.drop f).take (l + 1 - f)).map iW := by
  unfold cut
  have e1 : cutIx (xs.map iW).length 0 (some (f : Int)) = f := by
    show (if (f : Int) < 0 then ((f : Int) + ((xs.map iW).length : Int)).toNat else min (f : Int).toNat (xs.map iW).length) = _
    rw [if_neg (by omega), Int.toNat_natCast, List.length_map]
    omega
  have e2 : cutIx (xs.map iW).length (xs.map iW).length (some ((l : Int) + 1)) = l + 1 := by
    show (if (l : Int) + 1 < 0 then ((l : Int) + 1 + ((xs.map iW).length : Int)).toNat else min ((l : Int) + 1).toNat (xs.map iW).length) = _
    rw [if_neg (by omega), List.length_map]
    omega
  rw [e1, e2, ← List.map_drop, ← List.map_take]
theorem lots_cut {p : Pn} (h : p.Ok) {f l : Nat} (h1 : f ≤ l) (h2 : l < p.many) : ((lots p).drop f).take (l + 1 - f) = (List.range' f (l + 1 - f)).map (2 ^ ·) := by
  refine List.ext_getElem? fun i => ?_
  rw [List.getElem?_take, List.getElem?_map]
  by_cases hi : i < l + 1 - f
  · rw [if_pos hi, List.getElem?_drop, List.getElem?_range' hi]
    have hl : f + i < (lots p).length := by
      unfold lots
      rw [grow_len, List.length_map, List.length_range]
      omega
    have e : (lots p).getD (f + i) 0 = 2 ^ (f + i) := by
      unfold lots
      rw [grow_pre _ _ _ (by rw [List.length_map, List.length_range]; omega), List.getD_eq_getElem?_getD, List.getElem?_map, List.getElem?_range (by omega)]
      rfl
    rw [List.getD_eq_getElem?_getD, List.getElem?_eq_getElem hl] at e
    rw [List.getElem?_eq_getElem hl, show (lots p)[f + i] = 2 ^ (f + i) from e]
    simp
  · rw [if_neg hi, List.getElem?_eq_none (by rw [List.length_range']; omega)]
    rfl
theorem sum_nat : ∀ l : List Nat, (l.map fun n : Nat => (n : Int)).sum = ((l.sum : Nat) : Int)
  | [] => rfl
  | a :: l => by
    rw [List.map_cons, List.sum_cons, List.sum_cons, sum_nat l]
    omega
theorem sum_lots {p : Pn} (h : p.Ok) {f l : Nat} (h1 : f ≤ l) (h2 : l < p.many) : sumW (.lst (cut ((lots p).map iW) (some (f : Int)) (some ((l : Int) + 1)))) = .ok (.int ((bitsOf (List.range' f (l + 1 - f)) : Nat) : Int), false) := by
  rw [cut_nat _ h1 (by unfold lots; rw [grow_len, List.length_map, List.length_range]; omega), lots_cut h h1 h2]
  show (match intsOf _ with | some is => fz (.int is.sum) | none => .stk) = _
  rw [intsOf_nat]
  show fz (.int _) = _
  rw [sum_nat, (bits_sum (l + 1 - f) f).choose_spec.2]
  rfl
theorem sliL (xs : List W) (lo hi : Option Int) : sliW (.lst xs) lo hi = .ok (.lst (cut xs lo hi), true) := rfl
theorem io20 : ioOf fks 20 = [false] := rfl
theorem io21 : ioOf fks 21 = [false, false, false, false] := rfl
theorem io22 : ioOf fks 22 = [false, false, false, false] := rfl
theorem rng_w (f n : Nat) : W.tup (rngL (f : Int) n) = wW (List.range' f n) := by rw [rngL_eq]; rfl
theorem does_make_ok {p : Pn} (h : p.Ok) (hs : p.Sm) (c : Cu) {v : Nat} {g : Nat × Nat} (hv : v < p.many + p.ds.length) (hg : g.1 ≤ g.2) (hg2 : g.2 < p.many) (n : Nat) :
    callN fks cn (n + 3) 22 [(.str c.s, false), (plW p, false), (.int v, false), (pW g, false)] = .ok ((.bl (same c (tr p v) (gT g.1 (g.2 - g.1))), false), []) := by
  have m2 := h.m2
  have gw : (gT g.1 (g.2 - g.1)).word = List.range' g.1 (g.2 + 1 - g.1) := by rw [gT_word]; congr 1; omega
  have e20 := lots_ok h (n + 1)
  have e13 := word_sizes_ok p h (n + 1)
  have e17 := word_in_ok h hs hv n
  have el : seqAt ((lots p).map iW) (v : Int) = .ok (.int ((bitsOf (tr p v).word : Nat) : Int)) := by
    rw [← lots_tr h hv]
    exact at_grow (by rw [List.length_map, List.length_range]; exact hv)
  have es : seqAt ((sizes p).map iW) (v : Int) = .ok (.int (((tr p v).word.length : Nat) : Int)) := by
    rw [← sizes_tr h hv]
    exact at_grow (by rw [List.length_replicate]; exact hv)
  have esum := sum_lots h hg hg2
  have ff1 : fits62 (g.1 : Int) = true := fits_nat (by omega)
  have ff2 : fits62 ((g.2 : Int) + 1) = true := by
    have := fits_nat (m := g.2 + 1) (by omega)
    rw [show ((g.2 + 1 : Nat) : Int) = (g.2 : Int) + 1 by omega] at this
    exact this
  rw [callN_code rfl rfl]
  rw [pW_eq]
  by_cases hn : c = .none
  · subst hn
    have e1 : eqS Cu.none.s ⟨#[110, 111, 110, 101]⟩ = true := by decide +kernel
    have e21 := from_right_ok h hv hg hg2 (n + 1)
    simp -implicitDefEqProofs only [exSs, exS, evE, evL, evO, evI, sSeq, sAsg, sExp, sApp, sPut, sRet, sRetv, sIte, sPar, lPar, moveS, kOp, kChain, kIdx, kLst, Ev.kTup, kCon, kVar, kNot, kAnd, kOr, kIte, kBi, kCall, kSli, oInt, kNeg, kConv, lA, lH, lAnd, lOr, lArgs, ioTake, putBack, own, hd, isV, getAll, hget_val, hget_slot, T.bind_ok, fz, rd0, rdS, sett0, settS, setG_nm, setGs_nil, setGs_cons, setG_tp, cond_true, cond_false, boolOf, bopsI, op2, two_ii, subW, ltW, leW, gtW, geW, eqR, neR, yes, nay, biW, bi1, bi2, isR, isnotR, isT1, isI1, isB1, isS1, yes, isInst, lenW, List.map_cons, List.map_nil, List.cons_append, List.nil_append, List.replicate_succ, List.replicate_zero, Nat.reduceSub, Bool.not_true, Bool.not_false, ite_true, ite_false, iSeq, seqOf, List.headD_cons, List.tail_cons, guard_tt, bind_as, eqW_ss, e1, io21, e21]
    rfl
  · have e1 : eqS c.s ⟨#[110, 111, 110, 101]⟩ = false := by
      cases c <;> first
        | exact (hn rfl).elim
        | decide +kernel
    simp -implicitDefEqProofs only [exSs, exS, evE, evL, evO, evI, sSeq, sAsg, sExp, sApp, sPut, sRet, sRetv, sIte, sPar, lPar, moveS, kOp, kChain, kIdx, kLst, Ev.kTup, kCon, kVar, kNot, kAnd, kOr, kIte, kBi, kCall, kSli, oInt, kNeg, kConv, lA, lH, lAnd, lOr, lArgs, ioTake, putBack, own, hd, isV, getAll, hget_val, hget_slot, T.bind_ok, fz, rd0, rdS, sett0, settS, setG_nm, setGs_nil, setGs_cons, setG_tp, cond_true, cond_false, boolOf, bopsI, op2, two_ii, subW, ltW, leW, gtW, geW, eqR, neR, yes, nay, biW, bi1, bi2, isR, isnotR, isT1, isI1, isB1, isS1, yes, isInst, lenW, List.map_cons, List.map_nil, List.cons_append, List.nil_append, List.replicate_succ, List.replicate_zero, Nat.reduceSub, Bool.not_true, Bool.not_false, ite_true, ite_false, iSeq, seqOf, List.headD_cons, List.tail_cons, guard_tt, bind_as, eqW_ss, e1, io20, e20, idxL, el, ff1, ff2, sliL, esum, eqW_ii]
    by_cases hb : bitsOf (tr p v).word = bitsOf (List.range' g.1 (g.2 + 1 - g.1))
    · have eb : eqI ((bitsOf (tr p v).word : Nat) : Int) ((bitsOf (List.range' g.1 (g.2 + 1 - g.1)) : Nat) : Int) = true := by rw [hb, eqI_tt]
      simp -implicitDefEqProofs only [exSs, exS, evE, evL, evO, evI, sSeq, sAsg, sExp, sApp, sPut, sRet, sRetv, sIte, sPar, lPar, moveS, kOp, kChain, kIdx, kLst, Ev.kTup, kCon, kVar, kNot, kAnd, kOr, kIte, kBi, kCall, kSli, oInt, kNeg, kConv, lA, lH, lAnd, lOr, lArgs, ioTake, putBack, own, hd, isV, getAll, hget_val, hget_slot, T.bind_ok, fz, rd0, rdS, sett0, settS, setG_nm, setGs_nil, setGs_cons, setG_tp, cond_true, cond_false, boolOf, bopsI, op2, two_ii, subW, ltW, leW, gtW, geW, eqR, neR, yes, nay, biW, bi1, bi2, isR, isnotR, isT1, isI1, isB1, isS1, yes, isInst, lenW, List.map_cons, List.map_nil, List.cons_append, List.nil_append, List.replicate_succ, List.replicate_zero, Nat.reduceSub, Bool.not_true, Bool.not_false, ite_true, ite_false, iSeq, seqOf, List.headD_cons, List.tail_cons, guard_tt, bind_as, eb]
      by_cases ho : c = .once
      · subst ho
        have e2 : eqS Cu.once.s ⟨#[111, 110, 99, 101]⟩ = true := by decide +kernel
        have r : same .once (tr p v) (gT g.1 (g.2 - g.1)) = true := by
          unfold same
          rw [gw]
          exact decide_eq_true ((once_iff _ _).mpr hb)
        simp -implicitDefEqProofs only [exSs, exS, evE, evL, evO, evI, sSeq, sAsg, sExp, sApp, sPut, sRet, sRetv, sIte, sPar, lPar, moveS, kOp, kChain, kIdx, kLst, Ev.kTup, kCon, kVar, kNot, kAnd, kOr, kIte, kBi, kCall, kSli, oInt, kNeg, kConv, lA, lH, lAnd, lOr, lArgs, ioTake, putBack, own, hd, isV, getAll, hget_val, hget_slot, T.bind_ok, fz, rd0, rdS, sett0, settS, setG_nm, setGs_nil, setGs_cons, setG_tp, cond_true, cond_false, boolOf, bopsI, op2, two_ii, subW, ltW, leW, gtW, geW, eqR, neR, yes, nay, biW, bi1, bi2, isR, isnotR, isT1, isI1, isB1, isS1, yes, isInst, lenW, List.map_cons, List.map_nil, List.cons_append, List.nil_append, List.replicate_succ, List.replicate_zero, Nat.reduceSub, Bool.not_true, Bool.not_false, ite_true, ite_false, iSeq, seqOf, List.headD_cons, List.tail_cons, guard_tt, bind_as, eqW_ss, e2, r]
        rfl
      · have e2 : eqS c.s ⟨#[111, 110, 99, 101]⟩ = false := by
          cases c <;> first
            | exact (ho rfl).elim
            | decide +kernel
        simp -implicitDefEqProofs only [exSs, exS, evE, evL, evO, evI, sSeq, sAsg, sExp, sApp, sPut, sRet, sRetv, sIte, sPar, lPar, moveS, kOp, kChain, kIdx, kLst, Ev.kTup, kCon, kVar, kNot, kAnd, kOr, kIte, kBi, kCall, kSli, oInt, kNeg, kConv, lA, lH, lAnd, lOr, lArgs, ioTake, putBack, own, hd, isV, getAll, hget_val, hget_slot, T.bind_ok, fz, rd0, rdS, sett0, settS, setG_nm, setGs_nil, setGs_cons, setG_tp, cond_true, cond_false, boolOf, bopsI, op2, two_ii, subW, ltW, leW, gtW, geW, eqR, neR, yes, nay, biW, bi1, bi2, isR, isnotR, isT1, isI1, isB1, isS1, yes, isInst, lenW, List.map_cons, List.map_nil, List.cons_append, List.nil_append, List.replicate_succ, List.replicate_zero, Nat.reduceSub, Bool.not_true, Bool.not_false, ite_true, ite_false, iSeq, seqOf, List.headD_cons, List.tail_cons, guard_tt, bind_as, eqW_ss, e2, io13, e13, idxL, es, eqW_ii]
        by_cases hz : (tr p v).word.length = g.2 + 1 - g.1
        · have ez : eqI (((tr p v).word.length : Nat) : Int) ((g.2 : Int) + 1 - (g.1 : Int)) = true := by rw [eqI_dec]; exact decide_eq_true (by omega)
          simp -implicitDefEqProofs only [exSs, exS, evE, evL, evO, evI, sSeq, sAsg, sExp, sApp, sPut, sRet, sRetv, sIte, sPar, lPar, moveS, kOp, kChain, kIdx, kLst, Ev.kTup, kCon, kVar, kNot, kAnd, kOr, kIte, kBi, kCall, kSli, oInt, kNeg, kConv, lA, lH, lAnd, lOr, lArgs, ioTake, putBack, own, hd, isV, getAll, hget_val, hget_slot, T.bind_ok, fz, rd0, rdS, sett0, settS, setG_nm, setGs_nil, setGs_cons, setG_tp, cond_true, cond_false, boolOf, bopsI, op2, two_ii, subW, ltW, leW, gtW, geW, eqR, neR, yes, nay, biW, bi1, bi2, isR, isnotR, isT1, isI1, isB1, isS1, yes, isInst, lenW, List.map_cons, List.map_nil, List.cons_append, List.nil_append, List.replicate_succ, List.replicate_zero, Nat.reduceSub, Bool.not_true, Bool.not_false, ite_true, ite_false, iSeq, seqOf, List.headD_cons, List.tail_cons, guard_tt, bind_as, ez]
          by_cases ha : c = .any
          · subst ha
            have e3 : eqS Cu.any.s ⟨#[97, 110, 121]⟩ = true := by decide +kernel
            have r : same .any (tr p v) (gT g.1 (g.2 - g.1)) = true := by
              unfold same
              rw [gw]
              exact decide_eq_true ((any_iff _ _ _).mpr ⟨hb, hz⟩)
            simp -implicitDefEqProofs only [exSs, exS, evE, evL, evO, evI, sSeq, sAsg, sExp, sApp, sPut, sRet, sRetv, sIte, sPar, lPar, moveS, kOp, kChain, kIdx, kLst, Ev.kTup, kCon, kVar, kNot, kAnd, kOr, kIte, kBi, kCall, kSli, oInt, kNeg, kConv, lA, lH, lAnd, lOr, lArgs, ioTake, putBack, own, hd, isV, getAll, hget_val, hget_slot, T.bind_ok, fz, rd0, rdS, sett0, settS, setG_nm, setGs_nil, setGs_cons, setG_tp, cond_true, cond_false, boolOf, bopsI, op2, two_ii, subW, ltW, leW, gtW, geW, eqR, neR, yes, nay, biW, bi1, bi2, isR, isnotR, isT1, isI1, isB1, isS1, yes, isInst, lenW, List.map_cons, List.map_nil, List.cons_append, List.nil_append, List.replicate_succ, List.replicate_zero, Nat.reduceSub, Bool.not_true, Bool.not_false, ite_true, ite_false, iSeq, seqOf, List.headD_cons, List.tail_cons, guard_tt, bind_as, eqW_ss, e3, r]
            rfl
          · have e3 : eqS c.s ⟨#[97, 110, 121]⟩ = false := by
              cases c <;> first
                | exact (ha rfl).elim
                | decide +kernel
            have hcg : c = .group := by
              cases c with
              | none => exact (hn rfl).elim
              | group => rfl
              | any => exact (ha rfl).elim
              | once => exact (ho rfl).elim
            subst hcg
            have hc : ((g.2 : Int) + 1 - (g.1 : Int)).toNat = g.2 + 1 - g.1 := by omega
            have hrl : (rngL (g.1 : Int) (g.2 + 1 - g.1)).length ≤ 100000 := by rw [rngL_eq, List.length_map, List.length_range']; omega
            have r : same .group (tr p v) (gT g.1 (g.2 - g.1)) = decide ((tr p v).word = List.range' g.1 (g.2 + 1 - g.1)) := by
              unfold same
              rw [gw]
            simp -implicitDefEqProofs (disch := first | omega | exact hrl) only [exSs, exS, evE, evL, evO, evI, sSeq, sAsg, sExp, sApp, sPut, sRet, sRetv, sIte, sPar, lPar, moveS, kOp, kChain, kIdx, kLst, Ev.kTup, kCon, kVar, kNot, kAnd, kOr, kIte, kBi, kCall, kSli, oInt, kNeg, kConv, lA, lH, lAnd, lOr, lArgs, ioTake, putBack, own, hd, isV, getAll, hget_val, hget_slot, T.bind_ok, fz, rd0, rdS, sett0, settS, setG_nm, setGs_nil, setGs_cons, setG_tp, cond_true, cond_false, boolOf, bopsI, op2, two_ii, subW, ltW, leW, gtW, geW, eqR, neR, yes, nay, biW, bi1, bi2, isR, isnotR, isT1, isI1, isB1, isS1, yes, isInst, lenW, List.map_cons, List.map_nil, List.cons_append, List.nil_append, List.replicate_succ, List.replicate_zero, Nat.reduceSub, Bool.not_true, Bool.not_false, ite_true, ite_false, iSeq, seqOf, List.headD_cons, List.tail_cons, guard_tt, bind_as, eqW_ss, e3, io17, e17, iR2, int2, ff1, ff2, Bool.and_self, hc, guard_sz, rng_w, wT, eqW_w, r]
            generalize decide ((tr p v).word = List.range' g.1 (g.2 + 1 - g.1)) = bb
            cases bb <;> rfl
        · have ez : eqI (((tr p v).word.length : Nat) : Int) ((g.2 : Int) + 1 - (g.1 : Int)) = false := by rw [eqI_dec]; exact decide_eq_false (by omega)
          have r : same c (tr p v) (gT g.1 (g.2 - g.1)) = false := by
            cases c with
            | none => exact (hn rfl).elim
            | once => exact (ho rfl).elim
            | group =>
              unfold same
              rw [gw]
              exact decide_eq_false fun z => hz (by rw [z, List.length_range'])
            | any =>
              unfold same
              rw [gw]
              exact decide_eq_false fun z => hz ((any_iff _ _ _).mp z).2
          simp -implicitDefEqProofs only [exSs, exS, evE, evL, evO, evI, sSeq, sAsg, sExp, sApp, sPut, sRet, sRetv, sIte, sPar, lPar, moveS, kOp, kChain, kIdx, kLst, Ev.kTup, kCon, kVar, kNot, kAnd, kOr, kIte, kBi, kCall, kSli, oInt, kNeg, kConv, lA, lH, lAnd, lOr, lArgs, ioTake, putBack, own, hd, isV, getAll, hget_val, hget_slot, T.bind_ok, fz, rd0, rdS, sett0, settS, setG_nm, setGs_nil, setGs_cons, setG_tp, cond_true, cond_false, boolOf, bopsI, op2, two_ii, subW, ltW, leW, gtW, geW, eqR, neR, yes, nay, biW, bi1, bi2, isR, isnotR, isT1, isI1, isB1, isS1, yes, isInst, lenW, List.map_cons, List.map_nil, List.cons_append, List.nil_append, List.replicate_succ, List.replicate_zero, Nat.reduceSub, Bool.not_true, Bool.not_false, ite_true, ite_false, iSeq, seqOf, List.headD_cons, List.tail_cons, guard_tt, bind_as, ez, r]
          rfl
    · have eb : eqI ((bitsOf (tr p v).word : Nat) : Int) ((bitsOf (List.range' g.1 (g.2 + 1 - g.1)) : Nat) : Int) = false := by rw [eqI_dec]; exact decide_eq_false fun z => hb (by omega)
      have r : same c (tr p v) (gT g.1 (g.2 - g.1)) = false := by
        cases c with
        | none => exact (hn rfl).elim
        | once =>
          unfold same
          rw [gw]
          exact decide_eq_false fun z => hb ((once_iff _ _).mp z)
        | group =>
          unfold same
          rw [gw]
          exact decide_eq_false fun z => hb (by rw [z])
        | any =>
          unfold same
          rw [gw]
          exact decide_eq_false fun z => hb ((any_iff _ _ _).mp z).1
      simp -implicitDefEqProofs only [exSs, exS, evE, evL, evO, evI, sSeq, sAsg, sExp, sApp, sPut, sRet, sRetv, sIte, sPar, lPar, moveS, kOp, kChain, kIdx, kLst, Ev.kTup, kCon, kVar, kNot, kAnd, kOr, kIte, kBi, kCall, kSli, oInt, kNeg, kConv, lA, lH, lAnd, lOr, lArgs, ioTake, putBack, own, hd, isV, getAll, hget_val, hget_slot, T.bind_ok, fz, rd0, rdS, sett0, settS, setG_nm, setGs_nil, setGs_cons, setG_tp, cond_true, cond_false, boolOf, bopsI, op2, two_ii, subW, ltW, leW, gtW, geW, eqR, neR, yes, nay, biW, bi1, bi2, isR, isnotR, isT1, isI1, isB1, isS1, yes, isInst, lenW, List.map_cons, List.map_nil, List.cons_append, List.nil_append, List.replicate_succ, List.replicate_zero, Nat.reduceSub, Bool.not_true, Bool.not_false, ite_true, ite_false, iSeq, seqOf, List.headD_cons, List.tail_cons, guard_tt, bind_as, eb, r]
      rfl
end Ov
end
end
section
set_option Elab.async false
set_option linter.all false
set_option maxRecDepth 100000
set_option maxHeartbeats 1000000
noncomputable section
namespace Ov
open PySem L2 Ev
set_option autoImplicit false
def gl (g : Nat × Nat) : Tr := gT g.1 (g.2 - g.1)
def fwAt (c : Cu) (p : Pn) : Nat → List Nat → List (Nat × Nat) → Option Nat
  | k, v :: vs, g :: gs => if same c (tr p v) (gl g) = true then fwAt c p (k + 1) vs gs else some k
  | _, _, _ => none
def fwW (c : Cu) (p : Pn) (gs : List (Nat × Nat)) : W := match fwAt c p 0 p.outs gs with
  | some k => .int k
  | none => if p.outs.length = gs.length then .non else .int ((min p.outs.length gs.length : Nat) : Int)
def Good (p : Pn) (g : Nat × Nat) : Prop := g.1 ≤ g.2 ∧ g.2 < p.many
theorem fw_loop {c : Cu} {p : Pn} {α : Type} {S : α → Sl} {turn : W → Sl → T Fl} {K : Fl → T (R × List W)} {E : W}
    (t1 : ∀ (k v : Nat) g a, v < p.many + p.ds.length → Good p g → same c (tr p v) (gl g) = false → ∃ sl, turn (.tup [.int (k : Int), .tup [iW v, pW g]]) (S a) = .ok (.ret (.int (k : Int), false) sl) ∧ K (.ret (.int (k : Int), false) sl) = .ok ((.int (k : Int), false), []))
    (t2 : ∀ (k v : Nat) g a, v < p.many + p.ds.length → Good p g → same c (tr p v) (gl g) = true → ∃ a', turn (.tup [.int (k : Int), .tup [iW v, pW g]]) (S a) = .ok (.nx (S a')))
    (tk : ∀ a, K (.nx (S a)) = .ok ((E, false), [])) :
    ∀ (vs : List Nat) (gs : List (Nat × Nat)) (k : Nat) (a : α), (∀ v ∈ vs, v < p.many + p.ds.length) → (∀ g ∈ gs, Good p g) →
      (forGo turn (enumL k (zipL (vs.map iW) (gs.map pW))) (S a)).bind K = .ok ((match fwAt c p k vs gs with | some i => .int (i : Int) | none => E, false), [])
  | [], gs, k, a, _, _ => by
    rw [List.map_nil, zipL, enumL]
    · show K (.nx (S a)) = _
      rw [tk]
      rfl
    · intro _ _ _ _ z _
      cases z
  | v :: vs, [], k, a, _, _ => by
    rw [List.map_nil, zipL, enumL]
    · show K (.nx (S a)) = _
      rw [tk]
      rfl
    · intro _ _ _ _ _ z
      cases z
  | v :: vs, g :: gs, k, a, hv, hg => by
    have hv0 := hv v (List.mem_cons_self ..)
    have hg0 := hg g (List.mem_cons_self ..)
    rw [List.map_cons, List.map_cons, zipL, enumL, forGo]
    cases hs : same c (tr p v) (gl g) with
    | false =>
      obtain ⟨sl, e1, e2⟩ := t1 k v g a hv0 hg0 hs
      rw [e1]
      show K (.ret (.int (k : Int), false) sl) = _
      rw [e2, fwAt, hs]
      rfl
    | true =>
      obtain ⟨a', e1⟩ := t2 k v g a hv0 hg0 hs
      rw [e1]
      show (forGo turn (enumL (k + 1) (zipL (vs.map iW) (gs.map pW))) (S a')).bind K = _
      rw [fw_loop t1 t2 tk vs gs (k + 1) a' (fun v h => hv v (List.mem_cons_of_mem _ h)) (fun g h => hg g (List.mem_cons_of_mem _ h)), fwAt, hs, if_pos rfl]
/-! ### customs -/
def hab (r : Cu × Bool) : W := .tup [.str r.1.s, .bl r.2]
def cuW (r0 r1 r2 : Cu × Bool) : W := .tup [hab r0, hab r1, hab r2]
theorem habit_ok (r : Cu × Bool) (n : Nat) : callN fks cn (n + 2) 2 [(hab r, false)] = .ok ((.bl true, false), []) := by
  obtain ⟨c, b⟩ := r
  cases c <;> cases b <;> kernel_rfl
theorem tup3_ok (a b c : W) (n : Nat) : callN fks cn (n + 1) 0 [(.tup [a, b, c], false), (.int 3, false)] = .ok ((.bl true, false), []) := by kernel_rfl
theorem io0 : ioOf fks 0 = [false, false] := rfl
theorem io1 : ioOf fks 1 = [false] := rfl
theorem io2 : ioOf fks 2 = [false] := rfl
theorem io3 : ioOf fks 3 = [false] := rfl
theorem io4 : ioOf fks 4 = [false, false] := rfl
theorem io5 : ioOf fks 5 = [false, false] := rfl
theorem io6 : ioOf fks 6 = [false, false] := rfl
theorem customs_ok (r0 r1 r2 : Cu × Bool) (n : Nat) : callN fks cn (n + 3) 3 [(cuW r0 r1 r2, false)] = .ok ((cuW r0 r1 r2, false), []) := by
  have e0 := tup3_ok (hab r0) (hab r1) (hab r2) (n + 1)
  have e1 := habit_ok r0 n
  have e2 := habit_ok r1 n
  have e3 := habit_ok r2 n
  rw [callN_code rfl rfl]
  simp -implicitDefEqProofs only [cuW, exSs, exS, evE, evL, evO, evI, sSeq, sAsg, sExp, sApp, sPut, sRet, sRetv, sIte, sPar, lPar, moveS, kOp, kChain, kIdx, kLst, Ev.kTup, kCon, kVar, kNot, kAnd, kOr, kIte, kBi, kCall, kSli, oInt, kNeg, kConv, lA, lH, lAnd, lOr, lArgs, ioTake, putBack, own, hd, isV, getAll, hget_val, hget_slot, T.bind_ok, fz, rd0, rdS, sett0, settS, setG_nm, setGs_nil, setGs_cons, setG_tp, cond_true, cond_false, boolOf, bopsI, op2, two_ii, subW, ltW, leW, gtW, geW, eqR, neR, yes, nay, biW, bi1, bi2, isR, isnotR, isT1, isI1, isB1, isS1, yes, isInst, lenW, List.map_cons, List.map_nil, List.cons_append, List.nil_append, List.replicate_succ, List.replicate_zero, Nat.reduceSub, Bool.not_true, Bool.not_false, ite_true, ite_false, iSeq, seqOf, List.headD_cons, List.tail_cons, guard_tt, bind_as, io0, e0]
  rw [sFor]
  simp -implicitDefEqProofs only [exSs, exS, evE, evL, evO, evI, sSeq, sAsg, sExp, sApp, sPut, sRet, sRetv, sIte, sPar, lPar, moveS, kOp, kChain, kIdx, kLst, Ev.kTup, kCon, kVar, kNot, kAnd, kOr, kIte, kBi, kCall, kSli, oInt, kNeg, kConv, lA, lH, lAnd, lOr, lArgs, ioTake, putBack, own, hd, isV, getAll, hget_val, hget_slot, T.bind_ok, fz, rd0, rdS, sett0, settS, setG_nm, setGs_nil, setGs_cons, setG_tp, cond_true, cond_false, boolOf, bopsI, op2, two_ii, subW, ltW, leW, gtW, geW, eqR, neR, yes, nay, biW, bi1, bi2, isR, isnotR, isT1, isI1, isB1, isS1, yes, isInst, lenW, List.map_cons, List.map_nil, List.cons_append, List.nil_append, List.replicate_succ, List.replicate_zero, Nat.reduceSub, Bool.not_true, Bool.not_false, ite_true, ite_false, iSeq, seqOf, List.headD_cons, List.tail_cons, guard_tt, bind_as, Ev.iEnum, enOf, enumL, forGo, sTurn, io2, e1, e2, e3]
  rfl
theorem isname_ok (n : Nat) : callN fks cn (n + 1) 1 [(.str ⟨#[103]⟩, false)] = .ok ((.bl true, false), []) := by kernel_rfl
theorem habit_in_ok (r0 r1 r2 : Cu × Bool) (n : Nat) : callN fks cn (n + 1) 4 [(cuW r0 r1 r2, false), (.str ⟨#[103]⟩, false)] = .ok ((hab r1, false), []) := by kernel_rfl
theorem need_habit_ok (r0 r1 r2 : Cu × Bool) (n : Nat) : callN fks cn (n + 4) 5 [(cuW r0 r1 r2, false), (.str ⟨#[103]⟩, false)] = .ok ((hab r1, false), []) := by
  have e1 := customs_ok r0 r1 r2 n
  have e2 := isname_ok (n + 2)
  have e3 := habit_in_ok r0 r1 r2 (n + 2)
  rw [callN_code rfl rfl]
  simp -implicitDefEqProofs only [exSs, exS, evE, evL, evO, evI, sSeq, sAsg, sExp, sApp, sPut, sRet, sRetv, sIte, sPar, lPar, moveS, kOp, kChain, kIdx, kLst, Ev.kTup, kCon, kVar, kNot, kAnd, kOr, kIte, kBi, kCall, kSli, oInt, kNeg, kConv, lA, lH, lAnd, lOr, lArgs, ioTake, putBack, own, hd, isV, getAll, hget_val, hget_slot, T.bind_ok, fz, rd0, rdS, sett0, settS, setG_nm, setGs_nil, setGs_cons, setG_tp, cond_true, cond_false, boolOf, bopsI, op2, two_ii, subW, ltW, leW, gtW, geW, eqR, neR, yes, nay, biW, bi1, bi2, isR, isnotR, isT1, isI1, isB1, isS1, yes, isInst, lenW, List.map_cons, List.map_nil, List.cons_append, List.nil_append, List.replicate_succ, List.replicate_zero, Nat.reduceSub, Bool.not_true, Bool.not_false, ite_true, ite_false, iSeq, seqOf, List.headD_cons, List.tail_cons, guard_tt, bind_as, io3, io1, io4, e1, e2, e3]
  rfl
theorem custom_of_ok (r0 r1 r2 : Cu × Bool) (n : Nat) : callN fks cn (n + 5) 6 [(cuW r0 r1 r2, false), (.str ⟨#[103]⟩, false)] = .ok ((.str r1.1.s, false), []) := by
  have e1 := need_habit_ok r0 r1 r2 n
  rw [callN_code rfl rfl]
  simp -implicitDefEqProofs only [exSs, exS, evE, evL, evO, evI, sSeq, sAsg, sExp, sApp, sPut, sRet, sRetv, sIte, sPar, lPar, moveS, kOp, kChain, kIdx, kLst, Ev.kTup, kCon, kVar, kNot, kAnd, kOr, kIte, kBi, kCall, kSli, oInt, kNeg, kConv, lA, lH, lAnd, lOr, lArgs, ioTake, putBack, own, hd, isV, getAll, hget_val, hget_slot, T.bind_ok, fz, rd0, rdS, sett0, settS, setG_nm, setGs_nil, setGs_cons, setG_tp, cond_true, cond_false, boolOf, bopsI, op2, two_ii, subW, ltW, leW, gtW, geW, eqR, neR, yes, nay, biW, bi1, bi2, isR, isnotR, isT1, isI1, isB1, isS1, yes, isInst, lenW, List.map_cons, List.map_nil, List.cons_append, List.nil_append, List.replicate_succ, List.replicate_zero, Nat.reduceSub, Bool.not_true, Bool.not_false, ite_true, ite_false, iSeq, seqOf, List.headD_cons, List.tail_cons, guard_tt, bind_as, io5, e1, hab, tup2_0]
  rfl
theorem min_nat (a b : Nat) : minW (.int a) (.int b) = .ok (.int ((min a b : Nat) : Int), false) := by
  show fz (.int (if (b : Int) < (a : Int) then (b : Int) else (a : Int))) = _
  by_cases h : b < a
  · rw [if_pos (by omega), Nat.min_eq_right (by omega)]; rfl
  · rw [if_neg (by omega), Nat.min_eq_left (by omega)]; rfl
theorem eqI_len (a b : Nat) : eqI (a : Int) (b : Int) = decide (a = b) := by
  rw [eqI_dec]
  exact decide_eq_decide.mpr (by omega)
theorem first_wrong_goal_ok {p : Pn} (h : p.Ok) (hs : p.Sm) (r0 r1 r2 : Cu × Bool) {gs : List (Nat × Nat)} (hl : gs.length ≤ 60) (hg : ∀ g ∈ gs, Good p g) (n : Nat) :
    callN fks cn (n + 6) 23 [(cuW r0 r1 r2, false), (.str ⟨#[103]⟩, false), (plW p, false), (glW gs, false)] = .ok ((fwW r1.1 p gs, false), []) := by
  have e3 := customs_ok r0 r1 r2 (n + 2)
  have e6 := custom_of_ok r0 r1 r2 n
  have e9 := plan_ok h (n + 2)
  have e11 := goals_ok (m := p.many) h.m1 (Nat.le_trans h.m2 (by decide)) hl hg (n + 2)
  rw [callN_code rfl rfl]
  simp -implicitDefEqProofs only [exSs, exS, evE, evL, evO, evI, sSeq, sAsg, sExp, sApp, sPut, sRet, sRetv, sIte, sPar, lPar, moveS, kOp, kChain, kIdx, kLst, Ev.kTup, kCon, kVar, kNot, kAnd, kOr, kIte, kBi, kCall, kSli, oInt, kNeg, kConv, lA, lH, lAnd, lOr, lArgs, ioTake, putBack, own, hd, isV, getAll, hget_val, hget_slot, T.bind_ok, fz, rd0, rdS, sett0, settS, setG_nm, setGs_nil, setGs_cons, setG_tp, cond_true, cond_false, boolOf, bopsI, op2, two_ii, subW, ltW, leW, gtW, geW, eqR, neR, yes, nay, biW, bi1, bi2, isR, isnotR, isT1, isI1, isB1, isS1, yes, isInst, lenW, List.map_cons, List.map_nil, List.cons_append, List.nil_append, List.replicate_succ, List.replicate_zero, Nat.reduceSub, Bool.not_true, Bool.not_false, ite_true, ite_false, iSeq, seqOf, List.headD_cons, List.tail_cons, guard_tt, bind_as, io3, io6, io9, io11, e3, e6, e9, pl0, iW_eq, e11]
  rw [sFor]
  simp -implicitDefEqProofs only [exSs, exS, evE, evL, evO, evI, sSeq, sAsg, sExp, sApp, sPut, sRet, sRetv, sIte, sPar, lPar, moveS, kOp, kChain, kIdx, kLst, Ev.kTup, kCon, kVar, kNot, kAnd, kOr, kIte, kBi, kCall, kSli, oInt, kNeg, kConv, lA, lH, lAnd, lOr, lArgs, ioTake, putBack, own, hd, isV, getAll, hget_val, hget_slot, T.bind_ok, fz, rd0, rdS, sett0, settS, setG_nm, setGs_nil, setGs_cons, setG_tp, cond_true, cond_false, boolOf, bopsI, op2, two_ii, subW, ltW, leW, gtW, geW, eqR, neR, yes, nay, biW, bi1, bi2, isR, isnotR, isT1, isI1, isB1, isS1, yes, isInst, lenW, List.map_cons, List.map_nil, List.cons_append, List.nil_append, List.replicate_succ, List.replicate_zero, Nat.reduceSub, Bool.not_true, Bool.not_false, ite_true, ite_false, iSeq, seqOf, List.headD_cons, List.tail_cons, guard_tt, bind_as, Ev.iEnumZip, pl2, glW, zipTT]
  refine (fw_loop (c := r1.1) (p := p) (E := if p.outs.length = gs.length then .non else .int ((min p.outs.length gs.length : Nat) : Int))
    (S := fun (a : Option R × Option R × Option R) => [some (cuW r0 r1 r2, false), some (.str ⟨#[103]⟩, false), some (plW p, false), some (.tup (gs.map pW), false), some (.str r1.1.s, false), a.1, a.2.1, a.2.2]) ?_ ?_ ?_ p.outs gs 0 (none, none, none) h.ou hg).trans ?_
  · intro k v g a hv hg hs0
    have e22 := does_make_ok h hs r1.1 hv hg.1 hg.2 (n + 2)
    rw [show same r1.1 (tr p v) (gT g.1 (g.2 - g.1)) = false from hs0] at e22
    refine ⟨[some (cuW r0 r1 r2, false), some (.str ⟨#[103]⟩, false), some (plW p, false), some (.tup (gs.map pW), false), some (.str r1.1.s, false), none, some (.int v, false), some (pW g, false)], ?_, rfl⟩
    simp -implicitDefEqProofs only [sTurn, exSs, exS, evE, evL, evO, evI, sSeq, sAsg, sExp, sApp, sPut, sRet, sRetv, sIte, sPar, lPar, moveS, kOp, kChain, kIdx, kLst, Ev.kTup, kCon, kVar, kNot, kAnd, kOr, kIte, kBi, kCall, kSli, oInt, kNeg, kConv, lA, lH, lAnd, lOr, lArgs, ioTake, putBack, own, hd, isV, getAll, hget_val, hget_slot, T.bind_ok, fz, rd0, rdS, sett0, settS, setG_nm, setGs_nil, setGs_cons, setG_tp, cond_true, cond_false, boolOf, bopsI, op2, two_ii, subW, ltW, leW, gtW, geW, eqR, neR, yes, nay, biW, bi1, bi2, isR, isnotR, isT1, isI1, isB1, isS1, yes, isInst, lenW, List.map_cons, List.map_nil, List.cons_append, List.nil_append, List.replicate_succ, List.replicate_zero, Nat.reduceSub, Bool.not_true, Bool.not_false, ite_true, ite_false, iSeq, seqOf, List.headD_cons, List.tail_cons, guard_tt, bind_as, io22, iW_eq, e22]
  · intro k v g a hv hg hs0
    have e22 := does_make_ok h hs r1.1 hv hg.1 hg.2 (n + 2)
    rw [show same r1.1 (tr p v) (gT g.1 (g.2 - g.1)) = true from hs0] at e22
    refine ⟨(some (.int k, false), some (.int v, false), some (pW g, false)), ?_⟩
    simp -implicitDefEqProofs only [sTurn, exSs, exS, evE, evL, evO, evI, sSeq, sAsg, sExp, sApp, sPut, sRet, sRetv, sIte, sPar, lPar, moveS, kOp, kChain, kIdx, kLst, Ev.kTup, kCon, kVar, kNot, kAnd, kOr, kIte, kBi, kCall, kSli, oInt, kNeg, kConv, lA, lH, lAnd, lOr, lArgs, ioTake, putBack, own, hd, isV, getAll, hget_val, hget_slot, T.bind_ok, fz, rd0, rdS, sett0, settS, setG_nm, setGs_nil, setGs_cons, setG_tp, cond_true, cond_false, boolOf, bopsI, op2, two_ii, subW, ltW, leW, gtW, geW, eqR, neR, yes, nay, biW, bi1, bi2, isR, isnotR, isT1, isI1, isB1, isS1, yes, isInst, lenW, List.map_cons, List.map_nil, List.cons_append, List.nil_append, List.replicate_succ, List.replicate_zero, Nat.reduceSub, Bool.not_true, Bool.not_false, ite_true, ite_false, iSeq, seqOf, List.headD_cons, List.tail_cons, guard_tt, bind_as, io22, iW_eq, e22]
  · intro a
    simp -implicitDefEqProofs only [exSs, exS, evE, evL, evO, evI, sSeq, sAsg, sExp, sApp, sPut, sRet, sRetv, sIte, sPar, lPar, moveS, kOp, kChain, kIdx, kLst, Ev.kTup, kCon, kVar, kNot, kAnd, kOr, kIte, kBi, kCall, kSli, oInt, kNeg, kConv, lA, lH, lAnd, lOr, lArgs, ioTake, putBack, own, hd, isV, getAll, hget_val, hget_slot, T.bind_ok, fz, rd0, rdS, sett0, settS, setG_nm, setGs_nil, setGs_cons, setG_tp, cond_true, cond_false, boolOf, bopsI, op2, two_ii, subW, ltW, leW, gtW, geW, eqR, neR, yes, nay, biW, bi1, bi2, isR, isnotR, isT1, isI1, isB1, isS1, yes, isInst, lenW, List.map_cons, List.map_nil, List.cons_append, List.nil_append, List.replicate_succ, List.replicate_zero, Nat.reduceSub, Bool.not_true, Bool.not_false, ite_true, ite_false, iSeq, seqOf, List.headD_cons, List.tail_cons, guard_tt, bind_as, pl2, List.length_map, eqW_ii, eqI_len, min_nat]
    by_cases q : p.outs.length = gs.length
    · rw [if_pos q, decide_eq_true q]
      rfl
    · rw [if_neg q, decide_eq_false q]
      rfl
  · unfold fwW
    rfl
theorem io23 : ioOf fks 23 = [false, false, false, false] := rfl
def isN (w : W) : Bool := match w with
  | .non => true
  | _ => false
theorem fw_is (c : Cu) (p : Pn) (gs : List (Nat × Nat)) : isW (fwW c p gs) .non = .ok (isN (fwW c p gs)) := by
  show T.ok (isNon (fwW c p gs)) = _
  congr 1
theorem right_plan_ok {p : Pn} (h : p.Ok) (hs : p.Sm) (r0 r1 r2 : Cu × Bool) {gs : List (Nat × Nat)} (hl : gs.length ≤ 60) (hg : ∀ g ∈ gs, Good p g) (n : Nat) :
    callN fks cn (n + 7) 24 [(cuW r0 r1 r2, false), (.str ⟨#[103]⟩, false), (plW p, false), (glW gs, false)] = .ok ((.bl (isN (fwW r1.1 p gs)), false), []) := by
  have e1 := first_wrong_goal_ok h hs r0 r1 r2 hl hg n
  rw [callN_code rfl rfl]
  simp -implicitDefEqProofs only [exSs, exS, evE, evL, evO, evI, sSeq, sAsg, sExp, sApp, sPut, sRet, sRetv, sIte, sPar, lPar, moveS, kOp, kChain, kIdx, kLst, Ev.kTup, kCon, kVar, kNot, kAnd, kOr, kIte, kBi, kCall, kSli, oInt, kNeg, kConv, lA, lH, lAnd, lOr, lArgs, ioTake, putBack, own, hd, isV, getAll, hget_val, hget_slot, T.bind_ok, fz, rd0, rdS, sett0, settS, setG_nm, setGs_nil, setGs_cons, setG_tp, cond_true, cond_false, boolOf, bopsI, op2, two_ii, subW, ltW, leW, gtW, geW, eqR, neR, yes, nay, biW, bi1, bi2, isR, isnotR, isT1, isI1, isB1, isS1, yes, isInst, lenW, List.map_cons, List.map_nil, List.cons_append, List.nil_append, List.replicate_succ, List.replicate_zero, Nat.reduceSub, Bool.not_true, Bool.not_false, ite_true, ite_false, iSeq, seqOf, List.headD_cons, List.tail_cons, guard_tt, bind_as, io23, e1, fw_is]
  rfl
theorem io34 : ioOf fks 34 = [false] := rfl
theorem io36 : ioOf fks 36 = [false, false, false] := rfl
theorem io37 : ioOf fks 37 = [false] := rfl
theorem io38 : ioOf fks 38 = [false, false, false] := rfl
theorem tr_at {p : Pn} {v : Nat} (hv : v < p.many + p.ds.length) : seqAt ((trs p).map Tr.toW) (v : Int) = .ok (tr p v).toW := at_grow (by rw [List.length_map, List.length_range]; exact hv)
theorem gl_facts {p : Pn} (h : p.Ok) {g : Nat × Nat} (hg : Good p g) : (gl g).ht ≤ 64 ∧ (gl g).dep ≤ 70 ∧ (gl g).word.length ≤ 5000 := by
  have m2 := h.m2
  have aux : ∀ n f, (gT f n).ht = n ∧ (gT f n).dep = n + 1 := fun n => by
    induction n with
    | zero => intro f; exact ⟨rfl, rfl⟩
    | succ n ih =>
      intro f
      obtain ⟨a, b⟩ := ih (f + 1)
      refine ⟨?_, ?_⟩
      · show max 0 (gT (f + 1) n).ht + 1 = n + 1
        omega
      · show max 1 (gT (f + 1) n).dep + 1 = n + 1 + 1
        omega
  obtain ⟨a, b⟩ := aux (g.2 - g.1) g.1
  have := hg.2
  refine ⟨by unfold gl; omega, by unfold gl; omega, ?_⟩
  unfold gl
  rw [gT_word, List.length_range']
  omega
theorem law_first_wrong_ok {p : Pn} (h : p.Ok) (hs : p.Sm) (c : Cu) {gs : List (Nat × Nat)} (hg : ∀ g ∈ gs, Good p g) (n : Nat) :
    callN fks cn (n + 75) 38 [(.str c.s, false), (plW p, false), (glW gs, false)] = .ok ((fwW c p gs, false), []) := by
  have m2 := h.m2
  have dl := h.dl
  have e34 := law_trees_ok h (n + 73)
  rw [callN_code rfl rfl]
  simp -implicitDefEqProofs only [exSs, exS, evE, evL, evO, evI, sSeq, sAsg, sExp, sApp, sPut, sRet, sRetv, sIte, sPar, lPar, moveS, kOp, kChain, kIdx, kLst, Ev.kTup, kCon, kVar, kNot, kAnd, kOr, kIte, kBi, kCall, kSli, oInt, kNeg, kConv, lA, lH, lAnd, lOr, lArgs, ioTake, putBack, own, hd, isV, getAll, hget_val, hget_slot, T.bind_ok, fz, rd0, rdS, sett0, settS, setG_nm, setGs_nil, setGs_cons, setG_tp, cond_true, cond_false, boolOf, bopsI, op2, two_ii, subW, ltW, leW, gtW, geW, eqR, neR, yes, nay, biW, bi1, bi2, isR, isnotR, isT1, isI1, isB1, isS1, yes, isInst, lenW, List.map_cons, List.map_nil, List.cons_append, List.nil_append, List.replicate_succ, List.replicate_zero, Nat.reduceSub, Bool.not_true, Bool.not_false, ite_true, ite_false, iSeq, seqOf, List.headD_cons, List.tail_cons, guard_tt, bind_as, io34, e34]
  rw [sFor]
  simp -implicitDefEqProofs only [exSs, exS, evE, evL, evO, evI, sSeq, sAsg, sExp, sApp, sPut, sRet, sRetv, sIte, sPar, lPar, moveS, kOp, kChain, kIdx, kLst, Ev.kTup, kCon, kVar, kNot, kAnd, kOr, kIte, kBi, kCall, kSli, oInt, kNeg, kConv, lA, lH, lAnd, lOr, lArgs, ioTake, putBack, own, hd, isV, getAll, hget_val, hget_slot, T.bind_ok, fz, rd0, rdS, sett0, settS, setG_nm, setGs_nil, setGs_cons, setG_tp, cond_true, cond_false, boolOf, bopsI, op2, two_ii, subW, ltW, leW, gtW, geW, eqR, neR, yes, nay, biW, bi1, bi2, isR, isnotR, isT1, isI1, isB1, isS1, yes, isInst, lenW, List.map_cons, List.map_nil, List.cons_append, List.nil_append, List.replicate_succ, List.replicate_zero, Nat.reduceSub, Bool.not_true, Bool.not_false, ite_true, ite_false, iSeq, seqOf, List.headD_cons, List.tail_cons, guard_tt, bind_as, Ev.iEnumZip, pl2, glW, zipTT]
  have facts : ∀ v, v < p.many + p.ds.length → callN fks cn (n + 74) 35 [((tr p v).toW, false)] = .ok ((wT (tr p v), false), []) ∧ callN fks cn (n + 74) 36 [(.str c.s, false), (wT (tr p v), false), ((tr p v).toW, false)] = .ok ((freeW c (tr p v), false), []) ∧ (tr p v).ht ≤ 64 := fun v hv => by
    obtain ⟨a, b⟩ := ht_tr h v hv
    have sz := hs v hv
    rw [sizes_tr h hv] at sz
    exact ⟨law_word_ok _ _ (by omega) (by omega), free_ok c _ (by omega) (n + 73), by omega⟩
  have gfacts : ∀ g, Good p g → callN fks cn (n + 74) 37 [(pW g, false)] = .ok (((gl g).toW, false), []) ∧ callN fks cn (n + 74) 35 [((gl g).toW, false)] = .ok ((wT (gl g), false), []) ∧ callN fks cn (n + 74) 36 [(.str c.s, false), (wT (gl g), false), ((gl g).toW, false)] = .ok ((freeW c (gl g), false), []) ∧ (gl g).ht ≤ 64 := fun g hg => by
    obtain ⟨a, b, d⟩ := gl_facts h hg
    exact ⟨goal_tree_ok hg.1 (by have := hg.2; omega) (n + 73), law_word_ok _ _ (by omega) d, free_ok c _ d (n + 73), a⟩
  refine (fw_loop (c := c) (p := p) (E := if p.outs.length = gs.length then .non else .int ((min p.outs.length gs.length : Nat) : Int))
    (S := fun (a : Option R × Option R × Option R × Option R × Option R) => [some (.str c.s, false), some (plW p, false), some (.tup (gs.map pW), false), some (.lst ((trs p).map Tr.toW), true), a.1, a.2.1, a.2.2.1, a.2.2.2.1, a.2.2.2.2]) ?_ ?_ ?_ p.outs gs 0 (none, none, none, none, none) h.ou hg).trans ?_
  · intro k v g a hv hg hs0
    obtain ⟨f1, f2, f3⟩ := facts v hv
    obtain ⟨g1, g2, g3, g4⟩ := gfacts g hg
    have ee := free_eq c f3 g4
    rw [hs0] at ee
    refine ⟨[some (.str c.s, false), some (plW p, false), some (.tup (gs.map pW), false), some (.lst ((trs p).map Tr.toW), true), none, some (.int v, false), some (pW g, false), some ((gl g).toW, false), some (freeW c (tr p v), false)], ?_, rfl⟩
    simp -implicitDefEqProofs only [sTurn, exSs, exS, evE, evL, evO, evI, sSeq, sAsg, sExp, sApp, sPut, sRet, sRetv, sIte, sPar, lPar, moveS, kOp, kChain, kIdx, kLst, Ev.kTup, kCon, kVar, kNot, kAnd, kOr, kIte, kBi, kCall, kSli, oInt, kNeg, kConv, lA, lH, lAnd, lOr, lArgs, ioTake, putBack, own, hd, isV, getAll, hget_val, hget_slot, T.bind_ok, fz, rd0, rdS, sett0, settS, setG_nm, setGs_nil, setGs_cons, setG_tp, cond_true, cond_false, boolOf, bopsI, op2, two_ii, subW, ltW, leW, gtW, geW, eqR, neR, yes, nay, biW, bi1, bi2, isR, isnotR, isT1, isI1, isB1, isS1, yes, isInst, lenW, List.map_cons, List.map_nil, List.cons_append, List.nil_append, List.replicate_succ, List.replicate_zero, Nat.reduceSub, Bool.not_true, Bool.not_false, ite_true, ite_false, iSeq, seqOf, List.headD_cons, List.tail_cons, guard_tt, bind_as, io35, io36, io37, iW_eq, idxL, tr_at hv, f1, f2, g1, g2, g3, ee]
  · intro k v g a hv hg hs0
    obtain ⟨f1, f2, f3⟩ := facts v hv
    obtain ⟨g1, g2, g3, g4⟩ := gfacts g hg
    have ee := free_eq c f3 g4
    rw [hs0] at ee
    refine ⟨(some (.int k, false), some (.int v, false), some (pW g, false), some ((gl g).toW, false), some (freeW c (tr p v), false)), ?_⟩
    simp -implicitDefEqProofs only [sTurn, exSs, exS, evE, evL, evO, evI, sSeq, sAsg, sExp, sApp, sPut, sRet, sRetv, sIte, sPar, lPar, moveS, kOp, kChain, kIdx, kLst, Ev.kTup, kCon, kVar, kNot, kAnd, kOr, kIte, kBi, kCall, kSli, oInt, kNeg, kConv, lA, lH, lAnd, lOr, lArgs, ioTake, putBack, own, hd, isV, getAll, hget_val, hget_slot, T.bind_ok, fz, rd0, rdS, sett0, settS, setG_nm, setGs_nil, setGs_cons, setG_tp, cond_true, cond_false, boolOf, bopsI, op2, two_ii, subW, ltW, leW, gtW, geW, eqR, neR, yes, nay, biW, bi1, bi2, isR, isnotR, isT1, isI1, isB1, isS1, yes, isInst, lenW, List.map_cons, List.map_nil, List.cons_append, List.nil_append, List.replicate_succ, List.replicate_zero, Nat.reduceSub, Bool.not_true, Bool.not_false, ite_true, ite_false, iSeq, seqOf, List.headD_cons, List.tail_cons, guard_tt, bind_as, io35, io36, io37, iW_eq, idxL, tr_at hv, f1, f2, g1, g2, g3, ee]
  · intro a
    simp -implicitDefEqProofs only [exSs, exS, evE, evL, evO, evI, sSeq, sAsg, sExp, sApp, sPut, sRet, sRetv, sIte, sPar, lPar, moveS, kOp, kChain, kIdx, kLst, Ev.kTup, kCon, kVar, kNot, kAnd, kOr, kIte, kBi, kCall, kSli, oInt, kNeg, kConv, lA, lH, lAnd, lOr, lArgs, ioTake, putBack, own, hd, isV, getAll, hget_val, hget_slot, T.bind_ok, fz, rd0, rdS, sett0, settS, setG_nm, setGs_nil, setGs_cons, setG_tp, cond_true, cond_false, boolOf, bopsI, op2, two_ii, subW, ltW, leW, gtW, geW, eqR, neR, yes, nay, biW, bi1, bi2, isR, isnotR, isT1, isI1, isB1, isS1, yes, isInst, lenW, List.map_cons, List.map_nil, List.cons_append, List.nil_append, List.replicate_succ, List.replicate_zero, Nat.reduceSub, Bool.not_true, Bool.not_false, ite_true, ite_false, iSeq, seqOf, List.headD_cons, List.tail_cons, guard_tt, bind_as, pl2, List.length_map, eqW_ii, eqI_len, min_nat]
    by_cases q : p.outs.length = gs.length
    · rw [if_pos q, decide_eq_true q]
      rfl
    · rw [if_neg q, decide_eq_false q]
      rfl
  · unfold fwW
    rfl
end Ov
end
end
section
set_option Elab.async false
set_option linter.all false
set_option maxRecDepth 100000
set_option maxHeartbeats 1000000
noncomputable section
namespace Ov
open PySem L2 Ev
set_option autoImplicit false
/-! ### with draws -/
theorem draw_bind {α β : Type} (l : Nat) (k : Nat → T α) (f : α → T β) : (T.draw l k).bind f = T.draw l fun d => (k d).bind f := rfl
theorem wb_draw {α : Type} {l : Nat} {k : Nat → T α} {b : Nat} {Q : α → Nat → Prop} (h : ∀ d, d < l → (k d).wb b Q) : (T.draw l k).wb (b + 1) Q := h
theorem wb_draw' {α : Type} {l : Nat} {k : Nat → T α} {b : Nat} {Q : α → Nat → Prop} (hb : 1 ≤ b) (h : ∀ d, d < l → (k d).wb (b - 1) Q) : (T.draw l k).wb b Q := by
  obtain ⟨c, rfl⟩ : ∃ c, b = c + 1 := ⟨b - 1, by omega⟩
  exact h
theorem wb_ok {α : Type} {a : α} {b : Nat} {Q : α → Nat → Prop} (h : Q a b) : (T.ok a).wb b Q := h
theorem wstep {C : Cl} {I : Nat → List Bool} {s : Sm} {r : Sms} {sl : Sl} {β : Type} {k : Fl → T β} {b : Nat} {Q : β → Nat → Prop} (h : (exS C I cn s sl).wb b fun f b' => ∃ sl', f = .nx sl' ∧ ((exSs C I cn r sl').bind k).wb b' Q) : ((exSs C I cn (.cons s r) sl).bind k).wb b Q := by
  rw [exSs]
  show (((exS C I cn s sl).bind _).bind k).wb b Q
  rw [bind_as]
  refine T.wb_bind.mpr (T.wb_mono (fun f b' hf => ?_) h)
  obtain ⟨sl', rfl, hk⟩ := hf
  exact hk
theorem wstep1 {C : Cl} {I : Nat → List Bool} {s : Sm} {r : Sms} {sl sl' : Sl} {β : Type} {k : Fl → T β} {b : Nat} {Q : β → Nat → Prop} (h : exS C I cn s sl = .ok (.nx sl')) (hk : ((exSs C I cn r sl').bind k).wb b Q) : ((exSs C I cn (.cons s r) sl).bind k).wb b Q := wstep (by rw [h]; exact ⟨sl', rfl, hk⟩)
theorem for_wb {turn : W → Sl → T Fl} {P : Nat → Sl → Nat → Prop} {Q : Fl → Nat → Prop} : ∀ {xs : List W} {k : Nat} {sl : Sl} {b : Nat}, P k sl b → (∀ (i : Nat) x sl b, xs[i]? = some x → P (k + i) sl b → (turn x sl).wb b fun f b' => ∃ sl', f = .nx sl' ∧ P (k + i + 1) sl' b') → (∀ sl b, P (k + xs.length) sl b → Q (.nx sl) b) → (forGo turn xs sl).wb b Q
  | [], k, sl, b, h0, _, hq => hq sl b h0
  | x :: xs, k, sl, b, h0, h, hq => by
    unfold forGo
    refine T.wb_bind.mpr (T.wb_mono (fun f b' hf => ?_) (h 0 x sl b rfl h0))
    obtain ⟨sl1, rfl, h1⟩ := hf
    refine for_wb (k := k + 1) h1 (fun i y sl b e hp => ?_) fun sl b hp => hq sl b (by rw [List.length_cons, show k + (xs.length + 1) = k + 1 + xs.length by omega]; exact hp)
    have := h (i + 1) y sl b (by simpa using e) (by rw [show k + (i + 1) = k + 1 + i by omega]; exact hp)
    rw [show k + (i + 1) = k + 1 + i by omega] at this
    exact this
theorem guard_dr {α : Type} {m : Nat} {t : T α} (h1 : 1 ≤ m) (h2 : m ≤ 1000000) : T.guard (decide ((0 : Int) < (m : Int)) && decide ((m : Int) < 1073741824)) t = t := guard_t (by rw [Bool.and_eq_true, decide_eq_true_eq, decide_eq_true_eq]; omega)
def drw (x y : W) (sl : Sl) : T (R × Sl) := match x with
  | .orc => (match y with
    | .int n => T.guard (decide (0 < n) && decide (n < 1073741824)) (.draw n.toNat fun d => .ok ((.int d, false), sl))
    | _ => .stk)
  | _ => .stk
theorem kDraw_eq (m l : Se) : kDraw m l = fun sl => (m sl).bind fun p => (l p.2).bind fun q => drw p.1.1 q.1.1 q.2 := rfl
theorem drw_ok {m : Nat} {sl : Sl} (h1 : 1 ≤ m) (h2 : m ≤ 1000000) : drw .orc (.int (m : Int)) sl = .draw m fun d => .ok ((.int d, false), sl) := by
  show T.guard (decide ((0 : Int) < (m : Int)) && decide ((m : Int) < 1073741824)) _ = _
  rw [guard_dr h1 h2, Int.toNat_natCast]
theorem of_wb {xs : List W} {n b : Nat} {Q : R × List W → Nat → Prop} (h0 : 1 ≤ xs.length) (h1 : xs.length ≤ 1000) (hb : 1 ≤ b) (h : ∀ (d : Nat) w, xs[d]? = some w → Q ((w, false), []) (b - 1)) : (callN fks cn (n + 1) 30 [(.orc, false), (.lst xs, false)]).wb b Q := by
  rw [callN_code rfl rfl]
  simp -implicitDefEqProofs (disch := omega) only [exSs, exS, evE, evL, evO, evI, sSeq, sAsg, sExp, sApp, sPut, sRet, sRetv, sIte, sPar, lPar, moveS, kOp, kChain, kIdx, kLst, Ev.kTup, kCon, kVar, kNot, kAnd, kOr, kIte, kBi, kCall, kSli, oInt, kNeg, kConv, lA, lH, lAnd, lOr, lArgs, ioTake, putBack, own, hd, isV, getAll, hget_val, hget_slot, T.bind_ok, fz, rd0, rdS, sett0, settS, setG_nm, setGs_nil, setGs_cons, setG_tp, cond_true, cond_false, boolOf, bopsI, op2, two_ii, subW, ltW, leW, gtW, geW, eqR, neR, yes, nay, biW, bi1, bi2, isR, isnotR, isT1, isI1, isB1, isS1, yes, isInst, lenW, List.map_cons, List.map_nil, List.cons_append, List.nil_append, List.replicate_succ, List.replicate_zero, Nat.reduceSub, Bool.not_true, Bool.not_false, ite_true, ite_false, iSeq, seqOf, List.headD_cons, List.tail_cons, guard_tt, bind_as, kDraw_eq, drw_ok, draw_bind]
  refine wb_draw' hb fun d hd => ?_
  have hx : xs[d]? = some xs[d] := List.getElem?_eq_getElem hd
  have es := seqAt_nat hx
  simp -implicitDefEqProofs only [exSs, exS, evE, evL, evO, evI, sSeq, sAsg, sExp, sApp, sPut, sRet, sRetv, sIte, sPar, lPar, moveS, kOp, kChain, kIdx, kLst, Ev.kTup, kCon, kVar, kNot, kAnd, kOr, kIte, kBi, kCall, kSli, oInt, kNeg, kConv, lA, lH, lAnd, lOr, lArgs, ioTake, putBack, own, hd, isV, getAll, hget_val, hget_slot, T.bind_ok, fz, rd0, rdS, sett0, settS, setG_nm, setGs_nil, setGs_cons, setG_tp, cond_true, cond_false, boolOf, bopsI, op2, two_ii, subW, ltW, leW, gtW, geW, eqR, neR, yes, nay, biW, bi1, bi2, isR, isnotR, isT1, isI1, isB1, isS1, yes, isInst, lenW, List.map_cons, List.map_nil, List.cons_append, List.nil_append, List.replicate_succ, List.replicate_zero, Nat.reduceSub, Bool.not_true, Bool.not_false, ite_true, ite_false, iSeq, seqOf, List.headD_cons, List.tail_cons, guard_tt, bind_as, idxL, es]
  exact h d _ hx
/-! ### deeds that make some items -/
def sz (m : Nat) (ds : List (Nat × Nat)) (x : Nat) : Nat := (grow (· + ·) 0 (List.replicate m 1) ds).getD x 0
def nb (l : Nat) : Nat := 2 * (l - 1) - 1
theorem grow_append {α : Type} {f : α → α → α} {d : α} : ∀ (a b : List (Nat × Nat)) (acc : List α), grow f d acc (a ++ b) = grow f d (grow f d acc a) b
  | [], _, _ => rfl
  | x :: a, b, acc => by rw [List.cons_append, grow, grow, grow_append a b]
theorem sz_old {m : Nat} {ds new : List (Nat × Nat)} {x : Nat} (h : x < m + ds.length) : sz m (ds ++ new) x = sz m ds x := by
  unfold sz
  rw [grow_append, grow_pre _ _ _ (by rw [grow_len, List.length_replicate]; exact h)]
theorem sz_leaf {m : Nat} {ds : List (Nat × Nat)} {x : Nat} (h : x < m) : sz m ds x = 1 := by
  unfold sz
  rw [grow_pre _ _ _ (by rw [List.length_replicate]; exact h), List.getD_eq_getElem?_getD, List.getElem?_replicate, if_pos h]
  rfl
theorem sz_new {m : Nat} {ds : List (Nat × Nat)} {d : Nat × Nat} : sz m (ds ++ [d]) (m + ds.length) = sz m ds d.1 + sz m ds d.2 := by
  unfold sz
  rw [grow_snoc, List.getD_eq_getElem?_getD, List.getElem?_append_right (by rw [grow_len, List.length_replicate]; exact Nat.le_refl _), grow_len, List.length_replicate, Nat.sub_self]
  rfl
theorem under_snoc : ∀ {k : Nat} {ds : List (Nat × Nat)} {d : Nat × Nat}, Under k ds → d.1 < k + ds.length → d.2 < k + ds.length → Under k (ds ++ [d])
  | k, [], d, _, h1, h2 => ⟨h1, h2, True.intro⟩
  | k, x :: ds, d, hu, h1, h2 => by
    rw [List.length_cons] at h1 h2
    exact ⟨hu.1, hu.2.1, under_snoc hu.2.2 (by omega) (by omega)⟩
structure Made (m len : Nat) (ds ds' : List (Nat × Nat)) (v : Nat) : Prop where
  ex : ∃ new, ds' = ds ++ new ∧ new.length ≤ nb len
  un : Under m ds'
  lt : v < m + ds'.length
  s1 : sz m ds' v ≤ nb len + 1
  s2 : ∀ x, m + ds.length ≤ x → x < m + ds'.length → sz m ds' x ≤ 8
theorem io32 : ioOf fks 32 = [false, false, true, false, false] := rfl
theorem cut_to (xs : List Nat) {k : Nat} (h : k ≤ xs.length) : cut (xs.map iW) none (some (k : Int)) = (xs.take k).map iW := by
  unfold cut
  have e2 : cutIx (xs.map iW).length (xs.map iW).length (some (k : Int)) = k := by
    show (if (k : Int) < 0 then ((k : Int) + ((xs.map iW).length : Int)).toNat else min (k : Int).toNat (xs.map iW).length) = _
    rw [if_neg (by omega), List.length_map]
    omega
  rw [e2]
  show ((xs.map iW).drop 0).take (k - 0) = _
  rw [List.drop_zero, Nat.sub_zero, List.map_take]
theorem cut_from (xs : List Nat) {k : Nat} (h : k ≤ xs.length) : cut (xs.map iW) (some (k : Int)) none = (xs.drop k).map iW := by
  unfold cut
  have e2 : cutIx (xs.map iW).length 0 (some (k : Int)) = k := by
    show (if (k : Int) < 0 then ((k : Int) + ((xs.map iW).length : Int)).toNat else min (k : Int).toNat (xs.map iW).length) = _
    rw [if_neg (by omega), List.length_map]
    omega
  rw [e2]
  show ((xs.map iW).drop k).take ((xs.map iW).length - k) = _
  rw [List.take_of_length_le (by rw [List.length_drop]; exact Nat.le_refl _), List.map_drop]

theorem nb_le {a b l : Nat} (h1 : 1 ≤ a) (h2 : 1 ≤ b) (h3 : a < l) (h4 : b < l) (h5 : a + b ≤ l + 1) (h6 : a = 1 → a + b ≤ l) : nb a + nb b + 1 ≤ nb l := by
  unfold nb
  omega
theorem gtW_ii (i j : Int) : gtW (.int i) (.int j) = .ok (.bl (decide (j < i)), false) := rfl
theorem seq1 (a : W) : seqAt [a] 0 = .ok a := rfl
theorem eqI11 : eqI ((1 : Nat) : Int) 1 = true := rfl
abbrev mSl (m : Nat) (ds : List (Nat × Nat)) (items : List Nat) (k : Nat) (a5 a6 a7 a8 a9 : Option R) : Sl := [some (.orc, false), some (.int (m : Int), false), some (.lst (ds.map pW), true), some (.lst (items.map iW), false), some (.int (k : Int), false), a5, a6, a7, a8, a9, none, none]
theorem made_ok : ∀ (L : Nat) (m k : Nat) (items : List Nat) (ds : List (Nat × Nat)) (n b : Nat) (Q : R × List W → Nat → Prop), items.length ≤ L → 1 ≤ items.length → items.length ≤ 5 → (∀ x ∈ items, x < m) → m ≤ 5 → ds.length + 8 * items.length ≤ 1000 → k ≤ 1000 → Under m ds → 3 * nb items.length ≤ b →
    (∀ ds' v b', Made m items.length ds ds' v → b ≤ b' + 3 * nb items.length → Q ((.int (v : Int), false), [.lst (ds'.map pW)]) b') →
    (callN fks cn (n + L) 32 [(.orc, false), (.int (m : Int), false), (.lst (ds.map pW), true), (.lst (items.map iW), false), (.int (k : Int), false)]).wb b Q
  | 0, m, k, items, ds, n, b, Q, h0, h1, _, _, _, _, _, _, _, _ => by omega
  | L + 1, m, k, items, ds, n, b, Q, h0, h1, h5, hi, hm, hdl, hk, hu, hb, hQ => by
    rw [show n + (L + 1) = (n + L) + 1 by omega, callN_code rfl rfl]
    by_cases hl : items.length = 1
    · obtain ⟨x, rfl⟩ := List.length_eq_one_iff.mp hl
      have hx := hi x (List.mem_singleton.mpr rfl)
      simp -implicitDefEqProofs only [exSs, exS, evE, evL, evO, evI, sSeq, sAsg, sExp, sApp, sPut, sRet, sRetv, sIte, sPar, lPar, moveS, kOp, kChain, kIdx, kLst, Ev.kTup, kCon, kVar, kNot, kAnd, kOr, kIte, kBi, kCall, kSli, oInt, kNeg, kConv, lA, lH, lAnd, lOr, lArgs, ioTake, putBack, own, hd, isV, getAll, hget_val, hget_slot, T.bind_ok, fz, rd0, rdS, sett0, settS, setG_nm, setGs_nil, setGs_cons, setG_tp, cond_true, cond_false, boolOf, bopsI, op2, two_ii, subW, ltW, leW, gtW, geW, eqR, neR, yes, nay, biW, bi1, bi2, isR, isnotR, isT1, isI1, isB1, isS1, yes, isInst, lenW, List.map_cons, List.map_nil, List.cons_append, List.nil_append, List.replicate_succ, List.replicate_zero, Nat.reduceSub, Bool.not_true, Bool.not_false, ite_true, ite_false, iSeq, seqOf, List.headD_cons, List.tail_cons, guard_tt, bind_as, List.length_map, List.length_singleton, eqW_ii, idxL, eqI11, seq1, iW_eq]
      refine hQ ds x b ⟨⟨[], by rw [List.append_nil], Nat.zero_le _⟩, hu, by omega, by rw [sz_leaf hx]; exact Nat.le_add_left .., fun y h1 h2 => by omega⟩ (Nat.le_add_right ..)
    · have hl2 : 2 ≤ items.length := by omega
      have hnb : nb items.length = 2 * (items.length - 1) - 1 := rfl
      have ne1 : eqI ((items.length : Nat) : Int) 1 = false := by rw [eqI_dec]; exact decide_eq_false (by omega)
      have elim : ((items.length : Nat) : Int) - 1 = ((items.length - 1 : Nat) : Int) := by omega
      refine wstep (T.wb_mono (Q := fun (f : Fl) (b' : Nat) => b' = b ∧ f = Fl.nx (mSl m ds items k none none none none none)) ?_ ?_)
      rotate_left
      · simp -implicitDefEqProofs only [exSs, exS, evE, evL, evO, evI, sSeq, sAsg, sExp, sApp, sPut, sRet, sRetv, sIte, sPar, lPar, moveS, kOp, kChain, kIdx, kLst, Ev.kTup, kCon, kVar, kNot, kAnd, kOr, kIte, kBi, kCall, kSli, oInt, kNeg, kConv, lA, lH, lAnd, lOr, lArgs, ioTake, putBack, own, hd, isV, getAll, hget_val, hget_slot, T.bind_ok, fz, rd0, rdS, sett0, settS, setG_nm, setGs_nil, setGs_cons, setG_tp, cond_true, cond_false, boolOf, bopsI, op2, two_ii, subW, ltW, leW, gtW, geW, eqR, neR, yes, nay, biW, bi1, bi2, isR, isnotR, isT1, isI1, isB1, isS1, yes, isInst, lenW, List.map_cons, List.map_nil, List.cons_append, List.nil_append, List.replicate_succ, List.replicate_zero, Nat.reduceSub, Bool.not_true, Bool.not_false, ite_true, ite_false, iSeq, seqOf, List.headD_cons, List.tail_cons, guard_tt, bind_as, List.length_map, eqW_ii, ne1]
        exact ⟨rfl, rfl⟩
      rintro f b' ⟨rfl, rfl⟩
      refine ⟨_, rfl, ?_⟩
      -- the split
      refine wstep (T.wb_mono (Q := fun (f : Fl) (b2 : Nat) => ∃ s, 1 ≤ s ∧ s < items.length ∧ b' ≤ b2 + 1 ∧ f = Fl.nx (mSl m ds items k (some (W.int (s : Int), false)) none none none none)) ?_ ?_)
      rotate_left
      · by_cases k0 : k = 0
        · subst k0
          have ek : eqI ((0 : Nat) : Int) 0 = true := rfl
          simp -implicitDefEqProofs only [exSs, exS, evE, evL, evO, evI, sSeq, sAsg, sExp, sApp, sPut, sRet, sRetv, sIte, sPar, lPar, moveS, kOp, kChain, kIdx, kLst, Ev.kTup, kCon, kVar, kNot, kAnd, kOr, kIte, kBi, kCall, kSli, oInt, kNeg, kConv, lA, lH, lAnd, lOr, lArgs, ioTake, putBack, own, hd, isV, getAll, hget_val, hget_slot, T.bind_ok, fz, rd0, rdS, sett0, settS, setG_nm, setGs_nil, setGs_cons, setG_tp, cond_true, cond_false, boolOf, bopsI, op2, two_ii, subW, ltW, leW, gtW, geW, eqR, neR, yes, nay, biW, bi1, bi2, isR, isnotR, isT1, isI1, isB1, isS1, yes, isInst, lenW, List.map_cons, List.map_nil, List.cons_append, List.nil_append, List.replicate_succ, List.replicate_zero, Nat.reduceSub, Bool.not_true, Bool.not_false, ite_true, ite_false, iSeq, seqOf, List.headD_cons, List.tail_cons, guard_tt, bind_as, eqW_ii, ek]
          exact ⟨1, Nat.le_refl _, by omega, by omega, rfl⟩
        · have ek : eqI ((k : Nat) : Int) 0 = false := by rw [eqI_dec]; exact decide_eq_false (by omega)
          simp -implicitDefEqProofs (disch := omega) only [exSs, exS, evE, evL, evO, evI, sSeq, sAsg, sExp, sApp, sPut, sRet, sRetv, sIte, sPar, lPar, moveS, kOp, kChain, kIdx, kLst, Ev.kTup, kCon, kVar, kNot, kAnd, kOr, kIte, kBi, kCall, kSli, oInt, kNeg, kConv, lA, lH, lAnd, lOr, lArgs, ioTake, putBack, own, hd, isV, getAll, hget_val, hget_slot, T.bind_ok, fz, rd0, rdS, sett0, settS, setG_nm, setGs_nil, setGs_cons, setG_tp, cond_true, cond_false, boolOf, bopsI, op2, two_ii, subW, ltW, leW, gtW, geW, eqR, neR, yes, nay, biW, bi1, bi2, isR, isnotR, isT1, isI1, isB1, isS1, yes, isInst, lenW, List.map_cons, List.map_nil, List.cons_append, List.nil_append, List.replicate_succ, List.replicate_zero, Nat.reduceSub, Bool.not_true, Bool.not_false, ite_true, ite_false, iSeq, seqOf, List.headD_cons, List.tail_cons, guard_tt, bind_as, eqW_ii, ek, List.length_map, elim, kDraw_eq, drw_ok, draw_bind]
          refine wb_draw' (by omega) fun d hdd => ?_
          exact ⟨1 + d, by omega, by omega, by omega, by rw [show ((1 + d : Nat) : Int) = 1 + (d : Int) by omega]⟩
      rintro f b2 ⟨s, s1, s2, sb, rfl⟩
      refine ⟨_, rfl, ?_⟩
      -- near, far
      have fs : fits62 (s : Int) = true := fits_nat (by omega)
      refine wstep1 (sl' := mSl m ds items k (some (W.int (s : Int), false)) (some (W.lst ((items.take s).map iW), true)) (some (W.lst ((items.drop s).map iW), true)) none none) ?_ ?_
      · simp -implicitDefEqProofs only [exSs, exS, evE, evL, evO, evI, sSeq, sAsg, sExp, sApp, sPut, sRet, sRetv, sIte, sPar, lPar, moveS, kOp, kChain, kIdx, kLst, Ev.kTup, kCon, kVar, kNot, kAnd, kOr, kIte, kBi, kCall, kSli, oInt, kNeg, kConv, lA, lH, lAnd, lOr, lArgs, ioTake, putBack, own, hd, isV, getAll, hget_val, hget_slot, T.bind_ok, fz, rd0, rdS, sett0, settS, setG_nm, setGs_nil, setGs_cons, setG_tp, cond_true, cond_false, boolOf, bopsI, op2, two_ii, subW, ltW, leW, gtW, geW, eqR, neR, yes, nay, biW, bi1, bi2, isR, isnotR, isT1, isI1, isB1, isS1, yes, isInst, lenW, List.map_cons, List.map_nil, List.cons_append, List.nil_append, List.replicate_succ, List.replicate_zero, Nat.reduceSub, Bool.not_true, Bool.not_false, ite_true, ite_false, iSeq, seqOf, List.headD_cons, List.tail_cons, guard_tt, bind_as, fs, sliL, cut_to items (show s ≤ items.length by omega), cut_from items (show s ≤ items.length by omega)]
      generalize hb3 : b2 = b3 at sb ⊢
      -- an item twice
      refine wstep (T.wb_mono (Q := fun (f : Fl) (b4 : Nat) => ∃ e, (e = s ∨ (e + 1 = s ∧ 2 ≤ s)) ∧ b3 ≤ b4 + 1 ∧ f = Fl.nx (mSl m ds items k (some (W.int (s : Int), false)) (some (W.lst ((items.take s).map iW), true)) (some (W.lst ((items.drop e).map iW), true)) none none)) ?_ ?_)
      rotate_left
      · by_cases k3 : k = 3
        · have ek : eqI ((k : Nat) : Int) 3 = true := by rw [eqI_dec]; exact decide_eq_true (by omega)
          by_cases sg : 1 < s
          · have es : decide ((1 : Int) < (s : Int)) = true := decide_eq_true (by omega)
            have d2 : drw .orc (.int 2) (mSl m ds items k (some (W.int (s : Int), false)) (some (W.lst ((items.take s).map iW), true)) (some (W.lst ((items.drop s).map iW), true)) none none) = .draw 2 fun d => .ok ((.int d, false), mSl m ds items k (some (W.int (s : Int), false)) (some (W.lst ((items.take s).map iW), true)) (some (W.lst ((items.drop s).map iW), true)) none none) := drw_ok (m := 2) (by decide) (by decide)
            simp -implicitDefEqProofs only [exSs, exS, evE, evL, evO, evI, sSeq, sAsg, sExp, sApp, sPut, sRet, sRetv, sIte, sPar, lPar, moveS, kOp, kChain, kIdx, kLst, Ev.kTup, kCon, kVar, kNot, kAnd, kOr, kIte, kBi, kCall, kSli, oInt, kNeg, kConv, lA, lH, lAnd, lOr, lArgs, ioTake, putBack, own, hd, isV, getAll, hget_val, hget_slot, T.bind_ok, fz, rd0, rdS, sett0, settS, setG_nm, setGs_nil, setGs_cons, setG_tp, cond_true, cond_false, boolOf, bopsI, op2, two_ii, subW, ltW, leW, gtW, geW, eqR, neR, yes, nay, biW, bi1, bi2, isR, isnotR, isT1, isI1, isB1, isS1, yes, isInst, lenW, List.map_cons, List.map_nil, List.cons_append, List.nil_append, List.replicate_succ, List.replicate_zero, Nat.reduceSub, Bool.not_true, Bool.not_false, ite_true, ite_false, iSeq, seqOf, List.headD_cons, List.tail_cons, guard_tt, bind_as, eqW_ii, ek, es, kDraw_eq, d2, draw_bind]
            refine wb_draw' (by omega) fun d hdd => ?_
            have fs1 : fits62 ((s : Int) - 1) = true := by
              have := fits_nat (m := s - 1) (by omega)
              rw [show ((s - 1 : Nat) : Int) = (s : Int) - 1 by omega] at this
              exact this
            have cf : cut (items.map iW) (some ((s : Int) - 1)) none = (items.drop (s - 1)).map iW := by
              have := cut_from items (k := s - 1) (by omega)
              rw [show ((s - 1 : Nat) : Int) = (s : Int) - 1 by omega] at this
              exact this
            by_cases d0 : d = 0
            · subst d0
              have ed : eqI ((0 : Nat) : Int) 0 = true := rfl
              simp -implicitDefEqProofs only [exSs, exS, evE, evL, evO, evI, sSeq, sAsg, sExp, sApp, sPut, sRet, sRetv, sIte, sPar, lPar, moveS, kOp, kChain, kIdx, kLst, Ev.kTup, kCon, kVar, kNot, kAnd, kOr, kIte, kBi, kCall, kSli, oInt, kNeg, kConv, lA, lH, lAnd, lOr, lArgs, ioTake, putBack, own, hd, isV, getAll, hget_val, hget_slot, T.bind_ok, fz, rd0, rdS, sett0, settS, setG_nm, setGs_nil, setGs_cons, setG_tp, cond_true, cond_false, boolOf, bopsI, op2, two_ii, subW, ltW, leW, gtW, geW, eqR, neR, yes, nay, biW, bi1, bi2, isR, isnotR, isT1, isI1, isB1, isS1, yes, isInst, lenW, List.map_cons, List.map_nil, List.cons_append, List.nil_append, List.replicate_succ, List.replicate_zero, Nat.reduceSub, Bool.not_true, Bool.not_false, ite_true, ite_false, iSeq, seqOf, List.headD_cons, List.tail_cons, guard_tt, bind_as, eqW_ii, ed, fs1, sliL, cf]
              exact ⟨s - 1, .inr ⟨by omega, by omega⟩, by omega, rfl⟩
            · have ed : eqI ((d : Nat) : Int) 0 = false := by rw [eqI_dec]; exact decide_eq_false (by omega)
              simp -implicitDefEqProofs only [exSs, exS, evE, evL, evO, evI, sSeq, sAsg, sExp, sApp, sPut, sRet, sRetv, sIte, sPar, lPar, moveS, kOp, kChain, kIdx, kLst, Ev.kTup, kCon, kVar, kNot, kAnd, kOr, kIte, kBi, kCall, kSli, oInt, kNeg, kConv, lA, lH, lAnd, lOr, lArgs, ioTake, putBack, own, hd, isV, getAll, hget_val, hget_slot, T.bind_ok, fz, rd0, rdS, sett0, settS, setG_nm, setGs_nil, setGs_cons, setG_tp, cond_true, cond_false, boolOf, bopsI, op2, two_ii, subW, ltW, leW, gtW, geW, eqR, neR, yes, nay, biW, bi1, bi2, isR, isnotR, isT1, isI1, isB1, isS1, yes, isInst, lenW, List.map_cons, List.map_nil, List.cons_append, List.nil_append, List.replicate_succ, List.replicate_zero, Nat.reduceSub, Bool.not_true, Bool.not_false, ite_true, ite_false, iSeq, seqOf, List.headD_cons, List.tail_cons, guard_tt, bind_as, eqW_ii, ed]
              exact ⟨s, .inl rfl, by omega, rfl⟩
          · have es : decide ((1 : Int) < (s : Int)) = false := decide_eq_false (by omega)
            simp -implicitDefEqProofs only [exSs, exS, evE, evL, evO, evI, sSeq, sAsg, sExp, sApp, sPut, sRet, sRetv, sIte, sPar, lPar, moveS, kOp, kChain, kIdx, kLst, Ev.kTup, kCon, kVar, kNot, kAnd, kOr, kIte, kBi, kCall, kSli, oInt, kNeg, kConv, lA, lH, lAnd, lOr, lArgs, ioTake, putBack, own, hd, isV, getAll, hget_val, hget_slot, T.bind_ok, fz, rd0, rdS, sett0, settS, setG_nm, setGs_nil, setGs_cons, setG_tp, cond_true, cond_false, boolOf, bopsI, op2, two_ii, subW, ltW, leW, gtW, geW, eqR, neR, yes, nay, biW, bi1, bi2, isR, isnotR, isT1, isI1, isB1, isS1, yes, isInst, lenW, List.map_cons, List.map_nil, List.cons_append, List.nil_append, List.replicate_succ, List.replicate_zero, Nat.reduceSub, Bool.not_true, Bool.not_false, ite_true, ite_false, iSeq, seqOf, List.headD_cons, List.tail_cons, guard_tt, bind_as, eqW_ii, ek, es]
            exact ⟨s, .inl rfl, by omega, rfl⟩
        · have ek : eqI ((k : Nat) : Int) 3 = false := by rw [eqI_dec]; exact decide_eq_false (by omega)
          simp -implicitDefEqProofs only [exSs, exS, evE, evL, evO, evI, sSeq, sAsg, sExp, sApp, sPut, sRet, sRetv, sIte, sPar, lPar, moveS, kOp, kChain, kIdx, kLst, Ev.kTup, kCon, kVar, kNot, kAnd, kOr, kIte, kBi, kCall, kSli, oInt, kNeg, kConv, lA, lH, lAnd, lOr, lArgs, ioTake, putBack, own, hd, isV, getAll, hget_val, hget_slot, T.bind_ok, fz, rd0, rdS, sett0, settS, setG_nm, setGs_nil, setGs_cons, setG_tp, cond_true, cond_false, boolOf, bopsI, op2, two_ii, subW, ltW, leW, gtW, geW, eqR, neR, yes, nay, biW, bi1, bi2, isR, isnotR, isT1, isI1, isB1, isS1, yes, isInst, lenW, List.map_cons, List.map_nil, List.cons_append, List.nil_append, List.replicate_succ, List.replicate_zero, Nat.reduceSub, Bool.not_true, Bool.not_false, ite_true, ite_false, iSeq, seqOf, List.headD_cons, List.tail_cons, guard_tt, bind_as, eqW_ii, ek]
          exact ⟨s, .inl rfl, by omega, rfl⟩
      rintro f b4 ⟨e, he, b34, rfl⟩
      refine ⟨_, rfl, ?_⟩
      have la : (items.take s).length = s := by rw [List.length_take]; omega
      have lb : (items.drop e).length = items.length - e := by rw [List.length_drop]
      have nbl : nb s + nb (items.length - e) + 1 ≤ nb items.length := nb_le (by omega) (by omega) (by omega) (by omega) (by omega) (by omega)
      -- one
      refine wstep (T.wb_mono (Q := fun (f : Fl) (b5 : Nat) => ∃ ds1 v1, Made m s ds ds1 v1 ∧ b4 ≤ b5 + 3 * nb s ∧ f = Fl.nx (mSl m ds1 items k (some (W.int (s : Int), false)) (some (W.lst ((items.take s).map iW), false)) (some (W.lst ((items.drop e).map iW), true)) (some (W.int (v1 : Int), false)) none)) ?_ ?_)
      rotate_left
      · simp -implicitDefEqProofs only [exSs, exS, evE, evL, evO, evI, sSeq, sAsg, sExp, sApp, sPut, sRet, sRetv, sIte, sPar, lPar, moveS, kOp, kChain, kIdx, kLst, Ev.kTup, kCon, kVar, kNot, kAnd, kOr, kIte, kBi, kCall, kSli, oInt, kNeg, kConv, lA, lH, lAnd, lOr, lArgs, ioTake, putBack, own, hd, isV, getAll, hget_val, hget_slot, T.bind_ok, fz, rd0, rdS, sett0, settS, setG_nm, setGs_nil, setGs_cons, setG_tp, cond_true, cond_false, boolOf, bopsI, op2, two_ii, subW, ltW, leW, gtW, geW, eqR, neR, yes, nay, biW, bi1, bi2, isR, isnotR, isT1, isI1, isB1, isS1, yes, isInst, lenW, List.map_cons, List.map_nil, List.cons_append, List.nil_append, List.replicate_succ, List.replicate_zero, Nat.reduceSub, Bool.not_true, Bool.not_false, ite_true, ite_false, iSeq, seqOf, List.headD_cons, List.tail_cons, guard_tt, bind_as, io32]
        refine T.wb_bind.mpr (made_ok L m k (items.take s) ds n b4 _ (by rw [la]; omega) (by rw [la]; omega) (by rw [la]; omega) (fun x hx => hi x (List.mem_of_mem_take hx)) hm (by rw [la]; omega) hk hu (by rw [la]; omega) fun ds1 v1 b5 md hb5 => ?_)
        rw [la] at md hb5
        exact ⟨ds1, v1, md, hb5, rfl⟩
      rintro f b5 ⟨ds1, v1, md1, hb5, rfl⟩
      refine ⟨_, rfl, ?_⟩
      obtain ⟨new1, en1, ln1⟩ := md1.ex
      have lds1 : ds1.length ≤ ds.length + nb s := by rw [en1, List.length_append]; omega
      have hnbs : nb s ≤ 2 * s := by unfold nb; omega
      have hnbe : nb (items.length - e) ≤ 2 * items.length := by unfold nb; omega
      -- other
      refine wstep (T.wb_mono (Q := fun (f : Fl) (b6 : Nat) => ∃ ds2 v2, Made m (items.length - e) ds1 ds2 v2 ∧ b5 ≤ b6 + 3 * nb (items.length - e) ∧ f = Fl.nx (mSl m ds2 items k (some (W.int (s : Int), false)) (some (W.lst ((items.take s).map iW), false)) (some (W.lst ((items.drop e).map iW), false)) (some (W.int (v1 : Int), false)) (some (W.int (v2 : Int), false)))) ?_ ?_)
      rotate_left
      · simp -implicitDefEqProofs only [exSs, exS, evE, evL, evO, evI, sSeq, sAsg, sExp, sApp, sPut, sRet, sRetv, sIte, sPar, lPar, moveS, kOp, kChain, kIdx, kLst, Ev.kTup, kCon, kVar, kNot, kAnd, kOr, kIte, kBi, kCall, kSli, oInt, kNeg, kConv, lA, lH, lAnd, lOr, lArgs, ioTake, putBack, own, hd, isV, getAll, hget_val, hget_slot, T.bind_ok, fz, rd0, rdS, sett0, settS, setG_nm, setGs_nil, setGs_cons, setG_tp, cond_true, cond_false, boolOf, bopsI, op2, two_ii, subW, ltW, leW, gtW, geW, eqR, neR, yes, nay, biW, bi1, bi2, isR, isnotR, isT1, isI1, isB1, isS1, yes, isInst, lenW, List.map_cons, List.map_nil, List.cons_append, List.nil_append, List.replicate_succ, List.replicate_zero, Nat.reduceSub, Bool.not_true, Bool.not_false, ite_true, ite_false, iSeq, seqOf, List.headD_cons, List.tail_cons, guard_tt, bind_as, io32]
        refine T.wb_bind.mpr (made_ok L m k (items.drop e) ds1 n b5 _ (by rw [lb]; omega) (by rw [lb]; omega) (by rw [lb]; omega) (fun x hx => hi x (List.mem_of_mem_drop hx)) hm (by rw [lb]; omega) hk md1.un (by rw [lb]; omega) fun ds2 v2 b6 md hb6 => ?_)
        rw [lb] at md hb6
        exact ⟨ds2, v2, md, hb6, rfl⟩
      rintro f b6 ⟨ds2, v2, md2, hb6, rfl⟩
      refine ⟨_, rfl, ?_⟩
      obtain ⟨new2, en2, ln2⟩ := md2.ex
      have lds2 : ds2.length ≤ ds1.length + nb (items.length - e) := by rw [en2, List.length_append]; omega
      have hv1 : v1 < m + ds2.length := by
        have := md1.lt
        rw [en2, List.length_append]
        omega
      have sv1 : sz m ds2 v1 ≤ nb s + 1 := by
        rw [en2, sz_old md1.lt]
        exact md1.s1
      -- swapped or not
      refine wstep (T.wb_mono (Q := fun (f : Fl) (b7 : Nat) => ∃ p q, ((p = v1 ∧ q = v2) ∨ (p = v2 ∧ q = v1)) ∧ b6 ≤ b7 + 1 ∧ f = Fl.nx (mSl m ds2 items k (some (W.int (s : Int), false)) (some (W.lst ((items.take s).map iW), false)) (some (W.lst ((items.drop e).map iW), false)) (some (W.int (p : Int), false)) (some (W.int (q : Int), false)))) ?_ ?_)
      rotate_left
      · by_cases kg : 1 < k
        · have ek : decide ((1 : Int) < (k : Int)) = true := decide_eq_true (by omega)
          have d2 : drw .orc (.int 2) (mSl m ds2 items k (some (W.int (s : Int), false)) (some (W.lst ((items.take s).map iW), false)) (some (W.lst ((items.drop e).map iW), false)) (some (W.int (v1 : Int), false)) (some (W.int (v2 : Int), false))) = .draw 2 fun d => .ok ((.int d, false), mSl m ds2 items k (some (W.int (s : Int), false)) (some (W.lst ((items.take s).map iW), false)) (some (W.lst ((items.drop e).map iW), false)) (some (W.int (v1 : Int), false)) (some (W.int (v2 : Int), false))) := drw_ok (m := 2) (by decide) (by decide)
          simp -implicitDefEqProofs only [exSs, exS, evE, evL, evO, evI, sSeq, sAsg, sExp, sApp, sPut, sRet, sRetv, sIte, sPar, lPar, moveS, kOp, kChain, kIdx, kLst, Ev.kTup, kCon, kVar, kNot, kAnd, kOr, kIte, kBi, kCall, kSli, oInt, kNeg, kConv, lA, lH, lAnd, lOr, lArgs, ioTake, putBack, own, hd, isV, getAll, hget_val, hget_slot, T.bind_ok, fz, rd0, rdS, sett0, settS, setG_nm, setGs_nil, setGs_cons, setG_tp, cond_true, cond_false, boolOf, bopsI, op2, two_ii, subW, ltW, leW, gtW, geW, eqR, neR, yes, nay, biW, bi1, bi2, isR, isnotR, isT1, isI1, isB1, isS1, yes, isInst, lenW, List.map_cons, List.map_nil, List.cons_append, List.nil_append, List.replicate_succ, List.replicate_zero, Nat.reduceSub, Bool.not_true, Bool.not_false, ite_true, ite_false, iSeq, seqOf, List.headD_cons, List.tail_cons, guard_tt, bind_as, ek, kDraw_eq, d2, draw_bind]
          refine wb_draw' (by omega) fun d hdd => ?_
          by_cases d0 : d = 0
          · subst d0
            have ed : eqI ((0 : Nat) : Int) 0 = true := rfl
            simp -implicitDefEqProofs only [exSs, exS, evE, evL, evO, evI, sSeq, sAsg, sExp, sApp, sPut, sRet, sRetv, sIte, sPar, lPar, moveS, kOp, kChain, kIdx, kLst, Ev.kTup, kCon, kVar, kNot, kAnd, kOr, kIte, kBi, kCall, kSli, oInt, kNeg, kConv, lA, lH, lAnd, lOr, lArgs, ioTake, putBack, own, hd, isV, getAll, hget_val, hget_slot, T.bind_ok, fz, rd0, rdS, sett0, settS, setG_nm, setGs_nil, setGs_cons, setG_tp, cond_true, cond_false, boolOf, bopsI, op2, two_ii, subW, ltW, leW, gtW, geW, eqR, neR, yes, nay, biW, bi1, bi2, isR, isnotR, isT1, isI1, isB1, isS1, yes, isInst, lenW, List.map_cons, List.map_nil, List.cons_append, List.nil_append, List.replicate_succ, List.replicate_zero, Nat.reduceSub, Bool.not_true, Bool.not_false, ite_true, ite_false, iSeq, seqOf, List.headD_cons, List.tail_cons, guard_tt, bind_as, eqW_ii, ed]
            exact ⟨v2, v1, .inr ⟨rfl, rfl⟩, by omega, rfl⟩
          · have ed : eqI ((d : Nat) : Int) 0 = false := by rw [eqI_dec]; exact decide_eq_false (by omega)
            simp -implicitDefEqProofs only [exSs, exS, evE, evL, evO, evI, sSeq, sAsg, sExp, sApp, sPut, sRet, sRetv, sIte, sPar, lPar, moveS, kOp, kChain, kIdx, kLst, Ev.kTup, kCon, kVar, kNot, kAnd, kOr, kIte, kBi, kCall, kSli, oInt, kNeg, kConv, lA, lH, lAnd, lOr, lArgs, ioTake, putBack, own, hd, isV, getAll, hget_val, hget_slot, T.bind_ok, fz, rd0, rdS, sett0, settS, setG_nm, setGs_nil, setGs_cons, setG_tp, cond_true, cond_false, boolOf, bopsI, op2, two_ii, subW, ltW, leW, gtW, geW, eqR, neR, yes, nay, biW, bi1, bi2, isR, isnotR, isT1, isI1, isB1, isS1, yes, isInst, lenW, List.map_cons, List.map_nil, List.cons_append, List.nil_append, List.replicate_succ, List.replicate_zero, Nat.reduceSub, Bool.not_true, Bool.not_false, ite_true, ite_false, iSeq, seqOf, List.headD_cons, List.tail_cons, guard_tt, bind_as, eqW_ii, ed]
            exact ⟨v1, v2, .inl ⟨rfl, rfl⟩, by omega, rfl⟩
        · have ek : decide ((1 : Int) < (k : Int)) = false := decide_eq_false (by omega)
          simp -implicitDefEqProofs only [exSs, exS, evE, evL, evO, evI, sSeq, sAsg, sExp, sApp, sPut, sRet, sRetv, sIte, sPar, lPar, moveS, kOp, kChain, kIdx, kLst, Ev.kTup, kCon, kVar, kNot, kAnd, kOr, kIte, kBi, kCall, kSli, oInt, kNeg, kConv, lA, lH, lAnd, lOr, lArgs, ioTake, putBack, own, hd, isV, getAll, hget_val, hget_slot, T.bind_ok, fz, rd0, rdS, sett0, settS, setG_nm, setGs_nil, setGs_cons, setG_tp, cond_true, cond_false, boolOf, bopsI, op2, two_ii, subW, ltW, leW, gtW, geW, eqR, neR, yes, nay, biW, bi1, bi2, isR, isnotR, isT1, isI1, isB1, isS1, yes, isInst, lenW, List.map_cons, List.map_nil, List.cons_append, List.nil_append, List.replicate_succ, List.replicate_zero, Nat.reduceSub, Bool.not_true, Bool.not_false, ite_true, ite_false, iSeq, seqOf, List.headD_cons, List.tail_cons, guard_tt, bind_as, ek]
          exact ⟨v1, v2, .inl ⟨rfl, rfl⟩, by omega, rfl⟩
      rintro f b7 ⟨p, q, hpq, hb7, rfl⟩
      refine ⟨_, rfl, ?_⟩
      have hlen : (ds2.map pW).length ≤ 100000 := by rw [List.length_map]; omega
      simp -implicitDefEqProofs (disch := first | omega | exact hlen) only [exSs, exS, evE, evL, evO, evI, sSeq, sAsg, sExp, sApp, sPut, sRet, sRetv, sIte, sPar, lPar, moveS, kOp, kChain, kIdx, kLst, Ev.kTup, kCon, kVar, kNot, kAnd, kOr, kIte, kBi, kCall, kSli, oInt, kNeg, kConv, lA, lH, lAnd, lOr, lArgs, ioTake, putBack, own, hd, isV, getAll, hget_val, hget_slot, T.bind_ok, fz, rd0, rdS, sett0, settS, setG_nm, setGs_nil, setGs_cons, setG_tp, cond_true, cond_false, boolOf, bopsI, op2, two_ii, subW, ltW, leW, gtW, geW, eqR, neR, yes, nay, biW, bi1, bi2, isR, isnotR, isT1, isI1, isB1, isS1, yes, isInst, lenW, List.map_cons, List.map_nil, List.cons_append, List.nil_append, List.replicate_succ, List.replicate_zero, Nat.reduceSub, Bool.not_true, Bool.not_false, ite_true, ite_false, iSeq, seqOf, List.headD_cons, List.tail_cons, guard_tt, bind_as, isLst, appL, guard_lt, guard_sz, List.length_cons, List.length_nil]
      have hv2 := md2.lt
      have hpl : p < m + ds2.length ∧ q < m + ds2.length := by rcases hpq with ⟨a, c⟩ | ⟨a, c⟩ <;> (subst a c; exact ⟨by assumption, by assumption⟩)
      have spq : sz m ds2 p + sz m ds2 q ≤ nb items.length + 1 := by
        have := md2.s1
        rcases hpq with ⟨a, c⟩ | ⟨a, c⟩ <;> (subst a c; omega)
      have n8 : nb items.length + 1 ≤ 8 := by unfold nb; omega
      have finQ : Q ((.int (((m + ds2.length : Nat)) : Int), false), [.lst ((ds2 ++ [(p, q)]).map pW)]) b7 := by
        refine hQ _ _ _ ⟨⟨new1 ++ (new2 ++ [(p, q)]), by rw [en2, en1, List.append_assoc, List.append_assoc], by rw [List.length_append, List.length_append, List.length_singleton]; omega⟩, under_snoc md2.un hpl.1 hpl.2, by rw [List.length_append, List.length_singleton]; omega, by rw [sz_new]; exact spq, fun x x1 x2 => ?_⟩ (by omega)
        rw [List.length_append, List.length_singleton] at x2
        by_cases e1 : x = m + ds2.length
        · rw [e1, sz_new]
          exact Nat.le_trans spq n8
        · rw [sz_old (by omega)]
          by_cases e2 : x < m + ds1.length
          · rw [en2, sz_old e2]
            exact md1.s2 x x1 e2
          · exact md2.s2 x (by omega) (by omega)
      rw [List.map_append] at finQ
      rw [show (m : Int) + (((ds2.map pW ++ [W.tup [W.int (p : Int), W.int (q : Int)]]).length : Nat) : Int) - 1 = ((m + ds2.length : Nat) : Int) by rw [List.length_append, List.length_map, List.length_singleton]; omega]
      exact finQ
end Ov
end
end
section
set_option Elab.async false
set_option linter.all false
set_option maxRecDepth 100000
set_option maxHeartbeats 1000000
noncomputable section
namespace Ov
open PySem L2 Ev
set_option autoImplicit false
/-- held from the elaborator's eyes -/
structure WB {α : Type} (t : T α) (b : Nat) (Q : α → Nat → Prop) : Prop where
  h : t.wb b Q
theorem wstep0 {C : Cl} {I : Nat → List Bool} {s : Sm} {r : Sms} {sl : Sl} {b : Nat} {Q : Fl → Nat → Prop} (h : (exS C I cn s sl).wb b fun f b' => ∃ sl', f = .nx sl' ∧ (exSs C I cn r sl').wb b' Q) : (exSs C I cn (.cons s r) sl).wb b Q := by
  rw [exSs]
  show ((exS C I cn s sl).bind _).wb b Q
  refine T.wb_bind.mpr (T.wb_mono (fun f b' hf => ?_) h)
  obtain ⟨sl', rfl, hk⟩ := hf
  exact hk
theorem wstep01 {C : Cl} {I : Nat → List Bool} {s : Sm} {r : Sms} {sl sl' : Sl} {b : Nat} {Q : Fl → Nat → Prop} (h : exS C I cn s sl = .ok (.nx sl')) (hk : (exSs C I cn r sl').wb b Q) : (exSs C I cn (.cons s r) sl).wb b Q := wstep0 (by rw [h]; exact ⟨sl', rfl, hk⟩)
theorem drw2 {sl : Sl} : drw .orc (.int 2) sl = .draw 2 fun d => .ok ((.int d, false), sl) := drw_ok (m := 2) (by decide) (by decide)
theorem drw4 {sl : Sl} : drw .orc (.int 4) sl = .draw 4 fun d => .ok ((.int d, false), sl) := drw_ok (m := 4) (by decide) (by decide)
theorem drw5 {sl : Sl} : drw .orc (.int 5) sl = .draw 5 fun d => .ok ((.int d, false), sl) := drw_ok (m := 5) (by decide) (by decide)
theorem drw6 {sl : Sl} : drw .orc (.int 6) sl = .draw 6 fun d => .ok ((.int d, false), sl) := drw_ok (m := 6) (by decide) (by decide)
abbrev pSl (m : Nat) (ds : List (Nat × Nat)) (os : List Nat) (gs : List (Nat × Nat)) (a5 a6 a7 a8 a9 a10 : Option R) : Sl := [some (.orc, false), some (.int (m : Int), false), some (.lst (ds.map pW), true), some (.lst (os.map iW), true), some (.lst (gs.map pW), true), a5, a6, a7, a8, a9, a10, none, none, none, none]
abbrev pSl' (m : Nat) (ds : List W) (os : List Nat) (gs : List (Nat × Nat)) (a5 a6 a7 a8 a9 a10 : Option R) : Sl := [some (.orc, false), some (.int (m : Int), false), some (.lst ds, true), some (.lst (os.map iW), true), some (.lst (gs.map pW), true), a5, a6, a7, a8, a9, a10, none, none, none, none]
structure PI (m i : Nat) (ds : List (Nat × Nat)) (os : List Nat) (gs : List (Nat × Nat)) : Prop where
  un : Under m ds
  dl : ds.length ≤ 7 * i
  ol : os.length = i
  gl : gs.length = i
  ou : ∀ v ∈ os, v < m + ds.length
  go : ∀ g ∈ gs, g.1 ≤ g.2 ∧ g.2 < m
  sz : ∀ x, x < m + ds.length → sz m ds x ≤ 8 * 2 ^ i
def PInv (m b0 i : Nat) (sl : Sl) (b : Nat) : Prop := ∃ ds os gs a5 a6 a7 a8 a9 a10, sl = pSl m ds os gs a5 a6 a7 a8 a9 a10 ∧ PI m i ds os gs ∧ b0 ≤ b + 30 * i
theorem mapi (os : List Nat) (v : Nat) : os.map iW ++ [W.int (v : Int)] = (os ++ [v]).map iW := by rw [List.map_append]; rfl
theorem mapp (ds : List (Nat × Nat)) (p q : Nat) : ds.map pW ++ [W.tup [W.int (p : Int), W.int (q : Int)]] = (ds ++ [(p, q)]).map pW := by rw [List.map_append]; rfl
theorem isLst_l (xs : List W) : isLst (.lst xs) = true := rfl
theorem plan_tail {m b0 i n b4 u e k : Nat} {x : W} {ds ds1 gs : List (Nat × Nat)} {os : List Nat} {c9 a10 : Option R} (m5 : m ≤ 5) (hb0 : 150 ≤ b0) (hi : i < 4) (P : PI m i ds os gs) (he : u + e < m) (hk : k < 6) (un1 : Under m ds1) (dl1 : ds1.length ≤ ds.length + 1) (dl1' : ds.length ≤ ds1.length) (k3 : k ≤ 3 → ds1 = ds) (sz1 : ∀ x, x < m + ds1.length → sz m ds1 x ≤ 2 * (8 * 2 ^ i)) (hb4 : b0 ≤ b4 + 5 + 30 * i) :
    WB (exSs (callN fks cn (n + 5)) (ioOf fks) cn (.cons (.asg (.nm 10) (.conv false (.rng2 (.var 6) (.op .add (.var 7) (.con (.int 1)))))) (.cons (.ite (.op .gt (.var 8) (.con (.int 3))) (.cons (.app 3 (.draw (.var 0) (.op .add (.var 1) (.bi .len (.cons (.var 2) .nil))))) .nil) (.cons (.app 3 (.call 32 (.cons (.var 0) (.cons (.var 1) (.cons (.var 2) (.cons (.var 10) (.cons (.var 8) .nil))))))) .nil)) (.cons (.app 4 (.tup (.cons (.var 6) (.cons (.var 7) .nil)))) .nil))) (pSl m ds1 os gs (some (x, false)) (some (W.int ((u : Nat) : Int), false)) (some (W.int ((u + e : Nat) : Int), false)) (some (W.int ((k : Nat) : Int), false)) c9 a10)) b4 fun f b' => ∃ sl', f = .nx sl' ∧ PInv m b0 (i + 1) sl' b' := by
  refine ⟨?_⟩
  have hdl := P.dl
  -- items
  refine wstep01 (sl' := pSl m ds1 os gs (some (x, false)) (some (W.int ((u : Nat) : Int), false)) (some (W.int ((u + e : Nat) : Int), false)) (some (W.int ((k : Nat) : Int), false)) c9 (some (W.lst ((List.range' u (e + 1)).map iW), true))) ?_ ?_
  · have f1 : (fits62 (u : Int) && fits62 (((u + e : Nat) : Int) + 1)) = true := by
      rw [Bool.and_eq_true]
      exact ⟨fits_nat (by omega), by have := fits_nat (m := u + e + 1) (by omega); rw [Int.natCast_add (u + e) 1] at this; exact this⟩
    have e1 : (((u + e : Nat) : Int) + 1 - (u : Int)).toNat = e + 1 := by omega
    have hlen : ((List.range' u (e + 1)).map iW).length ≤ 100000 := by rw [List.length_map, List.length_range']; omega
    simp -implicitDefEqProofs (disch := first | omega | exact hlen) only [exSs, exS, evE, evL, evO, evI, sSeq, sAsg, sExp, sApp, sPut, sRet, sRetv, sIte, sPar, lPar, moveS, kOp, kChain, kIdx, kLst, Ev.kTup, kCon, kVar, kNot, kAnd, kOr, kIte, kBi, kCall, kSli, oInt, kNeg, kConv, lA, lH, lAnd, lOr, lArgs, ioTake, putBack, own, hd, isV, getAll, hget_val, hget_slot, T.bind_ok, fz, rd0, rdS, sett0, settS, setG_nm, setGs_nil, setGs_cons, setG_tp, cond_true, cond_false, boolOf, bopsI, op2, two_ii, subW, ltW, leW, gtW, geW, eqR, neR, yes, nay, biW, bi1, bi2, isR, isnotR, isT1, isI1, isB1, isS1, yes, isInst, lenW, List.map_cons, List.map_nil, List.cons_append, List.nil_append, List.replicate_succ, List.replicate_zero, Nat.reduceSub, Bool.not_true, Bool.not_false, ite_true, ite_false, iSeq, seqOf, List.headD_cons, List.tail_cons, guard_tt, bind_as, iR2, int2, f1, e1, rngL_eq, guard_sz]
  generalize hb5 : b4 = b5 at hb4 ⊢
  have p8 : 8 ≤ 2 * (8 * 2 ^ i) := by
    have : 1 ≤ 2 ^ i := Nat.one_le_two_pow
    omega
  have hol := P.ol
  have holn : (os.map iW).length ≤ 100000 := by rw [List.length_map]; omega
  -- outs
  refine wstep0 (T.wb_mono (Q := fun (f : Fl) (b6 : Nat) => ∃ ds2 v c10, Under m ds2 ∧ ds2.length ≤ ds.length + 7 ∧ ds1.length ≤ ds2.length ∧ v < m + ds2.length ∧ (∀ x, x < m + ds2.length → sz m ds2 x ≤ 2 * (8 * 2 ^ i)) ∧ b5 ≤ b6 + 21 ∧ f = Fl.nx (pSl m ds2 (os ++ [v]) gs (some (x, false)) (some (W.int ((u : Nat) : Int), false)) (some (W.int ((u + e : Nat) : Int), false)) (some (W.int ((k : Nat) : Int), false)) c9 c10)) ?_ ?_)
  rotate_left
  · by_cases kg : 3 < k
    · have ek : decide ((3 : Int) < (k : Int)) = true := decide_eq_true (by omega)
      have esum : (m : Int) + ((ds1.length : Nat) : Int) = ((m + ds1.length : Nat) : Int) := by omega
      simp -implicitDefEqProofs (disch := omega) only [exSs, exS, evE, evL, evO, evI, sSeq, sAsg, sExp, sApp, sPut, sRet, sRetv, sIte, sPar, lPar, moveS, kOp, kChain, kIdx, kLst, Ev.kTup, kCon, kVar, kNot, kAnd, kOr, kIte, kBi, kCall, kSli, oInt, kNeg, kConv, lA, lH, lAnd, lOr, lArgs, ioTake, putBack, own, hd, isV, getAll, hget_val, hget_slot, T.bind_ok, fz, rd0, rdS, sett0, settS, setG_nm, setGs_nil, setGs_cons, setG_tp, cond_true, cond_false, boolOf, bopsI, op2, two_ii, subW, ltW, leW, gtW, geW, eqR, neR, yes, nay, biW, bi1, bi2, isR, isnotR, isT1, isI1, isB1, isS1, yes, isInst, lenW, List.map_cons, List.map_nil, List.cons_append, List.nil_append, List.replicate_succ, List.replicate_zero, Nat.reduceSub, Bool.not_true, Bool.not_false, ite_true, ite_false, iSeq, seqOf, List.headD_cons, List.tail_cons, guard_tt, bind_as, ek, List.length_map, esum, kDraw_eq, drw_ok, draw_bind, isLst_l, io32]
      refine wb_draw' (by omega) fun v hv => ?_
      simp -implicitDefEqProofs (disch := first | omega | exact holn) only [exSs, exS, evE, evL, evO, evI, sSeq, sAsg, sExp, sApp, sPut, sRet, sRetv, sIte, sPar, lPar, moveS, kOp, kChain, kIdx, kLst, Ev.kTup, kCon, kVar, kNot, kAnd, kOr, kIte, kBi, kCall, kSli, oInt, kNeg, kConv, lA, lH, lAnd, lOr, lArgs, ioTake, putBack, own, hd, isV, getAll, hget_val, hget_slot, T.bind_ok, fz, rd0, rdS, sett0, settS, setG_nm, setGs_nil, setGs_cons, setG_tp, cond_true, cond_false, boolOf, bopsI, op2, two_ii, subW, ltW, leW, gtW, geW, eqR, neR, yes, nay, biW, bi1, bi2, isR, isnotR, isT1, isI1, isB1, isS1, yes, isInst, lenW, List.map_cons, List.map_nil, List.cons_append, List.nil_append, List.replicate_succ, List.replicate_zero, Nat.reduceSub, Bool.not_true, Bool.not_false, ite_true, ite_false, iSeq, seqOf, List.headD_cons, List.tail_cons, guard_tt, bind_as, appL, guard_lt, guard_sz, List.length_cons, List.length_nil, mapi, mapp]
      exact ⟨ds1, v, _, un1, by omega, Nat.le_refl _, hv, sz1, by omega, rfl⟩
    · have ek : decide ((3 : Int) < (k : Int)) = false := decide_eq_false (by omega)
      have hd1 := k3 (by omega)
      subst hd1
      simp -implicitDefEqProofs only [exSs, exS, evE, evL, evO, evI, sSeq, sAsg, sExp, sApp, sPut, sRet, sRetv, sIte, sPar, lPar, moveS, kOp, kChain, kIdx, kLst, Ev.kTup, kCon, kVar, kNot, kAnd, kOr, kIte, kBi, kCall, kSli, oInt, kNeg, kConv, lA, lH, lAnd, lOr, lArgs, ioTake, putBack, own, hd, isV, getAll, hget_val, hget_slot, T.bind_ok, fz, rd0, rdS, sett0, settS, setG_nm, setGs_nil, setGs_cons, setG_tp, cond_true, cond_false, boolOf, bopsI, op2, two_ii, subW, ltW, leW, gtW, geW, eqR, neR, yes, nay, biW, bi1, bi2, isR, isnotR, isT1, isI1, isB1, isS1, yes, isInst, lenW, List.map_cons, List.map_nil, List.cons_append, List.nil_append, List.replicate_succ, List.replicate_zero, Nat.reduceSub, Bool.not_true, Bool.not_false, ite_true, ite_false, iSeq, seqOf, List.headD_cons, List.tail_cons, guard_tt, bind_as, ek, isLst_l, io32]
      have li : (List.range' u (e + 1)).length = e + 1 := List.length_range'
      have hn7 : nb (e + 1) ≤ 7 := by unfold nb; omega
      refine T.wb_bind.mpr (made_ok 5 m k (List.range' u (e + 1)) ds1 n b5 _ (by rw [li]; omega) (by rw [li]; omega) (by rw [li]; omega) (fun x hx => ?_) m5 (by rw [li]; omega) (by omega) P.un (by rw [li]; omega) fun ds2 v b6 md hb6 => ?_)
      · have := List.mem_range'_1.mp hx
        omega
      rw [li] at md hb6
      obtain ⟨new, en, ln⟩ := md.ex
      have l2 : ds2.length = ds1.length + new.length := by rw [en, List.length_append]
      simp -implicitDefEqProofs (disch := first | omega | exact holn) only [exSs, exS, evE, evL, evO, evI, sSeq, sAsg, sExp, sApp, sPut, sRet, sRetv, sIte, sPar, lPar, moveS, kOp, kChain, kIdx, kLst, Ev.kTup, kCon, kVar, kNot, kAnd, kOr, kIte, kBi, kCall, kSli, oInt, kNeg, kConv, lA, lH, lAnd, lOr, lArgs, ioTake, putBack, own, hd, isV, getAll, hget_val, hget_slot, T.bind_ok, fz, rd0, rdS, sett0, settS, setG_nm, setGs_nil, setGs_cons, setG_tp, cond_true, cond_false, boolOf, bopsI, op2, two_ii, subW, ltW, leW, gtW, geW, eqR, neR, yes, nay, biW, bi1, bi2, isR, isnotR, isT1, isI1, isB1, isS1, yes, isInst, lenW, List.map_cons, List.map_nil, List.cons_append, List.nil_append, List.replicate_succ, List.replicate_zero, Nat.reduceSub, Bool.not_true, Bool.not_false, ite_true, ite_false, iSeq, seqOf, List.headD_cons, List.tail_cons, guard_tt, bind_as, appL, guard_lt, guard_sz, List.length_cons, List.length_nil, mapi, mapp]
      refine ⟨ds2, v, _, md.un, by omega, by omega, md.lt, fun x hx => ?_, by omega, rfl⟩
      by_cases e2 : x < m + ds1.length
      · rw [en, sz_old e2]
        exact sz1 x e2
      · exact Nat.le_trans (md.s2 x (by omega) hx) p8
  rintro f b6 ⟨ds2, v, c10, un2, dl2, dl2', hv, sz2, hb6, rfl⟩
  refine ⟨_, rfl, ?_⟩
  have hgl := P.gl
  have hgln : (gs.map pW).length ≤ 100000 := by rw [List.length_map]; omega
  simp -implicitDefEqProofs (disch := first | omega | exact hgln) only [exSs, exS, evE, evL, evO, evI, sSeq, sAsg, sExp, sApp, sPut, sRet, sRetv, sIte, sPar, lPar, moveS, kOp, kChain, kIdx, kLst, Ev.kTup, kCon, kVar, kNot, kAnd, kOr, kIte, kBi, kCall, kSli, oInt, kNeg, kConv, lA, lH, lAnd, lOr, lArgs, ioTake, putBack, own, hd, isV, getAll, hget_val, hget_slot, T.bind_ok, fz, rd0, rdS, sett0, settS, setG_nm, setGs_nil, setGs_cons, setG_tp, cond_true, cond_false, boolOf, bopsI, op2, two_ii, subW, ltW, leW, gtW, geW, eqR, neR, yes, nay, biW, bi1, bi2, isR, isnotR, isT1, isI1, isB1, isS1, yes, isInst, lenW, List.map_cons, List.map_nil, List.cons_append, List.nil_append, List.replicate_succ, List.replicate_zero, Nat.reduceSub, Bool.not_true, Bool.not_false, ite_true, ite_false, iSeq, seqOf, List.headD_cons, List.tail_cons, guard_tt, bind_as, isLst_l, appL, guard_lt, guard_sz, List.length_cons, List.length_nil, mapi, mapp]
  refine ⟨_, rfl, ds2, os ++ [v], gs ++ [(u, u + e)], _, _, _, _, _, _, rfl, ⟨un2, by omega, by rw [List.length_append, hol]; rfl, by rw [List.length_append, hgl]; rfl, fun y hy => ?_, fun g hg => ?_, fun y hy => ?_⟩, by omega⟩
  · rcases List.mem_append.mp hy with h | h
    · have := P.ou y h
      omega
    · rw [List.mem_singleton.mp h]
      exact hv
  · rcases List.mem_append.mp hg with h | h
    · exact P.go g h
    · rw [List.mem_singleton.mp h]
      exact ⟨Nat.le_add_right .., he⟩
  · have := sz2 y hy
    rw [Nat.pow_succ]
    omega
theorem plan_turn {m b0 i n b : Nat} {x : W} {sl : Sl} (m1 : 1 ≤ m) (m5 : m ≤ 5) (hb0 : 150 ≤ b0) (hi : i < 4) (h : PInv m b0 i sl b) :
    (sTurn (.nm 5) (exSs (callN fks cn (n + 5)) (ioOf fks) cn (.cons (.asg (.nm 6) (.draw (.var 0) (.var 1))) (.cons (.asg (.nm 7) (.op .add (.var 6) (.draw (.var 0) (.op .sub (.var 1) (.var 6))))) (.cons (.asg (.nm 8) (.draw (.var 0) (.con (.int 6)))) (.cons (.ite (.op .eq (.var 8) (.con (.int 4))) (.cons (.asg (.nm 9) (.op .add (.var 1) (.bi .len (.cons (.var 2) .nil)))) (.cons (.app 2 (.tup (.cons (.draw (.var 0) (.var 9)) (.cons (.draw (.var 0) (.var 9)) .nil)))) .nil)) .nil) (.cons (.asg (.nm 10) (.conv false (.rng2 (.var 6) (.op .add (.var 7) (.con (.int 1)))))) (.cons (.ite (.op .gt (.var 8) (.con (.int 3))) (.cons (.app 3 (.draw (.var 0) (.op .add (.var 1) (.bi .len (.cons (.var 2) .nil))))) .nil) (.cons (.app 3 (.call 32 (.cons (.var 0) (.cons (.var 1) (.cons (.var 2) (.cons (.var 10) (.cons (.var 8) .nil))))))) .nil)) (.cons (.app 4 (.tup (.cons (.var 6) (.cons (.var 7) .nil)))) .nil)))))))) x sl).wb b fun f b' => ∃ sl', f = .nx sl' ∧ PInv m b0 (i + 1) sl' b' := by
  obtain ⟨ds, os, gs, a5, a6, a7, a8, a9, a10, rfl, P, hb⟩ := h
  show (exSs (callN fks cn (n + 5)) (ioOf fks) cn _ (pSl m ds os gs (some (x, false)) a6 a7 a8 a9 a10)).wb b _
  have hdl := P.dl
  -- first
  refine wstep0 (T.wb_mono (Q := fun (f : Fl) (b1 : Nat) => ∃ u, u < m ∧ b ≤ b1 + 1 ∧ f = Fl.nx (pSl m ds os gs (some (x, false)) (some (W.int ((u : Nat) : Int), false)) a7 a8 a9 a10)) ?_ ?_)
  rotate_left
  · simp -implicitDefEqProofs (disch := omega) only [exSs, exS, evE, evL, evO, evI, sSeq, sAsg, sExp, sApp, sPut, sRet, sRetv, sIte, sPar, lPar, moveS, kOp, kChain, kIdx, kLst, Ev.kTup, kCon, kVar, kNot, kAnd, kOr, kIte, kBi, kCall, kSli, oInt, kNeg, kConv, lA, lH, lAnd, lOr, lArgs, ioTake, putBack, own, hd, isV, getAll, hget_val, hget_slot, T.bind_ok, fz, rd0, rdS, sett0, settS, setG_nm, setGs_nil, setGs_cons, setG_tp, cond_true, cond_false, boolOf, bopsI, op2, two_ii, subW, ltW, leW, gtW, geW, eqR, neR, yes, nay, biW, bi1, bi2, isR, isnotR, isT1, isI1, isB1, isS1, yes, isInst, lenW, List.map_cons, List.map_nil, List.cons_append, List.nil_append, List.replicate_succ, List.replicate_zero, Nat.reduceSub, Bool.not_true, Bool.not_false, ite_true, ite_false, iSeq, seqOf, List.headD_cons, List.tail_cons, guard_tt, bind_as, kDraw_eq, drw_ok, draw_bind]
    refine wb_draw' (by omega) fun d hdd => ?_
    exact ⟨d, hdd, by omega, rfl⟩
  rintro f b1 ⟨u, hu, hb1, rfl⟩
  refine ⟨_, rfl, ?_⟩
  -- last
  have esub : (m : Int) - (u : Int) = ((m - u : Nat) : Int) := by omega
  refine wstep0 (T.wb_mono (Q := fun (f : Fl) (b2 : Nat) => ∃ e, u + e < m ∧ b1 ≤ b2 + 1 ∧ f = Fl.nx (pSl m ds os gs (some (x, false)) (some (W.int ((u : Nat) : Int), false)) (some (W.int ((u + e : Nat) : Int), false)) a8 a9 a10)) ?_ ?_)
  rotate_left
  · simp -implicitDefEqProofs (disch := omega) only [exSs, exS, evE, evL, evO, evI, sSeq, sAsg, sExp, sApp, sPut, sRet, sRetv, sIte, sPar, lPar, moveS, kOp, kChain, kIdx, kLst, Ev.kTup, kCon, kVar, kNot, kAnd, kOr, kIte, kBi, kCall, kSli, oInt, kNeg, kConv, lA, lH, lAnd, lOr, lArgs, ioTake, putBack, own, hd, isV, getAll, hget_val, hget_slot, T.bind_ok, fz, rd0, rdS, sett0, settS, setG_nm, setGs_nil, setGs_cons, setG_tp, cond_true, cond_false, boolOf, bopsI, op2, two_ii, subW, ltW, leW, gtW, geW, eqR, neR, yes, nay, biW, bi1, bi2, isR, isnotR, isT1, isI1, isB1, isS1, yes, isInst, lenW, List.map_cons, List.map_nil, List.cons_append, List.nil_append, List.replicate_succ, List.replicate_zero, Nat.reduceSub, Bool.not_true, Bool.not_false, ite_true, ite_false, iSeq, seqOf, List.headD_cons, List.tail_cons, guard_tt, bind_as, kDraw_eq, esub, drw_ok, draw_bind]
    refine wb_draw' (by omega) fun d hdd => ?_
    exact ⟨d, by omega, by omega, by rw [Int.natCast_add]⟩
  rintro f b2 ⟨e, he, hb2, rfl⟩
  refine ⟨_, rfl, ?_⟩
  -- kind
  refine wstep0 (T.wb_mono (Q := fun (f : Fl) (b3 : Nat) => ∃ k, k < 6 ∧ b2 ≤ b3 + 1 ∧ f = Fl.nx (pSl m ds os gs (some (x, false)) (some (W.int ((u : Nat) : Int), false)) (some (W.int ((u + e : Nat) : Int), false)) (some (W.int ((k : Nat) : Int), false)) a9 a10)) ?_ ?_)
  rotate_left
  · simp -implicitDefEqProofs (disch := omega) only [exSs, exS, evE, evL, evO, evI, sSeq, sAsg, sExp, sApp, sPut, sRet, sRetv, sIte, sPar, lPar, moveS, kOp, kChain, kIdx, kLst, Ev.kTup, kCon, kVar, kNot, kAnd, kOr, kIte, kBi, kCall, kSli, oInt, kNeg, kConv, lA, lH, lAnd, lOr, lArgs, ioTake, putBack, own, hd, isV, getAll, hget_val, hget_slot, T.bind_ok, fz, rd0, rdS, sett0, settS, setG_nm, setGs_nil, setGs_cons, setG_tp, cond_true, cond_false, boolOf, bopsI, op2, two_ii, subW, ltW, leW, gtW, geW, eqR, neR, yes, nay, biW, bi1, bi2, isR, isnotR, isT1, isI1, isB1, isS1, yes, isInst, lenW, List.map_cons, List.map_nil, List.cons_append, List.nil_append, List.replicate_succ, List.replicate_zero, Nat.reduceSub, Bool.not_true, Bool.not_false, ite_true, ite_false, iSeq, seqOf, List.headD_cons, List.tail_cons, guard_tt, bind_as, kDraw_eq, drw6, draw_bind]
    refine wb_draw' (by omega) fun d hdd => ?_
    exact ⟨d, hdd, by omega, rfl⟩
  rintro f b3 ⟨k, hk, hb3, rfl⟩
  refine ⟨_, rfl, ?_⟩
  -- one deed more
  refine wstep0 (T.wb_mono (Q := fun (f : Fl) (b4 : Nat) => ∃ ds1 a9', Under m ds1 ∧ ds1.length ≤ ds.length + 1 ∧ ds.length ≤ ds1.length ∧ (k ≤ 3 → ds1 = ds) ∧ (∀ x, x < m + ds1.length → sz m ds1 x ≤ 2 * (8 * 2 ^ i)) ∧ b3 ≤ b4 + 2 ∧ f = Fl.nx (pSl m ds1 os gs (some (x, false)) (some (W.int ((u : Nat) : Int), false)) (some (W.int ((u + e : Nat) : Int), false)) (some (W.int ((k : Nat) : Int), false)) a9' a10)) ?_ ?_)
  rotate_left
  · have hsz : ∀ x, x < m + ds.length → sz m ds x ≤ 2 * (8 * 2 ^ i) := fun x hx => by have := P.sz x hx; omega
    by_cases k4 : k = 4
    · have ek : eqI ((k : Nat) : Int) 4 = true := by rw [eqI_dec]; exact decide_eq_true (by omega)
      have esum : (m : Int) + ((ds.length : Nat) : Int) = ((m + ds.length : Nat) : Int) := by omega
      simp -implicitDefEqProofs (disch := omega) only [exSs, exS, evE, evL, evO, evI, sSeq, sAsg, sExp, sApp, sPut, sRet, sRetv, sIte, sPar, lPar, moveS, kOp, kChain, kIdx, kLst, Ev.kTup, kCon, kVar, kNot, kAnd, kOr, kIte, kBi, kCall, kSli, oInt, kNeg, kConv, lA, lH, lAnd, lOr, lArgs, ioTake, putBack, own, hd, isV, getAll, hget_val, hget_slot, T.bind_ok, fz, rd0, rdS, sett0, settS, setG_nm, setGs_nil, setGs_cons, setG_tp, cond_true, cond_false, boolOf, bopsI, op2, two_ii, subW, ltW, leW, gtW, geW, eqR, neR, yes, nay, biW, bi1, bi2, isR, isnotR, isT1, isI1, isB1, isS1, yes, isInst, lenW, List.map_cons, List.map_nil, List.cons_append, List.nil_append, List.replicate_succ, List.replicate_zero, Nat.reduceSub, Bool.not_true, Bool.not_false, ite_true, ite_false, iSeq, seqOf, List.headD_cons, List.tail_cons, guard_tt, bind_as, eqW_ii, ek, List.length_map, esum, kDraw_eq, drw_ok, draw_bind, isLst_l]
      refine wb_draw' (by omega) fun p hp => ?_
      refine wb_draw' (by omega) fun q hq => ?_
      have hlen : (ds.map pW).length ≤ 100000 := by rw [List.length_map]; omega
      simp -implicitDefEqProofs (disch := first | omega | exact hlen) only [exSs, exS, evE, evL, evO, evI, sSeq, sAsg, sExp, sApp, sPut, sRet, sRetv, sIte, sPar, lPar, moveS, kOp, kChain, kIdx, kLst, Ev.kTup, kCon, kVar, kNot, kAnd, kOr, kIte, kBi, kCall, kSli, oInt, kNeg, kConv, lA, lH, lAnd, lOr, lArgs, ioTake, putBack, own, hd, isV, getAll, hget_val, hget_slot, T.bind_ok, fz, rd0, rdS, sett0, settS, setG_nm, setGs_nil, setGs_cons, setG_tp, cond_true, cond_false, boolOf, bopsI, op2, two_ii, subW, ltW, leW, gtW, geW, eqR, neR, yes, nay, biW, bi1, bi2, isR, isnotR, isT1, isI1, isB1, isS1, yes, isInst, lenW, List.map_cons, List.map_nil, List.cons_append, List.nil_append, List.replicate_succ, List.replicate_zero, Nat.reduceSub, Bool.not_true, Bool.not_false, ite_true, ite_false, iSeq, seqOf, List.headD_cons, List.tail_cons, guard_tt, bind_as, appL, guard_lt, guard_sz, List.length_cons, List.length_nil, mapi, mapp]
      refine ⟨ds ++ [(p, q)], _, under_snoc P.un hp hq, by rw [List.length_append]; exact Nat.le_refl _, by rw [List.length_append]; omega, fun z => by omega, fun x hx => ?_, by omega, rfl⟩
      rw [List.length_append, List.length_singleton] at hx
      by_cases e1 : x = m + ds.length
      · rw [e1, sz_new]
        have := P.sz p hp
        have := P.sz q hq
        show sz m ds p + sz m ds q ≤ _
        omega
      · rw [sz_old (by omega)]
        exact hsz x (by omega)
    · have ek : eqI ((k : Nat) : Int) 4 = false := by rw [eqI_dec]; exact decide_eq_false (by omega)
      simp -implicitDefEqProofs only [exSs, exS, evE, evL, evO, evI, sSeq, sAsg, sExp, sApp, sPut, sRet, sRetv, sIte, sPar, lPar, moveS, kOp, kChain, kIdx, kLst, Ev.kTup, kCon, kVar, kNot, kAnd, kOr, kIte, kBi, kCall, kSli, oInt, kNeg, kConv, lA, lH, lAnd, lOr, lArgs, ioTake, putBack, own, hd, isV, getAll, hget_val, hget_slot, T.bind_ok, fz, rd0, rdS, sett0, settS, setG_nm, setGs_nil, setGs_cons, setG_tp, cond_true, cond_false, boolOf, bopsI, op2, two_ii, subW, ltW, leW, gtW, geW, eqR, neR, yes, nay, biW, bi1, bi2, isR, isnotR, isT1, isI1, isB1, isS1, yes, isInst, lenW, List.map_cons, List.map_nil, List.cons_append, List.nil_append, List.replicate_succ, List.replicate_zero, Nat.reduceSub, Bool.not_true, Bool.not_false, ite_true, ite_false, iSeq, seqOf, List.headD_cons, List.tail_cons, guard_tt, bind_as, eqW_ii, ek]
      exact ⟨ds, _, P.un, by omega, Nat.le_refl _, fun _ => rfl, hsz, by omega, rfl⟩
  rintro f b4 ⟨ds1, c9, un1, dl1, dl1', k3, sz1, hb4, rfl⟩
  refine ⟨_, rfl, ?_⟩
  have hb4' : b0 ≤ b4 + 5 + 30 * i := by omega
  refine WB.h ?_
  exact plan_tail m5 hb0 hi P he hk un1 dl1 dl1' k3 sz1 hb4'
theorem plan_wb {n b : Nat} {Q : R × List W → Nat → Prop} (hb : 200 ≤ b) (hQ : ∀ (p : Pn) gs b', p.Ok → p.Sm → p.ds.length ≤ 28 → 1 ≤ p.outs.length → gs.length = p.outs.length → (∀ g ∈ gs, Good p g) → b ≤ b' + 130 → Q ((.tup [plW p, glW gs], false), []) b') :
    (callN fks cn (n + 6) 33 [(.orc, false)]).wb b Q := by
  rw [callN_code rfl rfl]
  refine wstep (T.wb_mono (Q := fun (f : Fl) (b1 : Nat) => ∃ m, 1 ≤ m ∧ m ≤ 5 ∧ b ≤ b1 + 1 ∧ f = Fl.nx (pSl m [] [] [] none none none none none none)) ?_ ?_)
  rotate_left
  · simp -implicitDefEqProofs (disch := omega) only [exSs, exS, evE, evL, evO, evI, sSeq, sAsg, sExp, sApp, sPut, sRet, sRetv, sIte, sPar, lPar, moveS, kOp, kChain, kIdx, kLst, Ev.kTup, kCon, kVar, kNot, kAnd, kOr, kIte, kBi, kCall, kSli, oInt, kNeg, kConv, lA, lH, lAnd, lOr, lArgs, ioTake, putBack, own, hd, isV, getAll, hget_val, hget_slot, T.bind_ok, fz, rd0, rdS, sett0, settS, setG_nm, setGs_nil, setGs_cons, setG_tp, cond_true, cond_false, boolOf, bopsI, op2, two_ii, subW, ltW, leW, gtW, geW, eqR, neR, yes, nay, biW, bi1, bi2, isR, isnotR, isT1, isI1, isB1, isS1, yes, isInst, lenW, List.map_cons, List.map_nil, List.cons_append, List.nil_append, List.replicate_succ, List.replicate_zero, Nat.reduceSub, Bool.not_true, Bool.not_false, ite_true, ite_false, iSeq, seqOf, List.headD_cons, List.tail_cons, guard_tt, bind_as, kDraw_eq, drw5, draw_bind]
    refine wb_draw' (by omega) fun d hdd => ?_
    refine ⟨1 + d, by omega, by omega, by omega, ?_⟩
    rw [show W.int (1 + (d : Int)) = W.int ((1 + d : Nat) : Int) by rw [Int.natCast_add]; rfl]
    rfl
  rintro f b1 ⟨m, m1, m5, hb1, rfl⟩
  refine ⟨_, rfl, ?_⟩
  refine wstep (T.wb_mono (Q := fun (f : Fl) (b2 : Nat) => ∃ i ds os gs a5 a6 a7 a8 a9 a10, 1 ≤ i ∧ i ≤ 4 ∧ PI m i ds os gs ∧ b1 ≤ b2 + 121 ∧ f = Fl.nx (pSl m ds os gs a5 a6 a7 a8 a9 a10)) ?_ ?_)
  rotate_left
  · rw [exS, sFor]
    refine T.wb_bind.mpr (T.wb_mono (Q := fun (p : List W × Sl) (b3 : Nat) => ∃ d, d < 4 ∧ b1 ≤ b3 + 1 ∧ p = (rngL 0 (d + 1), pSl m [] [] [] none none none none none none)) ?_ ?_)
    rotate_left
    · simp -implicitDefEqProofs (disch := omega) only [exSs, exS, evE, evL, evO, evI, sSeq, sAsg, sExp, sApp, sPut, sRet, sRetv, sIte, sPar, lPar, moveS, kOp, kChain, kIdx, kLst, Ev.kTup, kCon, kVar, kNot, kAnd, kOr, kIte, kBi, kCall, kSli, oInt, kNeg, kConv, lA, lH, lAnd, lOr, lArgs, ioTake, putBack, own, hd, isV, getAll, hget_val, hget_slot, T.bind_ok, fz, rd0, rdS, sett0, settS, setG_nm, setGs_nil, setGs_cons, setG_tp, cond_true, cond_false, boolOf, bopsI, op2, two_ii, subW, ltW, leW, gtW, geW, eqR, neR, yes, nay, biW, bi1, bi2, isR, isnotR, isT1, isI1, isB1, isS1, yes, isInst, lenW, List.map_cons, List.map_nil, List.cons_append, List.nil_append, List.replicate_succ, List.replicate_zero, Nat.reduceSub, Bool.not_true, Bool.not_false, ite_true, ite_false, iSeq, seqOf, List.headD_cons, List.tail_cons, guard_tt, bind_as, iR1, kDraw_eq, drw4, draw_bind]
      refine wb_draw' (by omega) fun d hdd => ?_
      have f1 : fits62 (1 + (d : Int)) = true := by have := fits_nat (m := 1 + d) (by omega); rw [Int.natCast_add] at this; exact this
      have e1 : (1 + (d : Int)).toNat = d + 1 := by omega
      simp -implicitDefEqProofs only [f1, e1, guard_tt]
      exact ⟨d, hdd, by omega, rfl⟩
    rintro p b3 ⟨d, hdd, hb3, rfl⟩
    dsimp only
    refine for_wb (P := fun i sl b' => PInv m b3 i sl b') (k := 0) ⟨[], [], [], none, none, none, none, none, none, rfl, ⟨True.intro, Nat.zero_le _, rfl, rfl, fun _ h => (List.not_mem_nil h).elim, fun _ h => (List.not_mem_nil h).elim, fun x hx => ?_⟩, by omega⟩ (fun i x sl b' ex hp => ?_) (fun sl b' hp => ?_)
    · rw [sz_leaf (by simpa using hx)]
      decide
    · rw [Nat.zero_add] at hp ⊢
      have il : i < 4 := by
        have := (List.getElem?_eq_some_iff.mp ex).1
        rw [rngL0, List.length_map, List.length_range] at this
        omega
      exact plan_turn m1 m5 (by omega) il hp
    · rw [Nat.zero_add, rngL0, List.length_map, List.length_range] at hp
      obtain ⟨ds, os, gs, a5, a6, a7, a8, a9, a10, rfl, P, hb'⟩ := hp
      exact ⟨d + 1, ds, os, gs, a5, a6, a7, a8, a9, a10, by omega, by omega, P, by omega, rfl⟩
  rintro f b2 ⟨i, ds, os, gs, a5, a6, a7, a8, a9, a10, i1, i4, P, hb2, rfl⟩
  refine ⟨_, rfl, ?_⟩
  have hdl := P.dl
  simp -implicitDefEqProofs only [exSs, exS, evE, evL, evO, evI, sSeq, sAsg, sExp, sApp, sPut, sRet, sRetv, sIte, sPar, lPar, moveS, kOp, kChain, kIdx, kLst, Ev.kTup, kCon, kVar, kNot, kAnd, kOr, kIte, kBi, kCall, kSli, oInt, kNeg, kConv, lA, lH, lAnd, lOr, lArgs, ioTake, putBack, own, hd, isV, getAll, hget_val, hget_slot, T.bind_ok, fz, rd0, rdS, sett0, settS, setG_nm, setGs_nil, setGs_cons, setG_tp, cond_true, cond_false, boolOf, bopsI, op2, two_ii, subW, ltW, leW, gtW, geW, eqR, neR, yes, nay, biW, bi1, bi2, isR, isnotR, isT1, isI1, isB1, isS1, yes, isInst, lenW, List.map_cons, List.map_nil, List.cons_append, List.nil_append, List.replicate_succ, List.replicate_zero, Nat.reduceSub, Bool.not_true, Bool.not_false, ite_true, ite_false, iSeq, seqOf, List.headD_cons, List.tail_cons, guard_tt, bind_as, tupleL]
  refine hQ ⟨m, ds, os⟩ gs b2 ⟨m1, m5, P.un, by show ds.length ≤ 60; omega, by show os.length ≤ 4; rw [P.ol]; exact i4, P.ou⟩ (fun v hv => ?_) (by show ds.length ≤ 28; omega) (by show 1 ≤ os.length; rw [P.ol]; exact i1) (by show gs.length = os.length; rw [P.ol, P.gl]) P.go (by omega)
  have := P.sz v hv
  have e : 2 ^ i ≤ 2 ^ 4 := Nat.pow_le_pow_right (by decide) i4
  show sz m ds v ≤ 2000
  omega
end Ov
end
end
section
set_option Elab.async false
set_option linter.all false
set_option maxRecDepth 100000
set_option maxHeartbeats 1000000
noncomputable section
namespace Ov
open PySem L2 Ev
set_option autoImplicit false
/-! ### what is printed -/
def prs (l : List (Nat × Nat)) : List PyData := l.map fun d => .tuple (nats [d.1, d.2])
theorem toD_pW (d : Nat × Nat) : toD (pW d) = some (.tuple (nats [d.1, d.2])) := toD_wW [d.1, d.2]
theorem toDs_prs : ∀ l : List (Nat × Nat), toDs (l.map pW) = some (prs l)
  | [] => by rw [prs, List.map_nil, List.map_nil, toDs]
  | d :: l => by
    have := toDs_prs l
    unfold prs at this ⊢
    rw [List.map_cons, List.map_cons, toDs, this, toD_pW]
theorem dep_prs : ∀ l : List (Nat × Nat), PyData.depthAll (prs l) ≤ 1
  | [] => by rw [prs, List.map_nil, PyData.depthAll]; decide
  | d :: l => by
    have := dep_prs l
    unfold prs at this ⊢
    rw [List.map_cons, PyData.depthAll, PyData.depth, dep_ints']
    omega
theorem show_prs : ∀ l : List (Nat × Nat), (∀ d ∈ l, d.1 < 1000 ∧ d.2 < 1000) → PyData.showableAll (prs l) = true ∧ PyData.hasDictAll (prs l) = false ∧ roomDs (prs l) ≤ 3000 * l.length
  | [], _ => by rw [prs, List.map_nil, PyData.showableAll, PyData.hasDictAll, roomDs]; exact ⟨rfl, rfl, Nat.zero_le _⟩
  | d :: l, h => by
    have hd1 := h d (List.mem_cons_self ..)
    have ih := show_prs l fun m hm => h m (List.mem_cons_of_mem _ hm)
    obtain ⟨a, b, c⟩ := show_ints [d.1, d.2] (fun n hn => by
      rcases List.mem_cons.mp hn with e | e
      · omega
      · rw [List.mem_singleton.mp e]; exact hd1.2)
    unfold prs at ih ⊢
    rw [List.map_cons, PyData.showableAll, PyData.hasDictAll, roomDs, ih.1, ih.2.1, PyData.showable, PyData.hasDict, roomD, List.length_cons, a, b]
    exact ⟨rfl, rfl, by have := ih.2.2; simp only [List.length_cons, List.length_nil] at c; omega⟩
theorem repr_gl {gs : List (Nat × Nat)} (h : ∀ d ∈ gs, d.1 < 1000 ∧ d.2 < 1000) (hl : gs.length ≤ 60) : toD (glW gs) = some (.tuple (prs gs)) ∧ reprOk (.tuple (prs gs)) = true := by
  refine ⟨by rw [glW, toD, toDs_prs]; rfl, ?_⟩
  obtain ⟨a, b, c⟩ := show_prs gs h
  have dp := dep_prs gs
  unfold reprOk
  rw [PyData.showable, PyData.hasDict, a, b, PyData.depth, roomD, Bool.true_and, Bool.and_eq_true, Bool.and_eq_true]
  exact ⟨⟨decide_eq_true (Nat.le_trans (show roomDs (prs gs) + 3 ≤ 3000000 by omega) (by decide)), rfl⟩, decide_eq_true (by omega)⟩
theorem under_lt : ∀ {k : Nat} {ds : List (Nat × Nat)}, Under k ds → ∀ d ∈ ds, d.1 < k + ds.length ∧ d.2 < k + ds.length
  | k, x :: ds, hu, d, hm => by
    rw [List.length_cons]
    rcases List.mem_cons.mp hm with e | e
    · rw [e]
      have h1 := hu.1
      have h2 := hu.2.1
      omega
    · have := under_lt hu.2.2 d e
      omega
theorem repr_pl {p : Pn} (h : p.Ok) : toD (plW p) = some (.tuple [.int (p.many : Int), .tuple (prs p.ds), .tuple (nats p.outs)]) ∧ reprOk (.tuple [.int (p.many : Int), .tuple (prs p.ds), .tuple (nats p.outs)]) = true := by
  have m1 := h.m1
  have m2 := h.m2
  have dl := h.dl
  have ol := h.ol
  constructor
  · rw [plW, toD, toDs, toDs, toDs, toDs, toD, toD, toDs_prs, toDs_nats, iW, toD]
    rfl
  · obtain ⟨a, b, c⟩ := show_prs p.ds (fun d hm => by have := under_lt h.un d hm; omega)
    obtain ⟨a', b', c'⟩ := show_ints p.outs (fun v hv => by have := h.ou v hv; omega)
    have dp := dep_prs p.ds
    have hn : (p.many : Int).natAbs.log2 ≤ p.many := by
      rw [Int.natAbs_natCast]
      exact Nat.log2_le_self _
    have s0 : PyData.showable (.int (p.many : Int)) = true := by rw [PyData.showable]; exact decide_eq_true (by omega)
    have s1 : PyData.showable (.tuple [.int (p.many : Int), .tuple (prs p.ds), .tuple (nats p.outs)]) = true := by
      rw [PyData.showable, PyData.showableAll, s0, PyData.showableAll, PyData.showable, a, PyData.showableAll, PyData.showable, a', PyData.showableAll]
      rfl
    have s2 : PyData.hasDict (.tuple [.int (p.many : Int), .tuple (prs p.ds), .tuple (nats p.outs)]) = false := by
      rw [PyData.hasDict, PyData.hasDictAll, PyData.hasDict, PyData.hasDictAll, PyData.hasDict, b, PyData.hasDictAll, PyData.hasDict, b', PyData.hasDictAll]
      rfl
    have s3 : PyData.depth (.tuple [.int (p.many : Int), .tuple (prs p.ds), .tuple (nats p.outs)]) ≤ 64 := by
      rw [PyData.depth, PyData.depthAll, PyData.depth, PyData.depthAll, PyData.depth, PyData.depthAll, PyData.depth, dep_ints', PyData.depthAll]
      omega
    have s4 : roomD (.tuple [.int (p.many : Int), .tuple (prs p.ds), .tuple (nats p.outs)]) ≤ 3000000 := by
      rw [roomD, roomDs, roomD, roomDs, roomD, roomDs, roomD, roomDs]
      omega
    unfold reprOk
    rw [s1, s2, Bool.true_and, Bool.and_eq_true, Bool.and_eq_true]
    exact ⟨⟨decide_eq_true (Nat.le_trans s4 (by decide)), rfl⟩, decide_eq_true s3⟩
theorem fw_lt {c : Cu} {p : Pn} : ∀ (vs : List Nat) (gs : List (Nat × Nat)) (k j : Nat), fwAt c p k vs gs = some j → j < k + vs.length
  | v :: vs, g :: gs, k, j, h => by
    rw [fwAt] at h
    rw [List.length_cons]
    by_cases e : same c (tr p v) (gl g) = true
    · rw [if_pos e] at h
      have := fw_lt vs gs (k + 1) j h
      omega
    · rw [if_neg e] at h
      cases h
      omega
  | [], _, _, _, h => by simp [fwAt] at h
  | _ :: _, [], _, _, h => by simp [fwAt] at h
theorem repr_nat {n : Nat} (h : n < 1000) : toD (.int (n : Int)) = some (.int (n : Int)) ∧ reprOk (.int (n : Int)) = true := by
  have hl : (n : Int).natAbs.log2 ≤ n := by
    rw [Int.natAbs_natCast]
    exact Nat.log2_le_self n
  refine ⟨by rw [toD], ?_⟩
  have s0 : PyData.showable (.int (n : Int)) = true := by rw [PyData.showable]; exact decide_eq_true (by omega)
  unfold reprOk
  rw [s0, PyData.hasDict, PyData.depth, roomD, Bool.true_and, Bool.and_eq_true, Bool.and_eq_true]
  exact ⟨⟨decide_eq_true (Nat.le_trans (show _ ≤ 3000000 by omega) (by decide)), rfl⟩, rfl⟩
theorem repr_fw {p : Pn} (h : p.Ok) (c : Cu) (gs : List (Nat × Nat)) : ∃ d, toD (fwW c p gs) = some d ∧ reprOk d = true := by
  have ol := h.ol
  unfold fwW
  cases e : fwAt c p 0 p.outs gs with
  | some k =>
    have := fw_lt p.outs gs 0 k e
    exact ⟨_, repr_nat (by omega)⟩
  | none =>
    dsimp only
    by_cases e2 : p.outs.length = gs.length
    · rw [if_pos e2]
      exact ⟨.none, by rw [toD], by decide⟩
    · rw [if_neg e2]
      exact ⟨_, repr_nat (n := min p.outs.length gs.length) (by omega)⟩
theorem repr_bl (b : Bool) : toD (.bl b) = some (.bool b) ∧ reprOk (.bool b) = true := by
  refine ⟨by rw [toD], ?_⟩
  cases b <;> decide
/-! ### steps, held -/
theorem Wstep {C : Cl} {I : Nat → List Bool} {s : Sm} {r : Sms} {sl : Sl} {β : Type} {k : Fl → T β} {b : Nat} {Q : β → Nat → Prop} (h : WB (exS C I cn s sl) b fun f b' => ∃ sl', f = .nx sl' ∧ WB ((exSs C I cn r sl').bind k) b' Q) : WB ((exSs C I cn (.cons s r) sl).bind k) b Q :=
  ⟨wstep (T.wb_mono (fun f b' hf => by obtain ⟨sl', e, hk⟩ := hf; exact ⟨sl', e, hk.h⟩) h.h)⟩
theorem Wstep1 {C : Cl} {I : Nat → List Bool} {s : Sm} {r : Sms} {sl sl' : Sl} {β : Type} {k : Fl → T β} {b : Nat} {Q : β → Nat → Prop} (h : exS C I cn s sl = .ok (.nx sl')) (hk : WB ((exSs C I cn r sl').bind k) b Q) : WB ((exSs C I cn (.cons s r) sl).bind k) b Q := ⟨wstep1 h hk.h⟩
theorem Wstep0 {C : Cl} {I : Nat → List Bool} {s : Sm} {r : Sms} {sl : Sl} {b : Nat} {Q : Fl → Nat → Prop} (h : WB (exS C I cn s sl) b fun f b' => ∃ sl', f = .nx sl' ∧ WB (exSs C I cn r sl') b' Q) : WB (exSs C I cn (.cons s r) sl) b Q :=
  ⟨wstep0 (T.wb_mono (fun f b' hf => by obtain ⟨sl', e, hk⟩ := hf; exact ⟨sl', e, hk.h⟩) h.h)⟩
theorem Wstep01 {C : Cl} {I : Nat → List Bool} {s : Sm} {r : Sms} {sl sl' : Sl} {b : Nat} {Q : Fl → Nat → Prop} (h : exS C I cn s sl = .ok (.nx sl')) (hk : WB (exSs C I cn r sl') b Q) : WB (exSs C I cn (.cons s r) sl) b Q := ⟨wstep01 h hk.h⟩
theorem Wmono {α : Type} {t : T α} {b : Nat} {P Q : α → Nat → Prop} (h : WB t b P) (hq : ∀ a b', P a b' → Q a b') : WB t b Q := ⟨T.wb_mono hq h.h⟩
theorem Wbind {α β : Type} {t : T α} {f : α → T β} {b : Nat} {Q : β → Nat → Prop} (h : WB t b fun a b' => WB (f a) b' Q) : WB (t.bind f) b Q := ⟨T.wb_bind.mpr (T.wb_mono (fun _ _ z => z.h) h.h)⟩
theorem Wok {α : Type} {t : T α} {a : α} {b : Nat} {Q : α → Nat → Prop} (e : t = .ok a) (h : Q a b) : WB t b Q := ⟨by rw [e]; exact h⟩
theorem Wdraw {α : Type} {t : T α} {l : Nat} {k : Nat → T α} {b : Nat} {Q : α → Nat → Prop} (e : t = .draw l k) (hb : 1 ≤ b) (h : ∀ d, d < l → WB (k d) (b - 1) Q) : WB t b Q := ⟨by rw [e]; exact wb_draw' hb fun d hd => (h d hd).h⟩
theorem Wfor {turn : W → Sl → T Fl} {P : Nat → Sl → Nat → Prop} {Q : Fl → Nat → Prop} {xs : List W} {sl : Sl} {b : Nat} (h0 : P 0 sl b) (h : ∀ (i : Nat) x sl b, xs[i]? = some x → P i sl b → WB (turn x sl) b fun f b' => ∃ sl', f = .nx sl' ∧ P (i + 1) sl' b') (hq : ∀ sl b, P xs.length sl b → Q (.nx sl) b) : WB (forGo turn xs sl) b Q :=
  ⟨for_wb (k := 0) h0 (fun i x sl b e hp => by rw [Nat.zero_add] at hp ⊢; exact (h i x sl b e hp).h) fun sl b hp => hq sl b (by rw [Nat.zero_add] at hp; exact hp)⟩
/-! ### the customs drawn -/
def cs4 : List W := [.str Cu.none.s, .str Cu.group.s, .str Cu.any.s, .str Cu.once.s]
theorem cs4_at {d : Nat} {w : W} (h : cs4[d]? = some w) : ∃ c : Cu, w = .str c.s := by
  have hm : w ∈ cs4 := List.mem_of_getElem? h
  simp only [cs4, List.mem_cons, List.not_mem_nil, or_false] at hm
  rcases hm with e | e | e | e
  · exact ⟨.none, e⟩
  · exact ⟨.group, e⟩
  · exact ⟨.any, e⟩
  · exact ⟨.once, e⟩
theorem io30 : ioOf fks 30 = [false, false] := rfl
abbrev cSl (c : Cu) (fl : Bool) : Sl := [some (.orc, false), some (.str c.s, false), some (.lst cs4, fl), none, none]
theorem cust_turn {c : Cu} {fl : Bool} {n b : Nat} {x : W} (hb : 2 ≤ b) :
    WB (kLcT [4] (evE (callN fks cn (n + 1)) (ioOf fks) cn (.tup (.cons (.call 30 (.cons (.var 0) (.cons (.var 2) .nil))) (.cons (.op .eq (.draw (.var 0) (.con (.int 2))) (.con (.int 0))) .nil)))) (.nm 4) [] x (cSl c fl)) b fun r b' => ∃ (q : Cu × Bool), b ≤ b' + 2 ∧ r = (some (hab q), cSl c false) := by
  refine ⟨?_⟩
  simp -implicitDefEqProofs only [exSs, exS, evE, evL, evO, evI, sSeq, sAsg, sExp, sApp, sPut, sRet, sRetv, sIte, sPar, lPar, moveS, kOp, kChain, kIdx, kLst, Ev.kTup, kCon, kVar, kNot, kAnd, kOr, kIte, kBi, kCall, kSli, oInt, kNeg, kConv, lA, lH, lAnd, lOr, lArgs, ioTake, putBack, own, hd, isV, getAll, hget_val, hget_slot, T.bind_ok, fz, rd0, rdS, sett0, settS, setG_nm, setGs_nil, setGs_cons, setG_tp, cond_true, cond_false, boolOf, bopsI, op2, two_ii, subW, ltW, leW, gtW, geW, eqR, neR, yes, nay, biW, bi1, bi2, isR, isnotR, isT1, isI1, isB1, isS1, yes, isInst, lenW, List.map_cons, List.map_nil, List.cons_append, List.nil_append, List.replicate_succ, List.replicate_zero, Nat.reduceSub, Bool.not_true, Bool.not_false, ite_true, ite_false, iSeq, seqOf, List.headD_cons, List.tail_cons, guard_tt, bind_as, kLcT, io30]
  refine T.wb_bind.mpr (of_wb (by decide) (by decide) (by omega) fun d w hw => ?_)
  obtain ⟨q, rfl⟩ := cs4_at hw
  simp -implicitDefEqProofs (disch := omega) only [exSs, exS, evE, evL, evO, evI, sSeq, sAsg, sExp, sApp, sPut, sRet, sRetv, sIte, sPar, lPar, moveS, kOp, kChain, kIdx, kLst, Ev.kTup, kCon, kVar, kNot, kAnd, kOr, kIte, kBi, kCall, kSli, oInt, kNeg, kConv, lA, lH, lAnd, lOr, lArgs, ioTake, putBack, own, hd, isV, getAll, hget_val, hget_slot, T.bind_ok, fz, rd0, rdS, sett0, settS, setG_nm, setGs_nil, setGs_cons, setG_tp, cond_true, cond_false, boolOf, bopsI, op2, two_ii, subW, ltW, leW, gtW, geW, eqR, neR, yes, nay, biW, bi1, bi2, isR, isnotR, isT1, isI1, isB1, isS1, yes, isInst, lenW, List.map_cons, List.map_nil, List.cons_append, List.nil_append, List.replicate_succ, List.replicate_zero, Nat.reduceSub, Bool.not_true, Bool.not_false, ite_true, ite_false, iSeq, seqOf, List.headD_cons, List.tail_cons, guard_tt, bind_as, kLcT, io30, kDraw_eq, drw2, draw_bind]
  refine wb_draw' (by omega) fun d hdd => ?_
  simp -implicitDefEqProofs (disch := omega) only [exSs, exS, evE, evL, evO, evI, sSeq, sAsg, sExp, sApp, sPut, sRet, sRetv, sIte, sPar, lPar, moveS, kOp, kChain, kIdx, kLst, Ev.kTup, kCon, kVar, kNot, kAnd, kOr, kIte, kBi, kCall, kSli, oInt, kNeg, kConv, lA, lH, lAnd, lOr, lArgs, ioTake, putBack, own, hd, isV, getAll, hget_val, hget_slot, T.bind_ok, fz, rd0, rdS, sett0, settS, setG_nm, setGs_nil, setGs_cons, setG_tp, cond_true, cond_false, boolOf, bopsI, op2, two_ii, subW, ltW, leW, gtW, geW, eqR, neR, yes, nay, biW, bi1, bi2, isR, isnotR, isT1, isI1, isB1, isS1, yes, isInst, lenW, List.map_cons, List.map_nil, List.cons_append, List.nil_append, List.replicate_succ, List.replicate_zero, Nat.reduceSub, Bool.not_true, Bool.not_false, ite_true, ite_false, iSeq, seqOf, List.headD_cons, List.tail_cons, guard_tt, bind_as, eqW_ii, guard_sz, List.length_cons, List.length_nil, wipeS]
  exact ⟨(q, eqI d 0), by omega, rfl⟩
end Ov
end
end
section
set_option Elab.async false
set_option linter.all false
set_option maxRecDepth 100000
set_option maxHeartbeats 1000000
noncomputable section
namespace Ov
open PySem L2 Ev
set_option autoImplicit false
theorem lc_step {turn : W → Sl → T (Option W × Sl)} {x : W} {xs acc : List W} {sl : Sl} {b : Nat} {Q : List W × Sl → Nat → Prop} (ha : acc.length ≤ 100000) (h : WB (turn x sl) b fun r b' => ∃ w sl', r = (some w, sl') ∧ WB (lcGo turn xs (w :: acc) sl') b' Q) : WB (lcGo turn (x :: xs) acc sl) b Q := by
  rw [lcGo]
  refine Wbind (Wmono h fun r b' hr => ?_)
  obtain ⟨w, sl', rfl, hk⟩ := hr
  refine ⟨?_⟩
  show (T.guard (Nat.blt acc.length sizeLine) (lcGo turn xs (w :: acc) sl')).wb b' Q
  rw [guard_lt ha]
  exact hk.h
theorem lc3 {turn : W → Sl → T (Option W × Sl)} {c : Cu} {fl : Bool} {x y z : W} {b : Nat} {Q : List W × Sl → Nat → Prop} (h : ∀ x fl b, 2 ≤ b → WB (turn x (cSl c fl)) b fun r b' => ∃ (q : Cu × Bool), b ≤ b' + 2 ∧ r = (some (hab q), cSl c false)) (hb : 6 ≤ b) (hQ : ∀ q0 q1 q2 b', b ≤ b' + 6 → Q ([hab q0, hab q1, hab q2], cSl c false) b') : WB (lcGo turn [x, y, z] [] (cSl c fl)) b Q := by
  refine lc_step (Nat.zero_le _) (Wmono (h x fl b (by omega)) ?_)
  rintro r b1 ⟨q0, hb1, rfl⟩
  refine ⟨_, _, rfl, lc_step (Nat.le_of_ble_eq_true rfl) (Wmono (h y false b1 (by omega)) ?_)⟩
  rintro r b2 ⟨q1, hb2, rfl⟩
  refine ⟨_, _, rfl, lc_step (Nat.le_of_ble_eq_true rfl) (Wmono (h z false b2 (by omega)) ?_)⟩
  rintro r b3 ⟨q2, hb3, rfl⟩
  refine ⟨_, _, rfl, Wok (a := ([hab q0, hab q1, hab q2], cSl c false)) rfl (hQ q0 q1 q2 b3 (by omega))⟩
theorem seq3_0 (a b c : W) : seqAt [a, b, c] 0 = .ok a := rfl
theorem seq3_2 (a b c : W) : seqAt [a, b, c] 2 = .ok c := rfl
theorem txt_ok {C : Cl} {I : Nat → List Bool} {sl : Sl} : evI C I cn (.txt (.con (.str ⟨#[102, 103, 104]⟩))) sl = .ok ([.str ⟨#[102]⟩, .str ⟨#[103]⟩, .str ⟨#[104]⟩], sl) := by kernel_rfl
theorem customs_wb {c : Cu} {n b : Nat} {Q : R × List W → Nat → Prop} (hb : 7 ≤ b) (hQ : ∀ r0 r1 r2 b', r1.1 = c → b ≤ b' + 7 → Q ((cuW r0 r1 r2, false), []) b') : WB (callN fks cn (n + 2) 39 [(.orc, false), (.str c.s, false)]) b Q := by
  rw [callN_code rfl rfl]
  refine Wstep1 (sl' := cSl c true) ?_ ?_
  · simp -implicitDefEqProofs only [exSs, exS, evE, evL, evO, evI, sSeq, sAsg, sExp, sApp, sPut, sRet, sRetv, sIte, sPar, lPar, moveS, kOp, kChain, kIdx, kLst, Ev.kTup, kCon, kVar, kNot, kAnd, kOr, kIte, kBi, kCall, kSli, oInt, kNeg, kConv, lA, lH, lAnd, lOr, lArgs, ioTake, putBack, own, hd, isV, getAll, hget_val, hget_slot, T.bind_ok, fz, rd0, rdS, sett0, settS, setG_nm, setGs_nil, setGs_cons, setG_tp, cond_true, cond_false, boolOf, bopsI, op2, two_ii, subW, ltW, leW, gtW, geW, eqR, neR, yes, nay, biW, bi1, bi2, isR, isnotR, isT1, isI1, isB1, isS1, yes, isInst, lenW, List.map_cons, List.map_nil, List.cons_append, List.nil_append, List.replicate_succ, List.replicate_zero, Nat.reduceSub, Bool.not_true, Bool.not_false, ite_true, ite_false, iSeq, seqOf, List.headD_cons, List.tail_cons, guard_tt, bind_as]
    rfl
  refine Wstep ?_
  rw [exS, sAsg, evE, kLc]
  refine Wbind (Wbind ?_)
  rw [txt_ok]
  refine Wok rfl (Wbind ?_)
  refine lc3 (c := c) (fl := true) (fun x fl b hb => cust_turn hb) (by omega) fun q0 q1 q2 b1 hb1 => ?_
  refine Wok rfl (Wok rfl ⟨_, rfl, ?_⟩)
  refine ⟨?_⟩
  show ((exSs _ _ _ _ [some (W.orc, false), some (W.str c.s, false), some (W.lst cs4, false), some (W.lst [hab q0, hab q1, hab q2], true), none]).bind _).wb b1 Q
  simp -implicitDefEqProofs only [exSs, exS, evE, evL, evO, evI, sSeq, sAsg, sExp, sApp, sPut, sRet, sRetv, sIte, sPar, lPar, moveS, kOp, kChain, kIdx, kLst, Ev.kTup, kCon, kVar, kNot, kAnd, kOr, kIte, kBi, kCall, kSli, oInt, kNeg, kConv, lA, lH, lAnd, lOr, lArgs, ioTake, putBack, own, hd, isV, getAll, hget_val, hget_slot, T.bind_ok, fz, rd0, rdS, sett0, settS, setG_nm, setGs_nil, setGs_cons, setG_tp, cond_true, cond_false, boolOf, bopsI, op2, two_ii, subW, ltW, leW, gtW, geW, eqR, neR, yes, nay, biW, bi1, bi2, isR, isnotR, isT1, isI1, isB1, isS1, yes, isInst, lenW, List.map_cons, List.map_nil, List.cons_append, List.nil_append, List.replicate_succ, List.replicate_zero, Nat.reduceSub, Bool.not_true, Bool.not_false, ite_true, ite_false, iSeq, seqOf, List.headD_cons, List.tail_cons, guard_tt, bind_as, idxL, seq3_0, seq3_2, kDraw_eq, drw2, draw_bind]
  refine wb_draw' (by omega) fun d hdd => ?_
  simp -implicitDefEqProofs (disch := omega) only [exSs, exS, evE, evL, evO, evI, sSeq, sAsg, sExp, sApp, sPut, sRet, sRetv, sIte, sPar, lPar, moveS, kOp, kChain, kIdx, kLst, Ev.kTup, kCon, kVar, kNot, kAnd, kOr, kIte, kBi, kCall, kSli, oInt, kNeg, kConv, lA, lH, lAnd, lOr, lArgs, ioTake, putBack, own, hd, isV, getAll, hget_val, hget_slot, T.bind_ok, fz, rd0, rdS, sett0, settS, setG_nm, setGs_nil, setGs_cons, setG_tp, cond_true, cond_false, boolOf, bopsI, op2, two_ii, subW, ltW, leW, gtW, geW, eqR, neR, yes, nay, biW, bi1, bi2, isR, isnotR, isT1, isI1, isB1, isS1, yes, isInst, lenW, List.map_cons, List.map_nil, List.cons_append, List.nil_append, List.replicate_succ, List.replicate_zero, Nat.reduceSub, Bool.not_true, Bool.not_false, ite_true, ite_false, iSeq, seqOf, List.headD_cons, List.tail_cons, guard_tt, bind_as, eqW_ii, guard_sz, List.length_cons, List.length_nil, idxL, seq3_2]
  exact hQ q0 (c, eqI d 0) q2 _ rfl (by omega)
end Ov
end
end
section
set_option Elab.async false
set_option linter.all false
set_option maxRecDepth 100000
set_option maxHeartbeats 1000000
noncomputable section
namespace Ov
open PySem L2 Ev
set_option autoImplicit false
theorem io39 : ioOf fks 39 = [false, false] := rfl
theorem io18 : ioOf fks 18 = [false, false] := rfl
theorem io19 : ioOf fks 19 = [false, false] := rfl
theorem io24 : ioOf fks 24 = [false, false, false, false] := rfl
abbrev rSl (p : Pn) (gs : List (Nat × Nat)) (fl : Bool) (a4 a5 a6 a7 a8 : Option R) : Sl := [some (.orc, false), some (plW p, false), some (glW gs, false), some (.lst ((trs p).map Tr.toW), fl), a4, a5, a6, a7, a8, none, none]
theorem sTurn_nm (i : Nat) (f : Sf) (x : W) (s : Sl) : sTurn (.nm i) f x s = f (sett s i (some (x, false))) := by
  rw [sTurn, setG_nm]
  rfl
theorem word_lt {p : Pn} (h : p.Ok) : ∀ (v : Nat), v < p.many + p.ds.length → ∀ n ∈ (tr p v).word, n < p.many := by
  intro v
  induction v using Nat.strongRecOn with
  | ind v ih =>
    intro hv n hn
    by_cases hm : v < p.many
    · rw [tr_lf hm, Tr.word, List.mem_singleton] at hn
      omega
    · have hd1 : p.ds[v - p.many]? = some p.ds[v - p.many] := List.getElem?_eq_getElem (by omega)
      have hu := Under.get h.un hd1
      rw [tr_nd h (by omega) hd1, Tr.word, List.mem_append] at hn
      rcases hn with e | e
      · exact ih _ (by omega) (by omega) n e
      · exact ih _ (by omega) (by omega) n e
theorem trs_len (p : Pn) : (trs p).length = p.many + p.ds.length := by
  unfold trs
  rw [grow_len, List.length_map, List.length_range]
theorem right_wb {p : Pn} {gs : List (Nat × Nat)} (h : p.Ok) (hs : p.Sm) (hg : ∀ g ∈ gs, Good p g) (hl : gs.length ≤ 4) {n b : Nat} {Q : R × List W → Nat → Prop} (hb : 40 ≤ b) (hQ : ∀ b', b ≤ b' + 28 → Q ((.bl true, false), []) b') :
    WB (callN fks cn (n + 76) 40 [(.orc, false), (plW p, false), (glW gs, false)]) b Q := by
  have m1 := h.m1
  have m2 := h.m2
  have dl := h.dl
  rw [callN_code rfl rfl]
  have e34 : callN fks cn (n + 75) 34 [(plW p, false)] = _ := law_trees_ok h (n + 74)
  have e9 : callN fks cn (n + 75) 9 [(plW p, false)] = _ := plan_ok h (n + 72)
  have e11 : callN fks cn (n + 75) 11 [(.int (p.many : Int), false), (glW gs, false)] = _ := goals_ok m1 (by omega) (by omega) hg (n + 72)
  have l1 : callN fks cn (n + 75) 29 [(plW p, false), (plW p, false)] = _ := like_ok (repr_pl h).1 (repr_pl h).2 (n + 74)
  have rg := repr_gl (gs := gs) (fun d hm => by have := hg d hm; unfold Good at this; omega) (by omega)
  have l2 : callN fks cn (n + 75) 29 [(glW gs, false), (glW gs, false)] = _ := like_ok rg.1 rg.2 (n + 74)
  refine Wstep1 (sl' := rSl p gs true none none none none none) ?_ ?_
  · simp -implicitDefEqProofs only [exSs, exS, evE, evL, evO, evI, sSeq, sAsg, sExp, sApp, sPut, sRet, sRetv, sIte, sPar, lPar, moveS, kOp, kChain, kIdx, kLst, Ev.kTup, kCon, kVar, kNot, kAnd, kOr, kIte, kBi, kCall, kSli, oInt, kNeg, kConv, lA, lH, lAnd, lOr, lArgs, ioTake, putBack, own, hd, isV, getAll, hget_val, hget_slot, T.bind_ok, fz, rd0, rdS, sett0, settS, setG_nm, setGs_nil, setGs_cons, setG_tp, cond_true, cond_false, boolOf, bopsI, op2, two_ii, subW, ltW, leW, gtW, geW, eqR, neR, yes, nay, biW, bi1, bi2, isR, isnotR, isT1, isI1, isB1, isS1, yes, isInst, lenW, List.map_cons, List.map_nil, List.cons_append, List.nil_append, List.replicate_succ, List.replicate_zero, Nat.reduceSub, Bool.not_true, Bool.not_false, ite_true, ite_false, iSeq, seqOf, List.headD_cons, List.tail_cons, guard_tt, bind_as, io34, e34]
  refine Wstep1 (sl' := rSl p gs true none none none none none) ?_ ?_
  · simp -implicitDefEqProofs only [exSs, exS, evE, evL, evO, evI, sSeq, sAsg, sExp, sApp, sPut, sRet, sRetv, sIte, sPar, lPar, moveS, kOp, kChain, kIdx, kLst, Ev.kTup, kCon, kVar, kNot, kAnd, kOr, kIte, kBi, kCall, kSli, oInt, kNeg, kConv, lA, lH, lAnd, lOr, lArgs, ioTake, putBack, own, hd, isV, getAll, hget_val, hget_slot, T.bind_ok, fz, rd0, rdS, sett0, settS, setG_nm, setGs_nil, setGs_cons, setG_tp, cond_true, cond_false, boolOf, bopsI, op2, two_ii, subW, ltW, leW, gtW, geW, eqR, neR, yes, nay, biW, bi1, bi2, isR, isnotR, isT1, isI1, isB1, isS1, yes, isInst, lenW, List.map_cons, List.map_nil, List.cons_append, List.nil_append, List.replicate_succ, List.replicate_zero, Nat.reduceSub, Bool.not_true, Bool.not_false, ite_true, ite_false, iSeq, seqOf, List.headD_cons, List.tail_cons, guard_tt, bind_as, io9, io11, io29, pl0, iW_eq, e9, e11, l1, l2]
  -- every tree and word
  refine Wstep (Wmono (P := fun (f : Fl) (b1 : Nat) => ∃ fl a4 a5, b1 = b ∧ f = Fl.nx (rSl p gs fl a4 a5 none none none)) ?_ ?_)
  · rw [exS, sFor]
    refine Wbind ?_
    refine Wok (a := (enumL 0 ((trs p).map Tr.toW), rSl p gs false none none none none none)) ?_ ?_
    · simp -implicitDefEqProofs only [exSs, exS, evE, evL, evO, evI, sSeq, sAsg, sExp, sApp, sPut, sRet, sRetv, sIte, sPar, lPar, moveS, kOp, kChain, kIdx, kLst, Ev.kTup, kCon, kVar, kNot, kAnd, kOr, kIte, kBi, kCall, kSli, oInt, kNeg, kConv, lA, lH, lAnd, lOr, lArgs, ioTake, putBack, own, hd, isV, getAll, hget_val, hget_slot, T.bind_ok, fz, rd0, rdS, sett0, settS, setG_nm, setGs_nil, setGs_cons, setG_tp, cond_true, cond_false, boolOf, bopsI, op2, two_ii, subW, ltW, leW, gtW, geW, eqR, neR, yes, nay, biW, bi1, bi2, isR, isnotR, isT1, isI1, isB1, isS1, yes, isInst, lenW, List.map_cons, List.map_nil, List.cons_append, List.nil_append, List.replicate_succ, List.replicate_zero, Nat.reduceSub, Bool.not_true, Bool.not_false, ite_true, ite_false, iSeq, seqOf, List.headD_cons, List.tail_cons, guard_tt, bind_as, Ev.iEnum, enOf]
      first | done | rfl
    refine Wfor (P := fun i sl b1 => ∃ fl a4 a5, b1 = b ∧ sl = rSl p gs fl a4 a5 none none none) ⟨_, _, _, rfl, rfl⟩ (fun i x sl b1 ex hp => ?_) (fun sl b1 hp => ?_)
    · obtain ⟨fl, a4, a5, rfl, rfl⟩ := hp
      obtain ⟨t, et, rfl⟩ := enumL_get ex
      rw [Nat.zero_add]
      rw [List.getElem?_map] at et
      have hi : i < p.many + p.ds.length := by
        rw [← trs_len]
        cases e : (trs p)[i]? with
        | none => rw [e] at et; cases et
        | some u => exact (List.getElem?_eq_some_iff.mp e).1
      have etr : t = (tr p i).toW := by
        have : (trs p)[i]? = some (tr p i) := by
          unfold tr
          rw [List.getD_eq_getElem?_getD, List.getElem?_eq_getElem (by rw [trs_len]; exact hi)]
          rfl
        rw [this] at et
        cases et
        rfl
      subst etr
      have wl : (tr p i).word.length ≤ 2000 := by
        have := hs i hi
        rw [sizes_tr h hi] at this
        exact this
      have wlt : ∀ n ∈ (tr p i).word, n < 1000 := fun n hn => by have := word_lt h i hi n hn; omega
      have hts := ht_tr h i hi
      have c18 : callN fks cn (n + 75) 18 [(plW p, false), (.int (i : Int), false)] = _ := plan_tree_ok h hs hi (n + 70)
      have c19 : callN fks cn (n + 75) 19 [(plW p, false), (.int (i : Int), false)] = _ := plan_word_ok h hs hi (n + 70)
      have c35 : callN fks cn (n + 75) 35 [((tr p i).toW, false)] = _ := law_word_ok (tr p i) (n + 75) (by omega) (by omega)
      have c29 : callN fks cn (n + 75) 29 [((tr p i).toW, false), ((tr p i).toW, false)] = _ := like_ok (toD_tr _) (repr_tr wlt wl (by omega)) (n + 74)
      have c29' : callN fks cn (n + 75) 29 [(wT (tr p i), false), (wT (tr p i), false)] = _ := like_ok (toD_wW _) (repr_w wlt wl) (n + 74)
      refine Wok (a := Fl.nx (rSl p gs fl (some (.int (i : Int), false)) (some ((tr p i).toW, false)) none none none)) ?_ ⟨_, rfl, _, _, _, rfl, rfl⟩
      simp -implicitDefEqProofs only [exSs, exS, evE, evL, evO, evI, sSeq, sAsg, sExp, sApp, sPut, sRet, sRetv, sIte, sPar, lPar, moveS, kOp, kChain, kIdx, kLst, Ev.kTup, kCon, kVar, kNot, kAnd, kOr, kIte, kBi, kCall, kSli, oInt, kNeg, kConv, lA, lH, lAnd, lOr, lArgs, ioTake, putBack, own, hd, isV, getAll, hget_val, hget_slot, T.bind_ok, fz, rd0, rdS, sett0, settS, setG_nm, setGs_nil, setGs_cons, setG_tp, cond_true, cond_false, boolOf, bopsI, op2, two_ii, subW, ltW, leW, gtW, geW, eqR, neR, yes, nay, biW, bi1, bi2, isR, isnotR, isT1, isI1, isB1, isS1, yes, isInst, lenW, List.map_cons, List.map_nil, List.cons_append, List.nil_append, List.replicate_succ, List.replicate_zero, Nat.reduceSub, Bool.not_true, Bool.not_false, ite_true, ite_false, iSeq, seqOf, List.headD_cons, List.tail_cons, guard_tt, bind_as, sTurn, io18, io19, io29, io35, c18, c19, c35, c29, c29']
    · obtain ⟨fl, a4, a5, rfl, rfl⟩ := hp
      exact ⟨fl, a4, a5, rfl, rfl⟩
  rintro f b1 ⟨fl, a4, a5, rfl, rfl⟩
  refine ⟨_, rfl, ?_⟩
  -- every custom
  refine Wstep (Wmono (P := fun (f : Fl) (b2 : Nat) => ∃ a6 a7 a8, b1 ≤ b2 + 28 ∧ f = Fl.nx (rSl p gs fl a4 a5 a6 a7 a8)) ?_ ?_)
  · rw [exS, sFor]
    refine Wbind ?_
    refine Wok (a := (cs4, rSl p gs fl a4 a5 none none none)) ?_ ?_
    · simp -implicitDefEqProofs (disch := omega) only [exSs, exS, evE, evL, evO, evI, sSeq, sAsg, sExp, sApp, sPut, sRet, sRetv, sIte, sPar, lPar, moveS, kOp, kChain, kIdx, kLst, Ev.kTup, kCon, kVar, kNot, kAnd, kOr, kIte, kBi, kCall, kSli, oInt, kNeg, kConv, lA, lH, lAnd, lOr, lArgs, ioTake, putBack, own, hd, isV, getAll, hget_val, hget_slot, T.bind_ok, fz, rd0, rdS, sett0, settS, setG_nm, setGs_nil, setGs_cons, setG_tp, cond_true, cond_false, boolOf, bopsI, op2, two_ii, subW, ltW, leW, gtW, geW, eqR, neR, yes, nay, biW, bi1, bi2, isR, isnotR, isT1, isI1, isB1, isS1, yes, isInst, lenW, List.map_cons, List.map_nil, List.cons_append, List.nil_append, List.replicate_succ, List.replicate_zero, Nat.reduceSub, Bool.not_true, Bool.not_false, ite_true, ite_false, iSeq, seqOf, List.headD_cons, List.tail_cons, guard_tt, bind_as, guard_sz, List.length_cons, List.length_nil, cs4, Cu.s]
    refine Wfor (P := fun i sl b2 => ∃ a6 a7 a8, i ≤ 4 ∧ b1 ≤ b2 + 7 * i ∧ sl = rSl p gs fl a4 a5 a6 a7 a8) ⟨_, _, _, by omega, by omega, rfl⟩ (fun i x sl b2 ex hp => ?_) (fun sl b2 hp => ?_)
    · obtain ⟨a6, a7, a8, i4, hb2, rfl⟩ := hp
      obtain ⟨c, rfl⟩ := cs4_at ex
      have il : i < 4 := (List.getElem?_eq_some_iff.mp ex).1
      have c38 : callN fks cn (n + 75) 38 [(.str c.s, false), (plW p, false), (glW gs, false)] = _ := law_first_wrong_ok h hs c hg n
      rw [sTurn_nm, show sett (rSl p gs fl a4 a5 a6 a7 a8) 6 (some (.str c.s, false)) = rSl p gs fl a4 a5 (some (.str c.s, false)) a7 a8 from rfl]
      refine Wstep0 (Wmono (P := fun (f : Fl) (b3 : Nat) => ∃ r0 r1 r2, r1.1 = c ∧ b2 ≤ b3 + 7 ∧ f = Fl.nx (rSl p gs fl a4 a5 (some (.str c.s, false)) (some (fwW c p gs, false)) (some (cuW r0 r1 r2, false)))) ?_ ?_)
      · simp -implicitDefEqProofs only [exSs, exS, evE, evL, evO, evI, sSeq, sAsg, sExp, sApp, sPut, sRet, sRetv, sIte, sPar, lPar, moveS, kOp, kChain, kIdx, kLst, Ev.kTup, kCon, kVar, kNot, kAnd, kOr, kIte, kBi, kCall, kSli, oInt, kNeg, kConv, lA, lH, lAnd, lOr, lArgs, ioTake, putBack, own, hd, isV, getAll, hget_val, hget_slot, T.bind_ok, fz, rd0, rdS, sett0, settS, setG_nm, setGs_nil, setGs_cons, setG_tp, cond_true, cond_false, boolOf, bopsI, op2, two_ii, subW, ltW, leW, gtW, geW, eqR, neR, yes, nay, biW, bi1, bi2, isR, isnotR, isT1, isI1, isB1, isS1, yes, isInst, lenW, List.map_cons, List.map_nil, List.cons_append, List.nil_append, List.replicate_succ, List.replicate_zero, Nat.reduceSub, Bool.not_true, Bool.not_false, ite_true, ite_false, iSeq, seqOf, List.headD_cons, List.tail_cons, guard_tt, bind_as, io38, io39, c38]
        refine Wbind ?_
        have c39 : WB (callN fks cn (n + 75) 39 [(.orc, false), (.str c.s, false)]) b2 (fun r b3 => ∃ r0 r1 r2, r1.1 = c ∧ b2 ≤ b3 + 7 ∧ r = ((cuW r0 r1 r2, false), [])) := customs_wb (n := n + 73) (by omega) fun r0 r1 r2 b3 hr hb3 => ⟨r0, r1, r2, hr, hb3, rfl⟩
        refine Wmono c39 ?_
        rintro r b3 ⟨r0, r1, r2, hr, hb3, rfl⟩
        simp -implicitDefEqProofs only [exSs, exS, evE, evL, evO, evI, sSeq, sAsg, sExp, sApp, sPut, sRet, sRetv, sIte, sPar, lPar, moveS, kOp, kChain, kIdx, kLst, Ev.kTup, kCon, kVar, kNot, kAnd, kOr, kIte, kBi, kCall, kSli, oInt, kNeg, kConv, lA, lH, lAnd, lOr, lArgs, ioTake, putBack, own, hd, isV, getAll, hget_val, hget_slot, T.bind_ok, fz, rd0, rdS, sett0, settS, setG_nm, setGs_nil, setGs_cons, setG_tp, cond_true, cond_false, boolOf, bopsI, op2, two_ii, subW, ltW, leW, gtW, geW, eqR, neR, yes, nay, biW, bi1, bi2, isR, isnotR, isT1, isI1, isB1, isS1, yes, isInst, lenW, List.map_cons, List.map_nil, List.cons_append, List.nil_append, List.replicate_succ, List.replicate_zero, Nat.reduceSub, Bool.not_true, Bool.not_false, ite_true, ite_false, iSeq, seqOf, List.headD_cons, List.tail_cons, guard_tt, bind_as]
        exact Wok rfl ⟨r0, r1, r2, hr, hb3, rfl⟩
      rintro f b3 ⟨r0, r1, r2, hr, hb3, rfl⟩
      subst hr
      refine ⟨_, rfl, ?_⟩
      have c23 : callN fks cn (n + 75) 23 [(cuW r0 r1 r2, false), (.str ⟨#[103]⟩, false), (plW p, false), (glW gs, false)] = _ := first_wrong_goal_ok h hs r0 r1 r2 (by omega) hg (n + 69)
      have c24 : callN fks cn (n + 75) 24 [(cuW r0 r1 r2, false), (.str ⟨#[103]⟩, false), (plW p, false), (glW gs, false)] = _ := right_plan_ok h hs r0 r1 r2 (by omega) hg (n + 68)
      obtain ⟨d1, td1, rp1⟩ := repr_fw h r1.1 gs
      have c29 : callN fks cn (n + 75) 29 [(fwW r1.1 p gs, false), (fwW r1.1 p gs, false)] = _ := like_ok td1 rp1 (n + 74)
      have rb := repr_bl (isN (fwW r1.1 p gs))
      have c29' : callN fks cn (n + 75) 29 [(.bl (isN (fwW r1.1 p gs)), false), (.bl (isN (fwW r1.1 p gs)), false)] = _ := like_ok rb.1 rb.2 (n + 74)
      refine Wok (a := Fl.nx (rSl p gs fl a4 a5 (some (.str r1.1.s, false)) (some (fwW r1.1 p gs, false)) (some (cuW r0 r1 r2, false)))) ?_ ⟨_, rfl, _, _, _, by omega, by omega, rfl⟩
      simp -implicitDefEqProofs only [exSs, exS, evE, evL, evO, evI, sSeq, sAsg, sExp, sApp, sPut, sRet, sRetv, sIte, sPar, lPar, moveS, kOp, kChain, kIdx, kLst, Ev.kTup, kCon, kVar, kNot, kAnd, kOr, kIte, kBi, kCall, kSli, oInt, kNeg, kConv, lA, lH, lAnd, lOr, lArgs, ioTake, putBack, own, hd, isV, getAll, hget_val, hget_slot, T.bind_ok, fz, rd0, rdS, sett0, settS, setG_nm, setGs_nil, setGs_cons, setG_tp, cond_true, cond_false, boolOf, bopsI, op2, two_ii, subW, ltW, leW, gtW, geW, eqR, neR, yes, nay, biW, bi1, bi2, isR, isnotR, isT1, isI1, isB1, isS1, yes, isInst, lenW, List.map_cons, List.map_nil, List.cons_append, List.nil_append, List.replicate_succ, List.replicate_zero, Nat.reduceSub, Bool.not_true, Bool.not_false, ite_true, ite_false, iSeq, seqOf, List.headD_cons, List.tail_cons, guard_tt, bind_as, io23, io24, io29, c23, c24, c29, c29', fw_is]
    · obtain ⟨a6, a7, a8, i4, hb2, rfl⟩ := hp
      exact ⟨a6, a7, a8, hb2, rfl⟩
  rintro f b2 ⟨a6, a7, a8, hb2, rfl⟩
  refine ⟨_, rfl, ?_⟩
  refine Wok (a := ((.bl true, false), [])) ?_ (hQ b2 hb2)
  simp -implicitDefEqProofs only [exSs, exS, evE, evL, evO, evI, sSeq, sAsg, sExp, sApp, sPut, sRet, sRetv, sIte, sPar, lPar, moveS, kOp, kChain, kIdx, kLst, Ev.kTup, kCon, kVar, kNot, kAnd, kOr, kIte, kBi, kCall, kSli, oInt, kNeg, kConv, lA, lH, lAnd, lOr, lArgs, ioTake, putBack, own, hd, isV, getAll, hget_val, hget_slot, T.bind_ok, fz, rd0, rdS, sett0, settS, setG_nm, setGs_nil, setGs_cons, setG_tp, cond_true, cond_false, boolOf, bopsI, op2, two_ii, subW, ltW, leW, gtW, geW, eqR, neR, yes, nay, biW, bi1, bi2, isR, isnotR, isT1, isI1, isB1, isS1, yes, isInst, lenW, List.map_cons, List.map_nil, List.cons_append, List.nil_append, List.replicate_succ, List.replicate_zero, Nat.reduceSub, Bool.not_true, Bool.not_false, ite_true, ite_false, iSeq, seqOf, List.headD_cons, List.tail_cons, guard_tt, bind_as]
  rfl
end Ov
end
end
section
set_option Elab.async false
set_option linter.all false
set_option maxRecDepth 100000
set_option maxHeartbeats 1000000
noncomputable section
namespace Ov
open PySem L2 Ev
set_option autoImplicit false
theorem hand_ok : callN fks cn fuel 41 [] = .ok ((.bl true, false), []) := by kernel_rfl
theorem io33 : ioOf fks 33 = [false] := rfl
theorem io40 : ioOf fks 40 = [false, false, false] := rfl
theorem io41 : ioOf fks 41 = [] := rfl
abbrev lSl (c : Nat) (a2 a3 a4 a5 : Option R) : Sl := [some (.scr c, false), some (.orc, false), a2, a3, a4, a5]
theorem sliT (xs : List W) (lo hi : Option Int) : sliW (.tup xs) lo hi = .ok (.tup (cut xs lo hi), false) := rfl
theorem cut_last (xs : List W) : cut xs none (some (-1)) = xs.dropLast := by
  unfold cut
  have e2 : cutIx xs.length xs.length (some (-1)) = xs.length - 1 := by
    show (if (-1 : Int) < 0 then ((-1 : Int) + (xs.length : Int)).toNat else min (-1 : Int).toNat xs.length) = _
    rw [if_pos (by decide)]
    omega
  rw [e2]
  show (xs.drop 0).take (xs.length - 1 - 0) = _
  rw [List.drop_zero, Nat.sub_zero, List.dropLast_eq_take]
theorem mem_dl {α : Type} {x : α} {l : List α} (h : x ∈ l.dropLast) : x ∈ l := by
  rw [List.dropLast_eq_take] at h
  exact List.mem_of_mem_take h
theorem fitsm1 : fits62 (-1) = true := rfl
def cutP (p : Pn) : Pn := ⟨p.many, p.ds, p.outs.dropLast⟩
theorem cutP_ok {p : Pn} (h : p.Ok) : (cutP p).Ok := ⟨h.m1, h.m2, h.un, h.dl, by show p.outs.dropLast.length ≤ 4; rw [List.length_dropLast]; have := h.ol; omega, fun v hv => h.ou v (mem_dl hv)⟩
theorem plT (p : Pn) : W.tup [iW p.many, .tup (p.ds.map pW), .tup ((p.outs.map iW).dropLast)] = plW (cutP p) := by
  rw [← List.map_dropLast]
  rfl
theorem law_turn {c b0 i b : Nat} {x : W} {sl : Sl} (hb0 : 900 ≤ b0) (hi : i < 4) (h : ∃ a2 a3 a4 a5, b0 ≤ b + 160 * i ∧ sl = lSl c a2 a3 a4 a5) :
    WB (sTurn (.nm 2) (exSs (callN fks cn fuel) (ioOf fks) cn (.cons (.asg (.tp [(.nm 3), (.nm 4)]) (.call 33 (.cons (.var 1) .nil))) (.cons (.asg (.nm 5) (.draw (.var 1) (.con (.int 5)))) (.cons (.ite (.op .eq (.var 5) (.con (.int 0))) (.cons (.asg (.nm 4) (.sli (.var 4) none (some (.neg (.con (.int 1)))))) .nil) .nil) (.cons (.ite (.op .eq (.var 5) (.con (.int 1))) (.cons (.asg (.nm 3) (.tup (.cons (.idx (.var 3) (.con (.int 0))) (.cons (.idx (.var 3) (.con (.int 1))) (.cons (.sli (.idx (.var 3) (.con (.int 2))) none (some (.neg (.con (.int 1))))) .nil))))) .nil) .nil) (.cons (.ite (.not (.call 40 (.cons (.var 1) (.cons (.var 3) (.cons (.var 4) .nil))))) (.cons (.ret (.con (.bl false))) .nil) .nil) .nil)))))) x sl) b fun f b' => ∃ sl', f = .nx sl' ∧ ∃ a2 a3 a4 a5, b0 ≤ b' + 160 * (i + 1) ∧ sl' = lSl c a2 a3 a4 a5 := by
  obtain ⟨a2, a3, a4, a5, hb, rfl⟩ := h
  rw [sTurn_nm, show sett (lSl c a2 a3 a4 a5) 2 (some (x, false)) = lSl c (some (x, false)) a3 a4 a5 from rfl]
  refine Wstep0 (Wmono (P := fun (f : Fl) (b1 : Nat) => ∃ p gs, p.Ok ∧ p.Sm ∧ gs.length ≤ 4 ∧ (∀ g ∈ gs, Good p g) ∧ b ≤ b1 + 130 ∧ f = Fl.nx (lSl c (some (x, false)) (some (plW p, false)) (some (glW gs, false)) a5)) ?_ ?_)
  · simp -implicitDefEqProofs only [exSs, exS, evE, evL, evO, evI, sSeq, sAsg, sExp, sApp, sPut, sRet, sRetv, sIte, sPar, lPar, moveS, kOp, kChain, kIdx, kLst, Ev.kTup, kCon, kVar, kNot, kAnd, kOr, kIte, kBi, kCall, kSli, oInt, kNeg, kConv, lA, lH, lAnd, lOr, lArgs, ioTake, putBack, own, hd, isV, getAll, hget_val, hget_slot, T.bind_ok, fz, rd0, rdS, sett0, settS, setG_nm, setGs_nil, setGs_cons, setG_tp, cond_true, cond_false, boolOf, bopsI, op2, two_ii, subW, ltW, leW, gtW, geW, eqR, neR, yes, nay, biW, bi1, bi2, isR, isnotR, isT1, isI1, isB1, isS1, yes, isInst, lenW, List.map_cons, List.map_nil, List.cons_append, List.nil_append, List.replicate_succ, List.replicate_zero, Nat.reduceSub, Bool.not_true, Bool.not_false, ite_true, ite_false, iSeq, seqOf, List.headD_cons, List.tail_cons, guard_tt, bind_as, io33]
    refine Wbind ?_
    have c33 : WB (callN fks cn fuel 33 [(.orc, false)]) b (fun r b1 => ∃ p gs, p.Ok ∧ p.Sm ∧ gs.length ≤ 4 ∧ (∀ g ∈ gs, Good p g) ∧ b ≤ b1 + 130 ∧ r = ((.tup [plW p, glW gs], false), [])) := ⟨plan_wb (n := 114) (by omega) fun p gs b' h1 h2 _ _ h5 h6 h7 => ⟨p, gs, h1, h2, by rw [h5]; exact h1.ol, h6, h7, rfl⟩⟩
    refine Wmono c33 ?_
    rintro r b1 ⟨p, gs, h1, h2, h3, h4, h5, rfl⟩
    simp -implicitDefEqProofs only [exSs, exS, evE, evL, evO, evI, sSeq, sAsg, sExp, sApp, sPut, sRet, sRetv, sIte, sPar, lPar, moveS, kOp, kChain, kIdx, kLst, Ev.kTup, kCon, kVar, kNot, kAnd, kOr, kIte, kBi, kCall, kSli, oInt, kNeg, kConv, lA, lH, lAnd, lOr, lArgs, ioTake, putBack, own, hd, isV, getAll, hget_val, hget_slot, T.bind_ok, fz, rd0, rdS, sett0, settS, setG_nm, setGs_nil, setGs_cons, setG_tp, cond_true, cond_false, boolOf, bopsI, op2, two_ii, subW, ltW, leW, gtW, geW, eqR, neR, yes, nay, biW, bi1, bi2, isR, isnotR, isT1, isI1, isB1, isS1, yes, isInst, lenW, List.map_cons, List.map_nil, List.cons_append, List.nil_append, List.replicate_succ, List.replicate_zero, Nat.reduceSub, Bool.not_true, Bool.not_false, ite_true, ite_false, iSeq, seqOf, List.headD_cons, List.tail_cons, guard_tt, bind_as]
    exact Wok rfl ⟨p, gs, h1, h2, h3, h4, h5, rfl⟩
  rintro f b1 ⟨p, gs, hp, hs, hl, hg, hb1, rfl⟩
  refine ⟨_, rfl, ?_⟩
  refine Wstep0 (Wmono (P := fun (f : Fl) (b2 : Nat) => ∃ d : Nat, b1 ≤ b2 + 1 ∧ f = Fl.nx (lSl c (some (x, false)) (some (plW p, false)) (some (glW gs, false)) (some (.int (d : Int), false)))) ?_ ?_)
  · simp -implicitDefEqProofs only [exSs, exS, evE, evL, evO, evI, sSeq, sAsg, sExp, sApp, sPut, sRet, sRetv, sIte, sPar, lPar, moveS, kOp, kChain, kIdx, kLst, Ev.kTup, kCon, kVar, kNot, kAnd, kOr, kIte, kBi, kCall, kSli, oInt, kNeg, kConv, lA, lH, lAnd, lOr, lArgs, ioTake, putBack, own, hd, isV, getAll, hget_val, hget_slot, T.bind_ok, fz, rd0, rdS, sett0, settS, setG_nm, setGs_nil, setGs_cons, setG_tp, cond_true, cond_false, boolOf, bopsI, op2, two_ii, subW, ltW, leW, gtW, geW, eqR, neR, yes, nay, biW, bi1, bi2, isR, isnotR, isT1, isI1, isB1, isS1, yes, isInst, lenW, List.map_cons, List.map_nil, List.cons_append, List.nil_append, List.replicate_succ, List.replicate_zero, Nat.reduceSub, Bool.not_true, Bool.not_false, ite_true, ite_false, iSeq, seqOf, List.headD_cons, List.tail_cons, guard_tt, bind_as, kDraw_eq, drw5, draw_bind]
    refine Wdraw rfl (by omega) fun d hdd => ?_
    exact Wok rfl ⟨d, by omega, rfl⟩
  rintro f b2 ⟨d, hb2, rfl⟩
  refine ⟨_, rfl, ?_⟩
  -- goals cut
  obtain ⟨gs', hl', hg', eS⟩ : ∃ gs', gs'.length ≤ 4 ∧ (∀ g ∈ gs', Good p g) ∧ exS (callN fks cn fuel) (ioOf fks) cn (.ite (.op .eq (.var 5) (.con (.int 0))) (.cons (.asg (.nm 4) (.sli (.var 4) none (some (.neg (.con (.int 1)))))) .nil) .nil) (lSl c (some (x, false)) (some (plW p, false)) (some (glW gs, false)) (some (.int (d : Int), false))) = .ok (.nx (lSl c (some (x, false)) (some (plW p, false)) (some (glW gs', false)) (some (.int (d : Int), false)))) := by
    by_cases d0 : d = 0
    · subst d0
      have ed : eqI ((0 : Nat) : Int) 0 = true := rfl
      refine ⟨gs.dropLast, by rw [List.length_dropLast]; omega, fun g hm => hg g (mem_dl hm), ?_⟩
      simp -implicitDefEqProofs only [exSs, exS, evE, evL, evO, evI, sSeq, sAsg, sExp, sApp, sPut, sRet, sRetv, sIte, sPar, lPar, moveS, kOp, kChain, kIdx, kLst, Ev.kTup, kCon, kVar, kNot, kAnd, kOr, kIte, kBi, kCall, kSli, oInt, kNeg, kConv, lA, lH, lAnd, lOr, lArgs, ioTake, putBack, own, hd, isV, getAll, hget_val, hget_slot, T.bind_ok, fz, rd0, rdS, sett0, settS, setG_nm, setGs_nil, setGs_cons, setG_tp, cond_true, cond_false, boolOf, bopsI, op2, two_ii, subW, ltW, leW, gtW, geW, eqR, neR, yes, nay, biW, bi1, bi2, isR, isnotR, isT1, isI1, isB1, isS1, yes, isInst, lenW, List.map_cons, List.map_nil, List.cons_append, List.nil_append, List.replicate_succ, List.replicate_zero, Nat.reduceSub, Bool.not_true, Bool.not_false, ite_true, ite_false, iSeq, seqOf, List.headD_cons, List.tail_cons, guard_tt, bind_as, eqW_ii, ed, fitsm1, glW, sliT, cut_last, List.map_dropLast]
    · have ed : eqI ((d : Nat) : Int) 0 = false := by rw [eqI_dec]; exact decide_eq_false (by omega)
      refine ⟨gs, hl, hg, ?_⟩
      simp -implicitDefEqProofs only [exSs, exS, evE, evL, evO, evI, sSeq, sAsg, sExp, sApp, sPut, sRet, sRetv, sIte, sPar, lPar, moveS, kOp, kChain, kIdx, kLst, Ev.kTup, kCon, kVar, kNot, kAnd, kOr, kIte, kBi, kCall, kSli, oInt, kNeg, kConv, lA, lH, lAnd, lOr, lArgs, ioTake, putBack, own, hd, isV, getAll, hget_val, hget_slot, T.bind_ok, fz, rd0, rdS, sett0, settS, setG_nm, setGs_nil, setGs_cons, setG_tp, cond_true, cond_false, boolOf, bopsI, op2, two_ii, subW, ltW, leW, gtW, geW, eqR, neR, yes, nay, biW, bi1, bi2, isR, isnotR, isT1, isI1, isB1, isS1, yes, isInst, lenW, List.map_cons, List.map_nil, List.cons_append, List.nil_append, List.replicate_succ, List.replicate_zero, Nat.reduceSub, Bool.not_true, Bool.not_false, ite_true, ite_false, iSeq, seqOf, List.headD_cons, List.tail_cons, guard_tt, bind_as, eqW_ii, ed]
  refine Wstep01 eS ?_
  -- outs cut
  obtain ⟨p', hp', hs', hg'', eS'⟩ : ∃ p' : Pn, p'.Ok ∧ p'.Sm ∧ (∀ g ∈ gs', Good p' g) ∧ exS (callN fks cn fuel) (ioOf fks) cn (.ite (.op .eq (.var 5) (.con (.int 1))) (.cons (.asg (.nm 3) (.tup (.cons (.idx (.var 3) (.con (.int 0))) (.cons (.idx (.var 3) (.con (.int 1))) (.cons (.sli (.idx (.var 3) (.con (.int 2))) none (some (.neg (.con (.int 1))))) .nil))))) .nil) .nil) (lSl c (some (x, false)) (some (plW p, false)) (some (glW gs', false)) (some (.int (d : Int), false))) = .ok (.nx (lSl c (some (x, false)) (some (plW p', false)) (some (glW gs', false)) (some (.int (d : Int), false)))) := by
    by_cases d0 : d = 1
    · subst d0
      have ed : eqI ((1 : Nat) : Int) 1 = true := rfl
      refine ⟨cutP p, cutP_ok hp, hs, hg', ?_⟩
      simp -implicitDefEqProofs (disch := omega) only [exSs, exS, evE, evL, evO, evI, sSeq, sAsg, sExp, sApp, sPut, sRet, sRetv, sIte, sPar, lPar, moveS, kOp, kChain, kIdx, kLst, Ev.kTup, kCon, kVar, kNot, kAnd, kOr, kIte, kBi, kCall, kSli, oInt, kNeg, kConv, lA, lH, lAnd, lOr, lArgs, ioTake, putBack, own, hd, isV, getAll, hget_val, hget_slot, T.bind_ok, fz, rd0, rdS, sett0, settS, setG_nm, setGs_nil, setGs_cons, setG_tp, cond_true, cond_false, boolOf, bopsI, op2, two_ii, subW, ltW, leW, gtW, geW, eqR, neR, yes, nay, biW, bi1, bi2, isR, isnotR, isT1, isI1, isB1, isS1, yes, isInst, lenW, List.map_cons, List.map_nil, List.cons_append, List.nil_append, List.replicate_succ, List.replicate_zero, Nat.reduceSub, Bool.not_true, Bool.not_false, ite_true, ite_false, iSeq, seqOf, List.headD_cons, List.tail_cons, guard_tt, bind_as, eqW_ii, ed, fitsm1, pl0, pl1, pl2, sliT, cut_last, guard_sz, List.length_cons, List.length_nil, plT]
    · have ed : eqI ((d : Nat) : Int) 1 = false := by rw [eqI_dec]; exact decide_eq_false (by omega)
      refine ⟨p, hp, hs, hg', ?_⟩
      simp -implicitDefEqProofs only [exSs, exS, evE, evL, evO, evI, sSeq, sAsg, sExp, sApp, sPut, sRet, sRetv, sIte, sPar, lPar, moveS, kOp, kChain, kIdx, kLst, Ev.kTup, kCon, kVar, kNot, kAnd, kOr, kIte, kBi, kCall, kSli, oInt, kNeg, kConv, lA, lH, lAnd, lOr, lArgs, ioTake, putBack, own, hd, isV, getAll, hget_val, hget_slot, T.bind_ok, fz, rd0, rdS, sett0, settS, setG_nm, setGs_nil, setGs_cons, setG_tp, cond_true, cond_false, boolOf, bopsI, op2, two_ii, subW, ltW, leW, gtW, geW, eqR, neR, yes, nay, biW, bi1, bi2, isR, isnotR, isT1, isI1, isB1, isS1, yes, isInst, lenW, List.map_cons, List.map_nil, List.cons_append, List.nil_append, List.replicate_succ, List.replicate_zero, Nat.reduceSub, Bool.not_true, Bool.not_false, ite_true, ite_false, iSeq, seqOf, List.headD_cons, List.tail_cons, guard_tt, bind_as, eqW_ii, ed]
  refine Wstep01 eS' ?_
  simp -implicitDefEqProofs only [exSs, exS, evE, evL, evO, evI, sSeq, sAsg, sExp, sApp, sPut, sRet, sRetv, sIte, sPar, lPar, moveS, kOp, kChain, kIdx, kLst, Ev.kTup, kCon, kVar, kNot, kAnd, kOr, kIte, kBi, kCall, kSli, oInt, kNeg, kConv, lA, lH, lAnd, lOr, lArgs, ioTake, putBack, own, hd, isV, getAll, hget_val, hget_slot, T.bind_ok, fz, rd0, rdS, sett0, settS, setG_nm, setGs_nil, setGs_cons, setG_tp, cond_true, cond_false, boolOf, bopsI, op2, two_ii, subW, ltW, leW, gtW, geW, eqR, neR, yes, nay, biW, bi1, bi2, isR, isnotR, isT1, isI1, isB1, isS1, yes, isInst, lenW, List.map_cons, List.map_nil, List.cons_append, List.nil_append, List.replicate_succ, List.replicate_zero, Nat.reduceSub, Bool.not_true, Bool.not_false, ite_true, ite_false, iSeq, seqOf, List.headD_cons, List.tail_cons, guard_tt, bind_as, io40]
  refine Wbind ?_
  have c40 : WB (callN fks cn fuel 40 [(.orc, false), (plW p', false), (glW gs', false)]) b2 (fun r b3 => b2 ≤ b3 + 28 ∧ r = ((.bl true, false), [])) := right_wb (n := 44) hp' hs' hg'' hl' (by omega) fun b' hb' => ⟨hb', rfl⟩
  refine Wmono c40 ?_
  rintro r b3 ⟨hb3, rfl⟩
  simp -implicitDefEqProofs only [exSs, exS, evE, evL, evO, evI, sSeq, sAsg, sExp, sApp, sPut, sRet, sRetv, sIte, sPar, lPar, moveS, kOp, kChain, kIdx, kLst, Ev.kTup, kCon, kVar, kNot, kAnd, kOr, kIte, kBi, kCall, kSli, oInt, kNeg, kConv, lA, lH, lAnd, lOr, lArgs, ioTake, putBack, own, hd, isV, getAll, hget_val, hget_slot, T.bind_ok, fz, rd0, rdS, sett0, settS, setG_nm, setGs_nil, setGs_cons, setG_tp, cond_true, cond_false, boolOf, bopsI, op2, two_ii, subW, ltW, leW, gtW, geW, eqR, neR, yes, nay, biW, bi1, bi2, isR, isnotR, isT1, isI1, isB1, isS1, yes, isInst, lenW, List.map_cons, List.map_nil, List.cons_append, List.nil_append, List.replicate_succ, List.replicate_zero, Nat.reduceSub, Bool.not_true, Bool.not_false, ite_true, ite_false, iSeq, seqOf, List.headD_cons, List.tail_cons, guard_tt, bind_as]
  exact Wok rfl ⟨_, rfl, _, _, _, _, by omega, rfl⟩
theorem law_ok56 (c : Nat) (hc : c ≤ 63) : (lawN fks cn lw fuel c).wb BIG (fun r _ => r = (.bl true, false)) := by
  refine WB.h ?_
  have hB : BIG = 900 + (BIG - 900) := by decide +kernel
  unfold lawN
  refine Wbind ?_
  refine Wok (a := Fl.nx (some (.scr c, false) :: List.replicate (lw.ns - 1) none)) rfl ?_
  show WB ((rd _ 0).bind _) _ _
  refine Wbind (Wok rfl ?_)
  have hsc : isScr c (W.scr c, false) = true := Nat.beq_refl c
  rw [guard_t hsc]
  show WB ((exSs (callN fks cn fuel) (ioOf fks) cn _ (lSl c none none none none)).bind fin2) BIG _
  refine Wstep (Wmono (P := fun (f : Fl) (b1 : Nat) => ∃ a2 a3 a4 a5, f = Fl.nx (lSl c a2 a3 a4 a5)) ?_ ?_)
  · rw [exS, sFor]
    refine Wbind ?_
    have hm : minW (.int (c : Int)) (.int 2) = .ok (.int ((min c 2 : Nat) : Int), false) := min_nat c 2
    have f1 : fits62 (2 + ((min c 2 : Nat) : Int)) = true := by
      have := fits_nat (m := 2 + min c 2) (by omega)
      rw [Int.natCast_add] at this
      exact this
    have e1 : (2 + ((min c 2 : Nat) : Int)).toNat = 2 + min c 2 := by omega
    refine Wok (a := (rngL 0 (2 + min c 2), lSl c none none none none)) ?_ ?_
    · simp -implicitDefEqProofs only [exSs, exS, evE, evL, evO, evI, sSeq, sAsg, sExp, sApp, sPut, sRet, sRetv, sIte, sPar, lPar, moveS, kOp, kChain, kIdx, kLst, Ev.kTup, kCon, kVar, kNot, kAnd, kOr, kIte, kBi, kCall, kSli, oInt, kNeg, kConv, lA, lH, lAnd, lOr, lArgs, ioTake, putBack, own, hd, isV, getAll, hget_val, hget_slot, T.bind_ok, fz, rd0, rdS, sett0, settS, setG_nm, setGs_nil, setGs_cons, setG_tp, cond_true, cond_false, boolOf, bopsI, op2, two_ii, subW, ltW, leW, gtW, geW, eqR, neR, yes, nay, biW, bi1, bi2, isR, isnotR, isT1, isI1, isB1, isS1, yes, isInst, lenW, List.map_cons, List.map_nil, List.cons_append, List.nil_append, List.replicate_succ, List.replicate_zero, Nat.reduceSub, Bool.not_true, Bool.not_false, ite_true, ite_false, iSeq, seqOf, List.headD_cons, List.tail_cons, guard_tt, bind_as, iR1, hm, f1, e1]
    refine Wfor (P := fun i sl b1 => ∃ a2 a3 a4 a5, BIG ≤ b1 + 160 * i ∧ sl = lSl c a2 a3 a4 a5) ⟨_, _, _, _, by omega, rfl⟩ (fun i x sl b1 ex hp => ?_) (fun sl b1 hp => ?_)
    · have il : i < 4 := by
        have := (List.getElem?_eq_some_iff.mp ex).1
        rw [rngL0, List.length_map, List.length_range] at this
        omega
      exact law_turn (by omega) il hp
    · obtain ⟨a2, a3, a4, a5, _, rfl⟩ := hp
      exact ⟨a2, a3, a4, a5, rfl⟩
  rintro f b1 ⟨a2, a3, a4, a5, rfl⟩
  refine ⟨_, rfl, ?_⟩
  refine Wok (a := (.bl true, false)) ?_ rfl
  simp -implicitDefEqProofs only [exSs, exS, evE, evL, evO, evI, sSeq, sAsg, sExp, sApp, sPut, sRet, sRetv, sIte, sPar, lPar, moveS, kOp, kChain, kIdx, kLst, Ev.kTup, kCon, kVar, kNot, kAnd, kOr, kIte, kBi, kCall, kSli, oInt, kNeg, kConv, lA, lH, lAnd, lOr, lArgs, ioTake, putBack, own, hd, isV, getAll, hget_val, hget_slot, T.bind_ok, fz, rd0, rdS, sett0, settS, setG_nm, setGs_nil, setGs_cons, setG_tp, cond_true, cond_false, boolOf, bopsI, op2, two_ii, subW, ltW, leW, gtW, geW, eqR, neR, yes, nay, biW, bi1, bi2, isR, isnotR, isT1, isI1, isB1, isS1, yes, isInst, lenW, List.map_cons, List.map_nil, List.cons_append, List.nil_append, List.replicate_succ, List.replicate_zero, Nat.reduceSub, Bool.not_true, Bool.not_false, ite_true, ite_false, iSeq, seqOf, List.headD_cons, List.tail_cons, guard_tt, bind_as, io41, hand_ok]
  rfl
theorem whole : PySem.Challenge.rw_openverbs_k56_whole_plans_right_by_words.Holds := holds_of law_ok56
end Ov
end
end
theorem PySem.Challenge.cw_openverbs_k56_whole_plans_right_by_words_holds : PySem.Challenge.rw_openverbs_k56_whole_plans_right_by_words.Holds := by
  exact Ov.whole
