import PyProof.Rows.All
import PySem.Str
import PySem.PyData
import PyProof.P3Statements
import PyProof.ReprReads
import PyProof.EqLayable
import HandS.ForMost
import HandS.Exc
import HandS.Flow
import HandS.Style
import HandS.TupAny
import HandS.TupMul
import HandS.IsInst
import HandS.Conv
import HandS.Strs
import HandS.Zip
import HandS.Deep
import HandS.Wide
import HandS.Defaults
import HandS.Lambda
import HandS.Star
import KE.KDflt
import PyProof.Rows.SortShellAny
import PyProof.TupleOfSeq
import HandS.ExcField
import KE.KIsAll
import KE.GoesZip
import KE.GoesMore
import KE.GoesEnum
import KE.KDictZip
import KE.KExcIs
import HandS.HeadEnd
import HandS.Ends
import HandS.EndTab
import HandS.ExcInit
import KE.KExcSuper
import KE.KSuper
import HandS.HeadHook2
import HandS.HeadHook4
import HandS.Head2
import HandS.NestedK
import Wide.All
import OpenK.AllK
import Wide.FinOn
import PySem.Challenge.RW_openverbs_k00_errors_of_all_parts
section
set_option Elab.async false
set_option linter.all false
set_option maxRecDepth 100000
/-! Ev: a small evaluator of my own for the part of Python that the laws of openverbs use. Values, outcomes, the small language, the evaluator. -/
noncomputable section
namespace Ev
open PySem

abbrev Ky := Sum Int Str

/-- values: orc is the state from which the law draws; scr n the script, of n numbers; rpr d is the text repr of the data d; fn j the def number j; clo j vs the lambda number j with what it captured; err c fs an error of the class number c with its fields -/
inductive W where
  | non | bl (b : Bool) | int (i : Int) | str (x : Str) | rpr (d : PyData)
  | tup (xs : List W) | lst (xs : List W) | dct (kvs : List (Ky × W))
  | fn (j : Nat) | orc | scr (n : Nat)
  | clo (j : Nat) (vs : List W) | err (c : Nat) (fs : List W)
  | clr (k : Nat) (caps : List Nat)

/-- outcomes: a value, an exception (its class by number, its fields), stuck (nothing is said), a drawn number below l -/
inductive T (α : Type) where
  | ok (a : α) | exc (c : Nat) (fs : List W) | stk | draw (l : Nat) (k : Nat → T α)

/-- a wish about exceptions: the class's number, the fields, how many numbers may still be drawn -/
abbrev XP := Nat → List W → Nat → Prop
namespace T
variable {α β : Type}
def bind (t : T α) (f : α → T β) : T β := @T.rec α (fun _ => T β) f (fun c fs => .exc c fs) .stk (fun l _ ih => .draw l ih) t
/-- what is wanted of every way -/
def wp : T α → (α → Prop) → (Nat → List W → Prop) → Prop
  | .ok a, Q, _ => Q a
  | .exc c fs, _, E => E c fs
  | .stk, _, _ => False
  | .draw l k, Q, E => ∀ d, d < l → (k d).wp Q E
theorem wp_bind {f : α → T β} {Q : β → Prop} {E : Nat → List W → Prop} : ∀ {t : T α}, (t.bind f).wp Q E ↔ t.wp (fun a => (f a).wp Q E) E
  | .ok _ => Iff.rfl
  | .exc _ _ => Iff.rfl
  | .stk => Iff.rfl
  | .draw l k => by
    show (∀ d, d < l → ((k d).bind f).wp Q E) ↔ (∀ d, d < l → (k d).wp (fun a => (f a).wp Q E) E)
    exact ⟨fun h d hd => wp_bind.mp (h d hd), fun h d hd => wp_bind.mpr (h d hd)⟩
theorem wp_mono {Q Q' : α → Prop} {E E' : Nat → List W → Prop} (hQ : ∀ a, Q a → Q' a) (hE : ∀ c fs, E c fs → E' c fs) : ∀ {t : T α}, t.wp Q E → t.wp Q' E'
  | .ok a, h => hQ a h
  | .exc c fs, h => hE c fs h
  | .stk, h => h
  | .draw l k, h => fun d hd => wp_mono hQ hE (h d hd)
/-- .. with at most b numbers drawn; XE: what is wished of an exception -/
def wb (XE : XP) : T α → Nat → (α → Nat → Prop) → Prop
  | .ok a, b, Q => Q a b
  | .exc c fs, b, _ => XE c fs b
  | .stk, _, _ => False
  | .draw l k, b, Q => match b with
    | 0 => False
    | b + 1 => ∀ d, d < l → (k d).wb XE b Q
theorem wb_bind {XE : XP} {f : α → T β} {Q : β → Nat → Prop} : ∀ {t : T α} {b : Nat}, (t.bind f).wb XE b Q ↔ t.wb XE b (fun a b' => (f a).wb XE b' Q)
  | .ok _, _ => Iff.rfl
  | .exc _ _, _ => Iff.rfl
  | .stk, _ => Iff.rfl
  | .draw l k, 0 => Iff.rfl
  | .draw l k, b + 1 => by
    show (∀ d, d < l → ((k d).bind f).wb XE b Q) ↔ (∀ d, d < l → (k d).wb XE b (fun a b' => (f a).wb XE b' Q))
    exact ⟨fun h d hd => wb_bind.mp (h d hd), fun h d hd => wb_bind.mpr (h d hd)⟩
theorem wb_mono {XE : XP} {Q Q' : α → Nat → Prop} (hQ : ∀ a b, Q a b → Q' a b) : ∀ {t : T α} {b : Nat}, t.wb XE b Q → t.wb XE b Q'
  | .ok a, b, h => hQ a b h
  | .exc _ _, _, h => h
  | .stk, _, h => h
  | .draw l k, 0, h => h
  | .draw l k, b + 1, h => fun d hd => wb_mono hQ (h d hd)
/-- nothing is raised -/
def noX : XP := fun _ _ _ => False
theorem wb_exc {XE XE' : XP} {Q : α → Nat → Prop} (hE : ∀ c fs b, XE c fs b → XE' c fs b) : ∀ {t : T α} {b : Nat}, t.wb XE b Q → t.wb XE' b Q
  | .ok a, b, h => h
  | .exc _ _, _, h => hE _ _ _ h
  | .stk, _, h => h
  | .draw l k, 0, h => h
  | .draw l k, b + 1, h => fun d hd => wb_exc hE (h d hd)
/-- an exception is nothing that is told -/
def calm (t : T α) : T α := @T.rec α (fun _ => T α) .ok (fun _ _ => .stk) .stk (fun l _ ih => .draw l ih) t
theorem wb_calm {XE : XP} {Q : α → Nat → Prop} : ∀ {t : T α} {b : Nat}, t.calm.wb XE b Q → t.wb noX b Q
  | .ok a, b, h => h
  | .exc _ _, _, h => h
  | .stk, _, h => h
  | .draw l k, 0, h => h
  | .draw l k, b + 1, h => fun d hd => wb_calm (h d hd)
/-- what comes of a value, of an exception -/
def catch_ (t : T α) (f : α → T β) (h : Nat → List W → T β) : T β := @T.rec α (fun _ => T β) f h .stk (fun l _ ih => .draw l ih) t
theorem wb_catch {XE : XP} {f : α → T β} {h : Nat → List W → T β} {Q : β → Nat → Prop} : ∀ {t : T α} {b : Nat}, (t.catch_ f h).wb XE b Q → t.wb (fun c fs b' => (h c fs).wb XE b' Q) b (fun a b' => (f a).wb XE b' Q)
  | .ok _, _, q => q
  | .exc _ _, _, q => q
  | .stk, _, q => q
  | .draw l k, 0, q => q
  | .draw l k, b + 1, q => fun d hd => wb_catch (q d hd)
def ofOpt : Option α → T α
  | some a => .ok a
  | none => .stk
def guard (b : Bool) (t : T α) : T α := cond b t .stk
theorem wb_guard {XE : XP} {c : Bool} {t : T α} {b : Nat} {Q : α → Nat → Prop} (h : (guard c t).wb XE b Q) : c = true ∧ t.wb XE b Q := by
  cases c with
  | true => exact ⟨rfl, h⟩
  | false => exact h.elim
theorem wb_opt {XE : XP} {o : Option α} {b : Nat} {Q : α → Nat → Prop} (h : (ofOpt o).wb XE b Q) : ∃ a, o = some a ∧ Q a b := by
  cases o with
  | some a => exact ⟨a, rfl, h⟩
  | none => exact h.elim
theorem bind_ok (a : α) (f : α → T β) : (T.ok a).bind f = f a := rfl
end T

/-! ### rows by number -/
def nth {α : Type} (xs : List α) : Nat → Option α := @List.rec α (fun _ => Nat → Option α) (fun _ => none) (fun x _ ih i => @Nat.casesOn (fun _ => Option α) i (some x) ih) xs
def sett {α : Type} (xs : List α) : Nat → α → List α := @List.rec α (fun _ => Nat → α → List α) (fun _ _ => []) (fun x r ih i y => @Nat.casesOn (fun _ => List α) i (y :: r) (fun j => x :: ih j y)) xs
theorem nth_eq {α : Type} : ∀ (xs : List α) (i : Nat), nth xs i = xs[i]?
  | [], _ => by rw [List.getElem?_nil]; rfl
  | _ :: _, 0 => rfl
  | _ :: r, i + 1 => by
    rw [List.getElem?_cons_succ]
    exact nth_eq r i
theorem sett_eq {α : Type} : ∀ (xs : List α) (i : Nat) (y : α), sett xs i y = xs.set i y
  | [], _, _ => rfl
  | _ :: _, 0, _ => rfl
  | x :: r, i + 1, y => by
    rw [List.set_cons_succ]
    exact congrArg (x :: ·) (sett_eq r i y)
/-! ### texts -/
def eqNs : List Nat → List Nat → Bool
  | [], [] => true
  | a :: r, b :: q => Nat.beq a b && eqNs r q
  | _, _ => false
theorem eqNs_iff : ∀ {a b : List Nat}, eqNs a b = true ↔ a = b
  | [], [] => by simp [eqNs]
  | [], _ :: _ => by simp [eqNs]
  | _ :: _, [] => by simp [eqNs]
  | a :: r, b :: q => by
    unfold eqNs
    rw [Bool.and_eq_true, eqNs_iff (a := r) (b := q), Nat.beq_eq]
    constructor
    · rintro ⟨h1, h2⟩
      rw [h1, h2]
    · intro h
      cases h
      exact ⟨rfl, rfl⟩
def eqS (x y : Str) : Bool := eqNs x.cps.toList y.cps.toList
theorem eqS_iff {x y : Str} : eqS x y = true ↔ x = y := by
  unfold eqS
  rw [eqNs_iff]
  constructor
  · intro h
    cases x; cases y
    have : _ = _ := Array.toList_inj.mp h
    exact congrArg Str.mk this
  · intro h; rw [h]
theorem eqS_dec (x y : Str) : eqS x y = decide (x = y) := by
  cases h : eqS x y with
  | true => exact (decide_eq_true (eqS_iff.mp h)).symm
  | false => exact (decide_eq_false fun e => by rw [eqS_iff.mpr e] at h; cases h).symm
theorem eqS_self (x : Str) : eqS x x = true := eqS_iff.mpr rfl
def eqI (i j : Int) : Bool := match i, j with
  | .ofNat a, .ofNat b => Nat.beq a b
  | .negSucc a, .negSucc b => Nat.beq a b
  | _, _ => false
theorem eqI_dec (i j : Int) : eqI i j = decide (i = j) := by
  cases i with
  | ofNat a =>
    cases j with
    | ofNat b =>
      show Nat.beq a b = _
      by_cases h : a = b
      · subst h; simp
      · have h' : ¬ (Int.ofNat a = Int.ofNat b) := fun e => h (Int.ofNat.inj e)
        rw [decide_eq_false h']
        cases e : Nat.beq a b with
        | false => rfl
        | true => exact absurd (Nat.eq_of_beq_eq_true e) h
    | negSucc b => exact (decide_eq_false fun e => nomatch e).symm
  | negSucc a =>
    cases j with
    | ofNat b => exact (decide_eq_false fun e => nomatch e).symm
    | negSucc b =>
      show Nat.beq a b = _
      by_cases h : a = b
      · subst h; simp
      · have h' : ¬ (Int.negSucc a = Int.negSucc b) := fun e => h (Int.negSucc.inj e)
        rw [decide_eq_false h']
        cases e : Nat.beq a b with
        | false => rfl
        | true => exact absurd (Nat.eq_of_beq_eq_true e) h
def eqK : Ky → Ky → Bool
  | .inl i, .inl j => eqI i j
  | .inr x, .inr y => eqS x y
  | _, _ => false
theorem eqK_dec (k x : Ky) : eqK k x = decide (k = x) := by
  cases k with
  | inl i =>
    cases x with
    | inl j =>
      show eqI i j = _
      rw [eqI_dec]
      by_cases h : i = j
      · subst h; simp
      · rw [decide_eq_false h, decide_eq_false fun e => h (Sum.inl.inj e)]
    | inr y => exact (decide_eq_false fun e => nomatch e).symm
  | inr z =>
    cases x with
    | inl j => exact (decide_eq_false fun e => nomatch e).symm
    | inr y =>
      show eqS z y = _
      rw [eqS_dec]
      by_cases h : z = y
      · subst h; simp
      · rw [decide_eq_false h, decide_eq_false fun e => h (Sum.inr.inj e)]

/-! ### data -/
mutual
def toD : W → Option PyData
  | .non => some .none
  | .bl b => some (.bool b)
  | .int i => some (.int i)
  | .str x => some (.str x)
  | .tup xs => (toDs xs).map .tuple
  | .lst xs => (toDs xs).map .list
  | .rpr _ => none
  | .dct _ => none
  | .fn _ => none
  | .orc => none
  | .scr _ => none
  | .clo _ _ => none
  | .err _ _ => none
  | .clr _ _ => none
def toDs : List W → Option (List PyData)
  | [] => some []
  | x :: xs => match toD x, toDs xs with
    | some d, some ds => some (d :: ds)
    | _, _ => none
end
mutual
/-- no lambda within -/
def noClo : W → Bool
  | .tup ws => noCloL ws
  | .lst ws => noCloL ws
  | .dct kvs => noCloK kvs
  | .clo _ _ => false
  | .clr _ _ => false
  | .err _ fs => noCloL fs
  | .non => true
  | .bl _ => true
  | .int _ => true
  | .str _ => true
  | .rpr _ => true
  | .fn _ => true
  | .orc => true
  | .scr _ => true
def noCloL : List W → Bool
  | [] => true
  | w :: ws => noClo w && noCloL ws
def noCloK : List (Ky × W) → Bool
  | [] => true
  | (_, w) :: ws => noClo w && noCloK ws
end
mutual
/-- two data are the same (structure alone) -/
def sameD : PyData → PyData → Bool
  | .none, .none => true
  | .bool a, .bool b => a == b
  | .int i, .int j => eqI i j
  | .str x, .str y => eqS x y
  | .list xs, .list ys => sameDs xs ys
  | .tuple xs, .tuple ys => sameDs xs ys
  | .dict xs, .dict ys => sameDk xs ys
  | _, _ => false
def sameDk : List (PyData × PyData) → List (PyData × PyData) → Bool
  | [], [] => true
  | (a, b) :: xs, (c, d) :: ys => sameD a c && (sameD b d && sameDk xs ys)
  | _, _ => false
def sameDs : List PyData → List PyData → Bool
  | [], [] => true
  | x :: xs, y :: ys => sameD x y && sameDs xs ys
  | _, _ => false
end
mutual
theorem sameD_eq : ∀ {d e : PyData}, sameD d e = true → d = e
  | .none, .none, _ => rfl
  | .bool a, .bool b, h => by
    have : (a == b) = true := h
    rw [eq_of_beq this]
  | .int i, .int j, h => by
    have h : eqI i j = true := h
    rw [eqI_dec] at h
    rw [of_decide_eq_true h]
  | .str x, .str y, h => by
    have h : eqS x y = true := h
    rw [eqS_iff.mp h]
  | .list xs, .list ys, h => by
    have h : sameDs xs ys = true := h
    rw [sameDs_eq h]
  | .tuple xs, .tuple ys, h => by
    have h : sameDs xs ys = true := h
    rw [sameDs_eq h]
  | .none, .bool _, h | .none, .int _, h | .none, .str _, h | .none, .list _, h | .none, .tuple _, h | .none, .dict _, h => by cases h
  | .bool _, .none, h | .bool _, .int _, h | .bool _, .str _, h | .bool _, .list _, h | .bool _, .tuple _, h | .bool _, .dict _, h => by cases h
  | .int _, .none, h | .int _, .bool _, h | .int _, .str _, h | .int _, .list _, h | .int _, .tuple _, h | .int _, .dict _, h => by cases h
  | .str _, .none, h | .str _, .bool _, h | .str _, .int _, h | .str _, .list _, h | .str _, .tuple _, h | .str _, .dict _, h => by cases h
  | .list _, .none, h | .list _, .bool _, h | .list _, .int _, h | .list _, .str _, h | .list _, .tuple _, h | .list _, .dict _, h => by cases h
  | .tuple _, .none, h | .tuple _, .bool _, h | .tuple _, .int _, h | .tuple _, .str _, h | .tuple _, .list _, h | .tuple _, .dict _, h => by cases h
  | .dict xs, .dict ys, h => by
    have h : sameDk xs ys = true := h
    rw [sameDk_eq h]
  | .dict _, .none, h | .dict _, .bool _, h | .dict _, .int _, h | .dict _, .str _, h | .dict _, .list _, h | .dict _, .tuple _, h => by cases h
theorem sameDk_eq : ∀ {d e : List (PyData × PyData)}, sameDk d e = true → d = e
  | [], [], _ => rfl
  | (a, b) :: xs, (c, d) :: ys, h => by
    have h : (sameD a c && (sameD b d && sameDk xs ys)) = true := h
    rw [Bool.and_eq_true, Bool.and_eq_true] at h
    rw [sameD_eq h.1, sameD_eq h.2.1, sameDk_eq h.2.2]
  | [], _ :: _, h => by cases h
  | _ :: _, [], h => by cases h
theorem sameDs_eq : ∀ {d e : List PyData}, sameDs d e = true → d = e
  | [], [], _ => rfl
  | x :: xs, y :: ys, h => by
    have h : (sameD x y && sameDs xs ys) = true := h
    rw [Bool.and_eq_true] at h
    rw [sameD_eq h.1, sameDs_eq h.2]
  | [], _ :: _, h => by cases h
  | _ :: _, [], h => by cases h
end
mutual
theorem sameD_self : ∀ (d : PyData), d.hasDict = false → sameD d d = true
  | .none, _ => rfl
  | .bool a, _ => by show (a == a) = true; exact beq_self_eq_true a
  | .int i, _ => by show eqI i i = true; rw [eqI_dec]; exact decide_eq_true rfl
  | .str x, _ => eqS_self x
  | .list xs, h => sameDs_self xs h
  | .tuple xs, h => sameDs_self xs h
  | .dict _, h => by cases h
theorem sameDs_self : ∀ (d : List PyData), PyData.hasDictAll d = false → sameDs d d = true
  | [], _ => rfl
  | x :: xs, h => by
    have h : (x.hasDict || PyData.hasDictAll xs) = false := h
    rw [Bool.or_eq_false_iff] at h
    show (sameD x x && sameDs xs xs) = true
    rw [sameD_self x h.1, sameDs_self xs h.2]
    rfl
end
mutual
/-- more than the length of the text repr -/
def roomD : PyData → Nat
  | .none => 4
  | .bool _ => 5
  | .int i => i.natAbs.log2 + 3
  | .str x => (reprText x).length
  | .list xs => roomDs xs + 3
  | .tuple xs => roomDs xs + 3
  | .dict _ => 0
def roomDs : List PyData → Nat
  | [] => 0
  | x :: xs => roomD x + 2 + roomDs xs
end
def reprOk (d : PyData) : Bool := d.showable && (decide (roomD d ≤ sizeLine) && !d.hasDict && decide (d.depth ≤ 64))

/-! ### the small language -/
inductive Op2 where
  | add | sub | mul | fdiv | mod | pow | bor | band | eq | ne | lt | le | gt | ge | is | isnot | isin | notin
  deriving DecidableEq
/-- built-in functions of values -/
inductive Bi where
  | len | int | repr | tuple | list | sum | sorted | dict | min2 | max2 | abs | all | any
  | isInt | isBool | isStr | isTuple | isList | isDict
  deriving DecidableEq
/-- methods that change nothing -/
inductive Mt where
  | index | get2
  deriving DecidableEq
inductive Tg where
  | nm (i : Nat) | tp (ts : List Tg)
mutual
inductive Ex where
  | bad | var (i : Nat) | con (w : W) | glo (k : Nat)
  | tup (es : Exs) | lst (es : Exs) | dnew
  | op (o : Op2) (a b : Ex) | chain (o p : Op2) (a b c : Ex) | neg (a : Ex) | not (a : Ex) | and (es : Exs) | or (es : Exs)
  | ite (c a b : Ex) | idx (a i : Ex) | sli (a : Ex) (lo hi : Option Ex)
  | call (j : Nat) (es : Exs) | bi (b : Bi) (es : Exs) | mth (m : Mt) (a : Ex) (es : Exs) | draw (m l : Ex)
  | conv (tp : Bool) (it : It)
  | lc (own : List Nat) (e : Ex) (g : Tg) (it : It) (ifs : Exs)
  | lc2 (own own1 : List Nat) (e : Ex) (g : Tg) (it : It) (g1 : Tg) (it1 : It)
  | tupS (l : Bool) (ms : List Bool) (es : Exs)
  | lamr (k : Nat) (caps : List Nat) | callC (j : Nat) (cs : List Nat) (es : Exs) | callK (j : Nat) (is : List Nat) (es : Exs) | isE (i d : Nat) | mkE (kw : Bool) (c : Nat) (is : List Nat) (es : Exs) | dsp (x : Str) (is : List Int)
  | fnv (j : Nat) | callv (i : Nat) (es : Exs) | hear (j k : Nat) (caps : List Nat) | fld (i : Nat) (y : Str)
inductive Exs where
  | nil | cons (e : Ex) (es : Exs)
inductive It where
  | seq (e : Ex) | txt (e : Ex) | rng1 (a : Ex) | rng2 (a b : Ex) | rng3 (a b c : Ex) | enum (e : Ex) | zip (a b : Ex) | enumZip (a b : Ex)
end
/-- of an error that is caught: constants, names, its fields, itself -/
inductive Hx where
  | con (w : W) | var (i : Nat) | fld (i : Nat) (y : Str) | tup (xs : List Hx)
inductive Hs where
  | asg (i : Nat) (x : Hx) | ret (x : Hx) | app (i : Nat) (x : Hx) | pass
/-- which classes: all, or one -/
inductive Sel where
  | any | one (c : Nat)
structure Hd0 where
  sel : Sel
  nm : Option Nat
  body : List Hs
/-- what a try does with what its call gives -/
inductive Tk where
  | exp | ret | retL | asg (i : Nat)
mutual
inductive Sm where
  | try_ (k : Tk) (e : Ex) (hs : List Hd0)
  | aug (i : Nat) (m : Bool) (e : Ex)
  | exp (e : Ex) | par (gs : List Nat) (t : Nat) (es : Exs) | asg (g : Tg) (e : Ex) | put (i : Nat) (k v : Ex) | app (i : Nat) (e : Ex) | ret (e : Ex) | retv (i : Nat) | retN
  | ite (c : Ex) (a b : Sms) | for_ (g : Tg) (it : It) (b : Sms) | while_ (c : Ex) (b : Sms) | ext (i : Nat) (e : Ex) | pass | brk | cont | never | raise (c : Nat) (es : Exs)
inductive Sms where
  | nil | cons (s : Sm) (r : Sms)
end

mutual
/-- the slots of a target -/
def tIx : Tg → List Nat
  | .nm i => [i]
  | .tp ts => tIxs ts
def tIxs : List Tg → List Nat
  | [] => []
  | t :: ts => tIx t ++ tIxs ts
end
/-! ### operations by values -/
abbrev R := W × Bool
/-- the classes' places stand behind the defs' -/
def clN : Nat := 100000
def fz (w : W) : T R := .ok (w, false)
def ixOf (n : Nat) (i : Int) : Option Nat := if 0 ≤ i then (if i < n then some i.toNat else none) else if -(n : Int) ≤ i then some (i + n).toNat else none
def cutIx (n d : Nat) : Option Int → Nat
  | none => d
  | some v => if v < 0 then (v + (n : Int)).toNat else min v.toNat n
def cut (xs : List W) (lo hi : Option Int) : List W := (xs.drop (cutIx xs.length 0 lo)).take (cutIx xs.length xs.length hi - cutIx xs.length 0 lo)
def small64 (i : Int) : Bool := decide (-(2 ^ 64) < i) && decide (i < 2 ^ 64)
def eqG (a b : W) : T Bool := match toD a with
  | some d => (match toD b with
    | some e => T.guard (SeqAt.shaped d && SeqAt.shaped e) (.ok (PyData.eqv d e))
    | none => .stk)
  | none => .stk
def eqW (a b : W) : T Bool := match a with
  | .int i => (match b with
    | .int j => .ok (eqI i j)
    | _ => eqG a b)
  | .str x => (match b with
    | .str y => .ok (eqS x y)
    | _ => eqG a b)
  | .rpr d => (match b with
    | .rpr e => .ok (sameD d e || eqS d.shown e.shown)
    | _ => .stk)
  | _ => eqG a b
def flatW : W → Bool
  | .non => true
  | .bl _ => true
  | .int _ => true
  | .str _ => true
  | _ => false
def eqF : W → W → Bool
  | .non, .non => true
  | .bl a, .bl b => a == b
  | .bl a, .int b => (if a then 1 else 0) == b
  | .int a, .bl b => a == (if b then 1 else 0)
  | .int a, .int b => eqI a b
  | .str a, .str b => eqS a b
  | _, _ => false
def hasW (x : W) (xs : List W) : Bool := xs.any fun y => eqF y x
def lookK : List (Ky × W) → Ky → Option W
  | [], _ => none
  | (k, v) :: r, x => cond (eqK k x) (some v) (lookK r x)
def hasK : List (Ky × W) → Ky → Bool
  | [], _ => false
  | (k, _) :: r, x => cond (eqK k x) true (hasK r x)
def mapK : List (Ky × W) → Ky → W → List (Ky × W)
  | [], _, _ => []
  | (k, v) :: r, x, w => (k, cond (eqK k x) w v) :: mapK r x w
/-- in its place, or at the end -/
def putK (kvs : List (Ky × W)) (x : Ky) (w : W) : List (Ky × W) := cond (hasK kvs x) (mapK kvs x w) (kvs ++ [(x, w)])
def keyOf : W → Option Ky
  | .int i => some (.inl i)
  | .str x => some (.inr x)
  | _ => none
def inW (x : W) : W → T Bool
  | .tup xs => T.guard (flatW x && xs.all flatW) (.ok (hasW x xs))
  | .lst xs => T.guard (flatW x && xs.all flatW) (.ok (hasW x xs))
  | .dct kvs => match keyOf x with
    | some k => .ok (lookK kvs k).isSome
    | none => .stk
  | _ => .stk
def addW (x y : W) : T R := match x with
  | .int i => (match y with
    | .int j => fz (.int (i + j))
    | _ => .stk)
  | .str x => (match y with
    | .str y => T.guard (Nat.ble (x.length + y.length) sizeLine) (fz (.str (x ++ y)))
    | _ => .stk)
  | .tup xs => (match y with
    | .tup ys => T.guard (Nat.ble (xs.length + ys.length) sizeLine) (fz (.tup (xs ++ ys)))
    | _ => .stk)
  | .lst xs => (match y with
    | .lst ys => T.guard (Nat.ble (xs.length + ys.length) sizeLine) (.ok (.lst (xs ++ ys), true))
    | _ => .stk)
  | _ => .stk
/-- two ints -/
def two (x y : W) (f : Int → Int → T R) : T R := match x with
  | .int i => (match y with
    | .int j => f i j
    | _ => .stk)
  | _ => .stk
def mulW (x y : W) : T R := match x with
  | .int i => (match y with
    | .int j => T.guard (small64 i || small64 j) (fz (.int (i * j)))
    | _ => .stk)
  | .lst xs => (match y with
    | .int k => T.guard (decide (-(2 ^ 63) ≤ k) && decide (k < 2 ^ 63) && Nat.ble (xs.length * k.toNat) sizeLine) (.ok (.lst (List.replicate k.toNat xs).flatten, true))
    | _ => .stk)
  | .tup xs => (match y with
    | .int k => cond (decide (k = 1)) (.ok (.tup xs, false)) (T.guard (!xs.isEmpty && decide (2 ≤ k) && decide (k ≤ 1000) && Nat.ble xs.length 1000) (fz (.tup (List.replicate k.toNat xs).flatten)))
    | _ => .stk)
  | _ => .stk
def isNon : W → Bool
  | .non => true
  | _ => false
def isW (x y : W) : T Bool := match y with
  | .non => .ok (isNon x)
  | .bl b => (match x with
    | .bl a => .ok (decide (a = b))
    | _ => .stk)
  | _ => .stk
def subW (x y : W) : T R := two x y fun i j => fz (.int (i - j))
def fdivW (x y : W) : T R := two x y fun i j => T.guard (decide (0 < j) && decide (j < 1073741824)) (fz (.int (i / j)))
def modW (x y : W) : T R := two x y fun i j => T.guard (decide (0 < j)) (fz (.int (i % j)))
def powW (x y : W) : T R := two x y fun i j => T.guard (decide (0 ≤ j) && decide (j ≤ 1000000) && decide (i.natAbs < 2 ^ 64)) (fz (.int (i ^ j.toNat)))
def borW (x y : W) : T R := two x y fun i j => fz (.int (Builtin.bitOr i j))
def bandW (x y : W) : T R := two x y fun i j => fz (.int (Builtin.bitAnd i j))
def yes (t : T Bool) : T R := t.bind fun c => fz (.bl c)
def nay (t : T Bool) : T R := t.bind fun c => fz (.bl (!c))
def eqR (x y : W) : T R := yes (eqW x y)
def neR (x y : W) : T R := nay (eqW x y)
def ltW (x y : W) : T R := two x y fun i j => fz (.bl (decide (i < j)))
def leW (x y : W) : T R := two x y fun i j => fz (.bl (decide (i ≤ j)))
def gtW (x y : W) : T R := two x y fun i j => fz (.bl (decide (j < i)))
def geW (x y : W) : T R := two x y fun i j => fz (.bl (decide (j ≤ i)))
def isR (x y : W) : T R := yes (isW x y)
def isnotR (x y : W) : T R := nay (isW x y)
def inR (x y : W) : T R := yes (inW x y)
def notinR (x y : W) : T R := nay (inW x y)
def op2 (o : Op2) : W → W → T R := match o with
  | .add => addW
  | .sub => subW
  | .mul => mulW
  | .fdiv => fdivW
  | .mod => modW
  | .pow => powW
  | .bor => borW
  | .band => bandW
  | .eq => eqR
  | .ne => neR
  | .lt => ltW
  | .le => leW
  | .gt => gtW
  | .ge => geW
  | .is => isR
  | .isnot => isnotR
  | .isin => inR
  | .notin => notinR
def seqAt (xs : List W) (i : Int) : T W := match ixOf xs.length i with
  | some j => T.ofOpt (nth xs j)
  | none => .stk
def idxW (x y : W) : T W := match x with
  | .tup xs => (match y with
    | .int i => seqAt xs i
    | _ => .stk)
  | .lst xs => (match y with
    | .int i => seqAt xs i
    | _ => .stk)
  | .dct kvs => (match keyOf y with
    | some k => T.ofOpt (lookK kvs k)
    | none => .stk)
  | _ => .stk
def sliW : W → Option Int → Option Int → T R
  | .tup xs, lo, hi => fz (.tup (cut xs lo hi))
  | .lst xs, lo, hi => .ok (.lst (cut xs lo hi), true)
  | _, _, _ => .stk
def intsOf : List W → Option (List Int)
  | [] => some []
  | .int i :: r => (intsOf r).map (i :: ·)
  | _ :: _ => none
def insI (x : Int) : List Int → List Int
  | [] => [x]
  | y :: r => if x ≤ y then x :: y :: r else y :: insI x r
def sortI : List Int → List Int
  | [] => []
  | x :: r => insI x (sortI r)
def keysI : List (Ky × W) → Option (List Int)
  | [] => some []
  | (.inl i, _) :: r => (keysI r).map (i :: ·)
  | _ :: _ => none
def pairsOf : List W → Option (List (Ky × W))
  | [] => some []
  | .tup [k, v] :: r => match keyOf k, pairsOf r with
    | some k, some ps => some ((k, v) :: ps)
    | _, _ => none
  | _ :: _ => none
def isInst (t : Bi) : W → T Bool
  | .non => .ok false
  | .bl _ => .ok (match t with | .isInt => true | .isBool => true | _ => false)
  | .int _ => .ok (match t with | .isInt => true | _ => false)
  | .str _ => .ok (match t with | .isStr => true | _ => false)
  | .tup _ => .ok (match t with | .isTuple => true | _ => false)
  | .lst _ => .ok (match t with | .isList => true | _ => false)
  | .dct _ => .ok (match t with | .isDict => true | _ => false)
  | _ => .stk
def rngL (lo : Int) : Nat → List W
  | 0 => []
  | n + 1 => .int lo :: rngL (lo + 1) n
def sortW (o : Option (List Int)) : T R := match o with
  | some is => T.guard (Nat.ble is.length sizeLine) (.ok (.lst ((sortI is).map .int), true))
  | none => .stk
def lenW (x : W) : T R := match x with
  | .tup xs => fz (.int xs.length)
  | .lst xs => fz (.int xs.length)
  | .dct kvs => fz (.int kvs.length)
  | .scr n => fz (.int n)
  | _ => .stk
def intW (x : W) : T R := match x with
  | .int i => fz (.int i)
  | _ => .stk
mutual
/-- data with dicts that have texts as keys -/
def toDr : W → Option PyData
  | .non => some .none
  | .bl b => some (.bool b)
  | .int i => some (.int i)
  | .str x => some (.str x)
  | .tup xs => (toDrs xs).map .tuple
  | .lst xs => (toDrs xs).map .list
  | .dct kvs => (toDrK kvs).map .dict
  | .rpr _ => none
  | .fn _ => none
  | .orc => none
  | .scr _ => none
  | .clo _ _ => none
  | .err _ _ => none
  | .clr _ _ => none
def toDrs : List W → Option (List PyData)
  | [] => some []
  | x :: xs => match toDr x, toDrs xs with
    | some d, some ds => some (d :: ds)
    | _, _ => none
def toDrK : List (Ky × W) → Option (List (PyData × PyData))
  | [] => some []
  | (.inl _, _) :: _ => none
  | (.inr x, w) :: r => match toDr w, toDrK r with
    | some d, some ds => some ((.str x, d) :: ds)
    | _, _ => none
end
def reprOkE (d : PyData) : Bool := d.showable && (Nat.ble d.shown.length sizeLine && Nat.ble d.depth 64)
def reprW (x : W) : T R := match toD x with
  | some d => T.guard (reprOk d) (fz (.rpr d))
  | none => (match toDr x with
    | some d => T.guard (reprOkE d) (fz (.rpr d))
    | none => .stk)
def tupleW (x : W) : T R := match x with
  | .lst xs => fz (.tup xs)
  | .tup xs => fz (.tup xs)
  | _ => .stk
def listW (x : W) : T R := match x with
  | .lst xs => .ok (.lst xs, true)
  | .tup xs => .ok (.lst xs, true)
  | _ => .stk
def sumW (x : W) : T R := match x with
  | .lst xs => (match intsOf xs with
    | some is => fz (.int is.sum)
    | none => .stk)
  | _ => .stk
def sortedW (x : W) : T R := match x with
  | .lst xs => sortW (intsOf xs)
  | .tup xs => sortW (intsOf xs)
  | .dct kvs => sortW (keysI kvs)
  | _ => .stk
def maxI (i : Int) (is : List Int) : Int := is.foldl (fun a y => if y > a then y else a) i
def max1 : List Int → T R
  | [] => .stk
  | i :: is => fz (.int (maxI i is))
def maxW1 (x : W) : T R := match x with
  | .lst xs => (match intsOf xs with
    | some is => max1 is
    | none => .stk)
  | _ => .stk
def dictW (x : W) : T R := match x with
  | .lst xs => (match pairsOf xs with
    | some ps => .ok (.dct (ps.foldl (fun d p => putK d p.1 p.2) []), true)
    | none => .stk)
  | _ => .stk
def absW (x : W) : T R := match x with
  | .int i => fz (.int (if i < 0 then -i else i))
  | _ => .stk
def boolsOf : List W → Option (List Bool)
  | [] => some []
  | .bl c :: r => (boolsOf r).map (c :: ·)
  | _ :: _ => none
def allL : List Bool → Bool
  | [] => true
  | c :: r => cond c (allL r) false
def anyL : List Bool → Bool
  | [] => false
  | c :: r => cond c true (anyL r)
def allW (x : W) : T R := match x with
  | .lst xs => (match boolsOf xs with
    | some bs => fz (.bl (allL bs))
    | none => .stk)
  | _ => .stk
def anyW (x : W) : T R := match x with
  | .lst xs => (match boolsOf xs with
    | some bs => fz (.bl (anyL bs))
    | none => .stk)
  | _ => .stk
def stk1 (_ : W) : T R := .stk
def stk2 (_ _ : W) : T R := .stk
def isI1 (x : W) : T R := yes (isInst .isInt x)
def isB1 (x : W) : T R := yes (isInst .isBool x)
def isS1 (x : W) : T R := yes (isInst .isStr x)
def isT1 (x : W) : T R := yes (isInst .isTuple x)
def isL1 (x : W) : T R := yes (isInst .isList x)
def isD1 (x : W) : T R := yes (isInst .isDict x)
/-- of one thing -/
def bi1 (b : Bi) : W → T R := match b with
  | .len => lenW
  | .int => intW
  | .repr => reprW
  | .tuple => tupleW
  | .list => listW
  | .sum => sumW
  | .sorted => sortedW
  | .dict => dictW
  | .abs => absW
  | .all => allW
  | .any => anyW
  | .min2 => stk1
  | .max2 => maxW1
  | .isInt => isI1
  | .isBool => isB1
  | .isStr => isS1
  | .isTuple => isT1
  | .isList => isL1
  | .isDict => isD1
def minW (x y : W) : T R := two x y fun i j => fz (.int (if j < i then j else i))
def maxW (x y : W) : T R := two x y fun i j => fz (.int (if j > i then j else i))
/-- of two -/
def bi2 (b : Bi) : W → W → T R := match b with
  | .min2 => minW
  | .max2 => maxW
  | _ => stk2
def biW (b : Bi) (ws : List W) : T R := match ws with
  | [] => .stk
  | x :: r => (match r with
    | [] => bi1 b x
    | y :: r => (match r with
      | [] => bi2 b x y
      | _ :: _ => .stk))
def findF (x : W) : Nat → List W → Option Nat
  | _, [] => none
  | k, y :: r => if eqF y x then some k else findF x (k + 1) r
def findW (x : W) (xs : List W) : T W := T.guard (flatW x && xs.all flatW) (match findF x 0 xs with
  | some k => .ok (.int k)
  | none => .stk)
def strsOf : List W → Option (List Str)
  | [] => some []
  | x :: r => match x with
    | .str z => (strsOf r).map (z :: ·)
    | _ => none
def findS (x : Str) : Nat → List Str → Option Nat
  | _, [] => none
  | k, y :: r => cond (eqS y x) (some k) (findS x (k + 1) r)
def indexT (x y : W) : T W := match x with
  | .tup xs => (match y with
    | .str z => (match strsOf xs with
      | some ys => (match findS z 0 ys with
        | some k => .ok (.int k)
        | none => .stk)
      | none => .stk)
    | _ => .stk)
  | .lst xs => findW y xs
  | _ => .stk
def mtW (m : Mt) (x : W) (ws : List W) : T W := match m with
  | .index => (match ws with
    | [y] => indexT x y
    | _ => .stk)
  | .get2 => .stk

/-- the classes of errors of the program, with the names of their fields -/
def errs : List (Str × List Str) := [("BadArray", ["place"]), ("BadShape", ["place"]), ("BadVerb", ["path"]), ("BadSentence", ["path"]), ("BadCustoms", ["place"]), ("BadMeaning", ["place"]), ("BadNumber", ["value"]), ("Stuck", ["path", "word"]), ("TooGreat", ["most"]), ("BadPaper", ["word"]), ("BadSides", ["place"]), ("BadRow", ["place"]), ("BadLoop", ["path"]), ("BadPlan", ["place"]), ("BadTrain", ["path"]), ("BadForm", ["path"]), ("BadBook", ["place"]), ("BadText", ["line", "word"]), ("BadName", ["name"]), ("BadAct", ["place"]), ("BadPath", ["path"]), ("BadPattern", ["path"]), ("BadFilling", ["place"]), ("BadSum", ["path"]), ("BadLedger", ["place"]), ("NothingBack", []), ("VerbError", [])]
/-- the number of the class above them all -/
def cTop : Nat := 26
/-- built-in families: is an error of the program one of them? -/
def famL : List (String × Bool) := [("ValueError", true), ("LookupError", false), ("OverflowError", false), ("TypeError", false)]
def subE (c d : Nat) : Bool := Nat.beq d cTop || Nat.beq c d
/-- is an error of the class c one of d: a class of the program, or a family (from 100 on) -/
def isEB (c d : Nat) : Bool := cond (Nat.blt 99 d) (match nth famL (d - 100) with
  | some p => p.2
  | none => false) (subE c d)
def errN (c : Nat) : Nat := match nth errs c with
  | some y => y.2.length
  | none => 0
/-- how many arguments make it -/
def argsN (c : Nat) : Nat := cond (Nat.beq c cTop) 1 (errN c)
def idxS (x : Str) : Nat → List Str → Option Nat
  | _, [] => none
  | k, y :: r => cond (eqS y x) (some k) (idxS x (k + 1) r)
/-- the field y of an error -/
def fldW (c : Nat) (fs : List W) (y : Str) : T W := match nth errs c with
  | some p => (match idxS y 0 p.2 with
    | some k => T.ofOpt (nth fs k)
    | none => .stk)
  | none => .stk
/-! ### slots -/
abbrev Sl := List (Option R)
def rd (sl : Sl) (i : Nat) : T R := @Option.rec (Option R) (fun _ => T R) .stk (fun o => @Option.rec R (fun _ => T R) .stk (fun r => .ok r) o) (nth sl i)
/-- an operand: a value, or the owned thing in a slot -/
inductive Hd where
  | val (w : W) | slot (i : Nat)
def Hd.get (sl : Sl) : Hd → T W
  | .val w => .ok w
  | .slot i => (rd sl i).bind fun r => .ok r.1
mutual
def setG : Tg → W → Bool → Sl → T Sl
  | .nm i, w, fr, sl => .ok (sett sl i (some (w, fr)))
  | .tp ts, .tup ws, _, sl => setGs ts ws sl
  | .tp ts, .lst ws, _, sl => .stk
  | .tp _, _, _, _ => .stk
def setGs : List Tg → List W → Sl → T Sl
  | [], [], sl => .ok sl
  | t :: ts, w :: ws, sl => (setG t w false sl).bind fun sl => setGs ts ws sl
  | _, _, _ => .stk
end
def wipeS (sl : Sl) : List Nat → Sl
  | [] => sl
  | v :: vs => sett (wipeS sl vs) v none

/-- how a def is called: its number, the arguments, each with whether it is handed over to be changed; behind it what became of these -/
abbrev Cl := Nat → List R → T (R × List W)

def boolOf : W → T Bool
  | .bl b => .ok b
  | _ => .stk

def lcGo (turn : W → Sl → T (Option W × Sl)) : List W → List W → Sl → T (List W × Sl)
  | [], acc, sl => .ok (acc.reverse, sl)
  | x :: xs, acc, sl => (turn x sl).bind fun p => match p.1 with
    | some w => T.guard (Nat.blt acc.length sizeLine) (lcGo turn xs (w :: acc) p.2)
    | none => lcGo turn xs acc p.2

def enumL : Nat → List W → List W
  | _, [] => []
  | k, x :: xs => .tup [.int k, x] :: enumL (k + 1) xs
def zipL : List W → List W → List W
  | x :: xs, y :: ys => .tup [x, y] :: zipL xs ys
  | _, _ => []
def seqOf : W → T (List W)
  | .tup xs => .ok xs
  | .lst xs => .ok xs
  | _ => .stk
def fits62 (i : Int) : Bool := decide (-(2 ^ 62) ≤ i) && decide (i < 2 ^ 62)
def dnL (lo : Int) : Nat → List W
  | 0 => []
  | n + 1 => .int lo :: dnL (lo - 1) n

def getAll : List Hd → Sl → T (List W)
  | [], _ => .ok []
  | h :: r, sl => (h.get sl).bind fun w => (getAll r sl).bind fun ws => .ok (w :: ws)
def putBack : List Nat → List W → Sl → T Sl
  | [], [], sl => .ok sl
  | i :: is, w :: ws, sl => putBack is ws (sett sl i (some (w, true)))
  | _, _, _ => .stk
/-! ### what each form does, by what its parts do -/
abbrev Se := Sl → T (R × Sl)
abbrev Sx := Option Nat × Se
/-- an operand that is looked at and not kept: an owned thing stays owned -/
def hd (x : Sx) (sl : Sl) : T (Hd × Sl) := match x.1 with
  | some i => (rd sl i).bind fun r => .ok (cond r.2 (.slot i) (.val r.1), sl)
  | none => (x.2 sl).bind fun p => .ok (.val p.1.1, p.2)
def kVar (i : Nat) : Se := fun sl => (rd sl i).bind fun r => .ok ((r.1, false), sett sl i (some (r.1, false)))
def kCon (w : W) : Se := fun sl => .ok ((w, false), sl)
def lA : List Sx → Sl → T (List W × Sl)
  | [], sl => .ok ([], sl)
  | x :: xs, sl => (x.2 sl).bind fun p => (lA xs p.2).bind fun q => .ok (p.1.1 :: q.1, q.2)
def lH : List Sx → Sl → T (List Hd × Sl)
  | [], sl => .ok ([], sl)
  | x :: xs, sl => (hd x sl).bind fun p => (lH xs p.2).bind fun q => .ok (p.1 :: q.1, q.2)
def lAnd : List Sx → Sl → T (Bool × Sl)
  | [], sl => .ok (true, sl)
  | x :: xs, sl => (x.2 sl).bind fun p => (boolOf p.1.1).bind fun b => cond b (lAnd xs p.2) (.ok (false, p.2))
def lOr : List Sx → Sl → T (Bool × Sl)
  | [], sl => .ok (false, sl)
  | x :: xs, sl => (x.2 sl).bind fun p => (boolOf p.1.1).bind fun b => cond b (.ok (true, p.2)) (lOr xs p.2)
def own (sl : Sl) (i : Nat) : T W := (rd sl i).bind fun r => T.guard r.2 (.ok r.1)
/-- arguments of a def: those handed over must be owned things in slots -/
def lArgs : List Bool → List Sx → Sl → T (List (Nat ⊕ W) × Sl)
  | _, [], sl => .ok ([], sl)
  | bs, x :: xs, sl => cond (bs.headD false)
    (match x.1 with
      | some i => (own sl i).bind fun _ => (lArgs bs.tail xs sl).bind fun q => .ok (.inl i :: q.1, q.2)
      | none => .stk)
    ((x.2 sl).bind fun p => (lArgs bs.tail xs p.2).bind fun q => .ok (.inr p.1.1 :: q.1, q.2))
/-- they leave their slots -/
def ioTake : List (Nat ⊕ W) → Sl → T ((List R × List Nat) × Sl)
  | [], sl => .ok (([], []), sl)
  | y :: r, sl => match y with
    | .inr w => (ioTake r sl).bind fun q => .ok (((w, false) :: q.1.1, q.1.2), q.2)
    | .inl i => (own sl i).bind fun w => (ioTake r (sett sl i none)).bind fun q => .ok (((w, true) :: q.1.1, i :: q.1.2), q.2)
def kTup (es : List Sx) : Se := fun sl => (lA es sl).bind fun p => T.guard (Nat.ble p.1.length sizeLine) (.ok ((.tup p.1, false), p.2))
def kLst (es : List Sx) : Se := fun sl => (lA es sl).bind fun p => T.guard (Nat.ble p.1.length sizeLine) (.ok ((.lst p.1, true), p.2))
/-- with stars: what is marked is spliced -/
def lAS : List Bool → List Sx → Sl → T (List W × Sl)
  | _, [], sl => .ok ([], sl)
  | ms, x :: xs, sl => (x.2 sl).bind fun p => cond (ms.headD false) ((seqOf p.1.1).bind fun ws => (lAS ms.tail xs p.2).bind fun q => .ok (ws ++ q.1, q.2)) ((lAS ms.tail xs p.2).bind fun q => .ok (p.1.1 :: q.1, q.2))
def kTupS (l : Bool) (ms : List Bool) (es : List Sx) : Se := fun sl => (lAS ms es sl).bind fun p => T.guard (Nat.ble p.1.length sizeLine) (cond l (.ok ((.lst p.1, true), p.2)) (.ok ((.tup p.1, false), p.2)))
def kOp (o : Op2) (a b : Sx) : Se := fun sl => (hd a sl).bind fun p => (hd b p.2).bind fun q => (p.1.get q.2).bind fun x => (q.1.get q.2).bind fun y => (op2 o x y).bind fun r => .ok (r, q.2)
def kChain (o o' : Op2) (a b c : Sx) : Se := fun sl => (hd a sl).bind fun p => (hd b p.2).bind fun q => (p.1.get q.2).bind fun x => (q.1.get q.2).bind fun y => (op2 o x y).bind fun r =>
  (boolOf r.1).bind fun t => cond (!t) (.ok ((.bl false, false), q.2)) ((hd c q.2).bind fun u => (q.1.get u.2).bind fun y => (u.1.get u.2).bind fun z => (op2 o' y z).bind fun r => .ok (r, u.2))
def kNeg (a : Se) : Se := fun sl => (a sl).bind fun p => (match p.1.1 with
  | .int i => .ok ((.int (-i), false), p.2)
  | _ => .stk)
def kNot (a : Se) : Se := fun sl => (a sl).bind fun p => (boolOf p.1.1).bind fun b => .ok ((.bl (!b), false), p.2)
def kAnd (es : List Sx) : Se := fun sl => (lAnd es sl).bind fun p => .ok ((.bl p.1, false), p.2)
def kOr (es : List Sx) : Se := fun sl => (lOr es sl).bind fun p => .ok ((.bl p.1, false), p.2)
def kIte (c a b : Se) : Se := fun sl => (c sl).bind fun p => (boolOf p.1.1).bind fun t => cond t (a p.2) (b p.2)
def kIdx (a i : Sx) : Se := fun sl => (hd a sl).bind fun p => (hd i p.2).bind fun q => (p.1.get q.2).bind fun x => (q.1.get q.2).bind fun y => (idxW x y).bind fun w => .ok ((w, false), q.2)
def oInt (e : Option Se) (sl : Sl) : T (Option Int × Sl) := match e with
  | none => .ok (none, sl)
  | some e => (e sl).bind fun p => (match p.1.1 with
    | .int i => T.guard (fits62 i) (.ok (some i, p.2))
    | _ => .stk)
def kSli (a : Sx) (lo hi : Option Se) : Se := fun sl => (hd a sl).bind fun p => (oInt lo p.2).bind fun q => (oInt hi q.2).bind fun r => (p.1.get r.2).bind fun x => (sliW x q.1 r.1).bind fun w => .ok (w, r.2)
def kCall (cl : Cl) (io : Nat → List Bool) (j : Nat) (es : List Sx) : Se := fun sl => (lArgs (io j) es sl).bind fun p => (ioTake p.1 p.2).bind fun t => (cl j t.1.1).bind fun r => (putBack t.1.2 r.2 t.2).bind fun sl => .ok (r.1, sl)
/-- a call of what a slot holds -/
def kCallv (cl : Cl) (i : Nat) (es : List Sx) : Se := fun sl => (rd sl i).bind fun r => (match r.1 with
  | .fn j => T.guard (Nat.blt j clN) ((lA es sl).bind fun p => (cl j (p.1.map fun w => (w, false))).bind fun r => .ok (r.1, p.2))
  | .clo j vs => (lA es sl).bind fun p => (cl j ((vs ++ p.1).map fun w => (w, false))).bind fun r => .ok (r.1, p.2)
  | _ => .stk)
/-- a field of an error that a slot holds -/
def fldS (i : Nat) (y : Str) (sl : Sl) : T W := (rd sl i).bind fun r => (match r.1 with
  | .err c fs => fldW c fs y
  | _ => .stk)
def kFld (i : Nat) (y : Str) : Se := fun sl => (fldS i y sl).bind fun w => .ok ((w, false), sl)
/-- is the error of slot i of the class number d? -/
def kIsE (i d : Nat) : Se := fun sl => (rd sl i).bind fun r => (match r.1 with
  | .err c _ => .ok ((.bl (isEB c d), false), sl)
  | _ => .stk)
/-- what is captured -/
def capsV : List Nat → Sl → T (List W × Sl)
  | [], sl => .ok ([], sl)
  | i :: r, sl => (kVar i sl).bind fun p => T.guard (noClo p.1.1) ((capsV r p.2).bind fun q => .ok (p.1.1 :: q.1, q.2))
/-- a call with a lambda as its argument -/
def kHear (cl : Cl) (j k : Nat) (caps : List Nat) : Se := fun sl => (capsV caps sl).bind fun p => (cl j [(.clo k p.1, false)]).calm.bind fun r => T.guard (noClo r.1.1) (.ok (r.1, p.2))
/-- a lambda that is made and kept -/
def kLamr (k : Nat) (caps : List Nat) : Se := fun sl => .ok ((.clr k caps, false), sl)
def lookN : List Nat → List W → Nat → Option W
  | [], _, _ => none
  | c :: cs, ws, k => match ws with
    | [] => none
    | w :: ws => cond (Nat.beq c k) (some w) (lookN cs ws k)
def lookNs (cs : List Nat) (ws : List W) : List Nat → Option (List W)
  | [] => some []
  | k :: r => match lookN cs ws k with
    | some w => (lookNs cs ws r).map (w :: ·)
    | none => none
mutual
/-- lambdas of a frame, with what they capture -/
def convW (cs : List Nat) (ws : List W) : W → Option W
  | .clr k caps => (lookNs cs ws caps).map (.clo k ·)
  | .tup xs => (convL cs ws xs).map .tup
  | .lst xs => (convL cs ws xs).map .lst
  | .non => some .non
  | .bl b => some (.bl b)
  | .int i => some (.int i)
  | .str x => some (.str x)
  | .rpr d => some (.rpr d)
  | .fn j => some (.fn j)
  | .orc => some .orc
  | .scr n => some (.scr n)
  | .clo _ _ => none
  | .err c fs => cond (noCloL fs) (some (.err c fs)) none
  | .dct kvs => cond (noCloK kvs) (some (.dct kvs)) none
def convL (cs : List Nat) (ws : List W) : List W → Option (List W)
  | [] => some []
  | x :: r => match convW cs ws x with
    | some y => (convL cs ws r).map (y :: ·)
    | none => none
end
/-- a call that hands lambdas over -/
def kCallC (cl : Cl) (j : Nat) (cs : List Nat) (es : List Sx) : Se := fun sl => (lA es sl).bind fun p => (capsV cs p.2).bind fun q => (T.ofOpt (convL cs q.1 p.1)).bind fun ws => (cl j (ws.map fun w => (w, false))).calm.bind fun r => T.guard (noClo r.1.1) (.ok (r.1, q.2))
/-- the values of some places, in this order -/
def permL (ws : List W) : List Nat → Option (List W)
  | [] => some []
  | i :: is => match nth ws i with
    | some w => (match permL ws is with
      | some us => some (w :: us)
      | none => none)
    | none => none
/-- a call by keywords -/
def kCallK (cl : Cl) (j : Nat) (is : List Nat) (es : List Sx) : Se := fun sl => (lA es sl).bind fun p => (T.ofOpt (permL p.1 is)).bind fun ws => (cl j (ws.map fun w => (w, false))).bind fun r => .ok (r.1, p.2)
/-- an error is made, by places or by keywords -/
def kMkE (kw : Bool) (c : Nat) (is : List Nat) (es : List Sx) : Se := fun sl => (lA es sl).bind fun p => (T.ofOpt (cond kw (permL p.1 is) (some p.1))).bind fun ws => T.guard (Nat.beq ws.length (argsN c)) (.ok ((.err c (ws.take (errN c)), false), p.2))
/-- {x: (i, ..)} -/
def kDsp (x : Str) (is : List Int) : Se := fun sl => T.guard (Nat.ble is.length sizeLine) (.ok ((.dct [(.inr x, .tup (is.map .int))], true), sl))
def kBi (b : Bi) (es : List Sx) : Se := fun sl => (lH es sl).bind fun p => (getAll p.1 p.2).bind fun ws => (biW b ws).bind fun r => .ok (r, p.2)
def recvB (g : Bool) : W → Bool
  | .lst _ => true
  | .tup _ => g
  | _ => false
/-- a method; a tuple only where it is a constant of the module (g) -/
def kMth (m : Mt) (g : Bool) (a : Sx) (es : List Sx) : Se := fun sl => (hd a sl).bind fun p => (p.1.get p.2).bind fun x0 => T.guard (recvB g x0) ((lH es p.2).bind fun q => (p.1.get q.2).bind fun x => (getAll q.1 q.2).bind fun ws => T.guard (recvB g x) ((mtW m x ws).bind fun w => .ok ((w, false), q.2)))
def isG : Ex → Bool
  | .glo _ => true
  | _ => false
def kDraw (m l : Se) : Se := fun sl => (m sl).bind fun p => (l p.2).bind fun q => (match p.1.1 with
  | .orc => (match q.1.1 with
    | .int n => T.guard (decide (0 < n) && decide (n < 1073741824)) (.draw n.toNat fun d => .ok ((.int d, false), q.2))
    | _ => .stk)
  | _ => .stk)
abbrev Si := Sl → T (List W × Sl)
def kConv (tp : Bool) (it : Si) : Se := fun sl => (it sl).bind fun p => T.guard (Nat.ble p.1.length sizeLine) (cond tp (.ok ((.tup p.1, false), p.2)) (.ok ((.lst p.1, true), p.2)))
def kLcT (own : List Nat) (e : Se) (g : Tg) (ifs : List Sx) (x : W) (s : Sl) : T (Option W × Sl) := T.calm ((setG g x false s).bind fun s => (lAnd ifs s).bind fun q => cond q.1 ((e q.2).bind fun r => .ok (some r.1.1, wipeS r.2 own)) (.ok (none, wipeS q.2 own)))
def kLc (own : List Nat) (e : Se) (g : Tg) (it : Si) (ifs : List Sx) : Se := fun sl => (it sl).bind fun p => (lcGo (kLcT own e g ifs) p.1 [] (wipeS p.2 own)).bind fun r => .ok ((.lst r.1, true), r.2)
/-- two clauses without tests -/
def lcIn (turn : W → Sl → T (W × Sl)) : List W → List W → Sl → T (List W × Sl)
  | [], acc, sl => .ok (acc, sl)
  | y :: ys, acc, sl => (turn y sl).bind fun p => T.guard (Nat.blt acc.length sizeLine) (lcIn turn ys (p.1 :: acc) p.2)
def kLcI (own1 : List Nat) (e : Se) (g1 : Tg) (y : W) (s : Sl) : T (W × Sl) := (setG g1 y false s).bind fun s => (e s).bind fun r => .ok (r.1.1, wipeS r.2 own1)
def kLcO (own own1 : List Nat) (e : Se) (g : Tg) (g1 : Tg) (it1 : Si) (x : W) (acc : List W) (s : Sl) : T (List W × Sl) := T.calm ((setG g x false s).bind fun s => (it1 s).bind fun p => (lcIn (kLcI own1 e g1) p.1 acc (wipeS p.2 own1)).bind fun q => .ok (q.1, wipeS q.2 own))
def lc2Go (turn : W → List W → Sl → T (List W × Sl)) : List W → List W → Sl → T (List W × Sl)
  | [], acc, sl => .ok (acc.reverse, sl)
  | x :: xs, acc, sl => (turn x acc sl).bind fun p => lc2Go turn xs p.1 p.2
def kLc2 (own own1 : List Nat) (e : Se) (g : Tg) (it : Si) (g1 : Tg) (it1 : Si) : Se := fun sl => (it sl).bind fun p => (lc2Go (kLcO own own1 e g g1 it1) p.1 [] (wipeS p.2 own)).bind fun r => .ok ((.lst r.1, true), r.2)
def iSeq (e : Se) : Si := fun sl => (e sl).bind fun p => (seqOf p.1.1).bind fun xs => .ok (xs, p.2)
def iTxt (e : Se) : Si := fun sl => (e sl).bind fun p => (match p.1.1 with
  | .str x => T.guard (Nat.ble x.length sizeLine) (.ok (x.cps.toList.map fun c => .str ⟨#[c]⟩, p.2))
  | _ => .stk)
def iR1 (a : Se) : Si := fun sl => (a sl).bind fun p => (match p.1.1 with
  | .int j => T.guard (fits62 j) (.ok (rngL 0 j.toNat, p.2))
  | _ => .stk)
def int2 (x y : W) (f : Int → Int → T (List W × Sl)) : T (List W × Sl) := match x with
  | .int i => (match y with
    | .int j => f i j
    | _ => .stk)
  | _ => .stk
def iR2 (a b : Se) : Si := fun sl => (a sl).bind fun p => (b p.2).bind fun q => int2 p.1.1 q.1.1 fun i j => T.guard (fits62 i && fits62 j) (.ok (rngL i (j - i).toNat, q.2))
def iR3 (a b c : Se) : Si := fun sl => (a sl).bind fun p => (b p.2).bind fun q => (c q.2).bind fun r => int2 p.1.1 q.1.1 fun i j => (match r.1.1 with
  | .int k => T.guard (fits62 i && fits62 j && eqI k (-1)) (.ok (dnL i (i - j).toNat, r.2))
  | _ => .stk)
def enOf : W → T (List W)
  | .lst xs => .ok xs
  | .tup xs => .ok xs
  | _ => .stk
def zipOf (x y : W) : T (List W) := match x with
  | .lst xs => (match y with
    | .lst ys => .ok (zipL xs ys)
    | _ => .stk)
  | .tup xs => (match y with
    | .tup ys => .ok (zipL xs ys)
    | .lst ys => .ok (zipL xs ys)
    | _ => .stk)
  | _ => .stk
def iEnum (e : Se) : Si := fun sl => (e sl).bind fun p => (enOf p.1.1).bind fun xs => .ok (enumL 0 xs, p.2)
def iZip (a b : Se) : Si := fun sl => (a sl).bind fun p => (b p.2).bind fun q => (zipOf p.1.1 q.1.1).bind fun xs => .ok (xs, q.2)
def zipTT (x y : W) : T (List W) := match x with
  | .tup xs => (match y with
    | .tup ys => .ok (zipL xs ys)
    | _ => .stk)
  | _ => .stk
def iEnumZip (a b : Se) : Si := fun sl => (a sl).bind fun p => (b p.2).bind fun q => (zipTT p.1.1 q.1.1).bind fun xs => .ok (enumL 0 xs, q.2)
def isV : Ex → Option Nat
  | .var i => some i
  | _ => none
def kBad : Se := fun _ => .stk
section
variable (cl : Cl) (io : Nat → List Bool) (cn : Nat → W)
mutual
def evE : Ex → Se
  | .bad => kBad
  | .var i => kVar i
  | .con w => kCon w
  | .glo k => kCon (cn k)
  | .tup es => kTup (evL es)
  | .lst es => kLst (evL es)
  | .tupS l ms es => kTupS l ms (evL es)
  | .lc2 own own1 e g it g1 it1 => kLc2 own own1 (evE e) g (evI it) g1 (evI it1)
  | .lamr k caps => kLamr k caps
  | .callC j cs es => kCallC cl j cs (evL es)
  | .callK j is es => kCallK cl j is (evL es)
  | .isE i d => kIsE i d
  | .mkE kw c is es => kMkE kw c is (evL es)
  | .dsp x is => kDsp x is
  | .dnew => fun sl => .ok ((.dct [], true), sl)
  | .op o a b => kOp o (isV a, evE a) (isV b, evE b)
  | .chain o o' a b c => kChain o o' (isV a, evE a) (isV b, evE b) (isV c, evE c)
  | .neg a => kNeg (evE a)
  | .not a => kNot (evE a)
  | .and es => kAnd (evL es)
  | .or es => kOr (evL es)
  | .ite c a b => kIte (evE c) (evE a) (evE b)
  | .idx a i => kIdx (isV a, evE a) (isV i, evE i)
  | .sli a lo hi => kSli (isV a, evE a) (evO lo) (evO hi)
  | .call j es => kCall cl io j (evL es)
  | .bi b es => kBi b (evL es)
  | .mth m a es => kMth m (isG a) (isV a, evE a) (evL es)
  | .draw m l => kDraw (evE m) (evE l)
  | .conv tp it => kConv tp (evI it)
  | .lc own e g it ifs => kLc own (evE e) g (evI it) (evL ifs)
  | .fnv j => kCon (.fn j)
  | .callv i es => kCallv cl i (evL es)
  | .hear j k caps => kHear cl j k caps
  | .fld i y => kFld i y
def evL : Exs → List Sx
  | .nil => []
  | .cons e es => (isV e, evE e) :: evL es
def evO : Option Ex → Option Se
  | none => none
  | some e => some (evE e)
def evI : It → Si
  | .seq e => iSeq (evE e)
  | .txt e => iTxt (evE e)
  | .rng1 a => iR1 (evE a)
  | .rng2 a b => iR2 (evE a) (evE b)
  | .rng3 a b c => iR3 (evE a) (evE b) (evE c)
  | .enum e => iEnum (evE e)
  | .zip a b => iZip (evE a) (evE b)
  | .enumZip a b => iEnumZip (evE a) (evE b)
end
end
/-! ### statements -/
inductive Fl where
  | nx (sl : Sl) | ret (r : R) (sl : Sl) | brk (sl : Sl) | cont (sl : Sl)
def forGo (turn : W → Sl → T Fl) : List W → Sl → T Fl
  | [], sl => .ok (.nx sl)
  | x :: xs, sl => (turn x sl).bind fun f => match f with
    | .nx sl => forGo turn xs sl
    | .cont sl => forGo turn xs sl
    | .brk sl => .ok (.nx sl)
    | .ret r sl => .ok (.ret r sl)
def putW : W → W → W → T W
  | .lst xs, .int k, v => match ixOf xs.length k with
    | some j => .ok (.lst (sett xs j v))
    | none => .stk
  | .dct kvs, k, v => match keyOf k with
    | some k => T.guard (Nat.blt kvs.length sizeLine) (.ok (.dct (putK kvs k v)))
    | none => .stk
  | _, _, _ => .stk
def appW : W → W → T W
  | .lst xs, v => T.guard (Nat.blt xs.length sizeLine) (.ok (.lst (xs ++ [v])))
  | _, _ => .stk
/-- slots t, t + 1, .. moved to those of gs -/
def moveS : List Nat → Nat → Sl → T Sl
  | [], _, sl => .ok sl
  | g :: gs, t, sl => (rd sl t).bind fun r => moveS gs (t + 1) (sett (sett sl t none) g (some r))
abbrev Sf := Sl → T Fl
def sExp (e : Se) : Sf := fun sl => (e sl).bind fun p => .ok (.nx p.2)
def sAsg (g : Tg) (e : Se) : Sf := fun sl => (e sl).bind fun p => (setG g p.1.1 p.1.2 p.2).bind fun sl => .ok (.nx sl)
/-- values, laid into the slots t, t + 1, .. -/
def lPar : List Sx → Nat → Sl → T Sl
  | [], _, sl => .ok sl
  | x :: xs, t, sl => (x.2 sl).bind fun p => lPar xs (t + 1) (sett p.2 t (some p.1))
def sPar (gs : List Nat) (t : Nat) (es : List Sx) : Sf := fun sl => (lPar es t sl).bind fun sl => (moveS gs t sl).bind fun sl => .ok (.nx sl)
def sPut (i : Nat) (k v : Se) : Sf := fun sl => (v sl).bind fun p => (own p.2 i).bind fun _ => (k p.2).bind fun q => (own q.2 i).bind fun x => (putW x q.1.1 p.1.1).bind fun y => .ok (.nx (sett q.2 i (some (y, true))))
def isLst : W → Bool
  | .lst _ => true
  | _ => false
def sApp (i : Nat) (e : Se) : Sf := fun sl => (own sl i).bind fun x0 => T.guard (isLst x0) <| (e sl).bind fun p => (own p.2 i).bind fun x => (appW x p.1.1).bind fun y => .ok (.nx (sett p.2 i (some (y, true))))
def augW (m : Bool) (x y : W) : T R := two x y fun i j => fz (.int (cond m (i - j) (i + j)))
/-- x += e, x -= e -/
def sAug (i : Nat) (m : Bool) (e : Se) : Sf := fun sl => (rd sl i).bind fun r => T.guard (!r.2) ((e sl).bind fun p => (augW m r.1 p.1.1).bind fun y => .ok (.nx (sett p.2 i (some y))))
def sRet (e : Se) : Sf := fun sl => (e sl).bind fun p => .ok (.ret p.1 p.2)
def sRetv (i : Nat) : Sf := fun sl => (rd sl i).bind fun r => .ok (.ret r (sett sl i none))
def sRaise (c : Nat) (es : List Sx) : Sf := fun sl => (lA es sl).bind fun p => T.guard (Nat.beq p.1.length (errN c)) (.exc c p.1)
/-- in an except suite -/
def hxV (sl : Sl) : Hx → T W
  | .con w => .ok w
  | .var i => (rd sl i).bind fun r => T.guard (!r.2) (.ok r.1)
  | .fld i y => fldS i y sl
  | .tup xs => (hxVs xs).bind fun ws => T.guard (Nat.ble ws.length sizeLine) (.ok (.tup ws))
where hxVs : List Hx → T (List W)
  | [] => .ok []
  | x :: r => (hxV sl x).bind fun w => (hxVs r).bind fun ws => .ok (w :: ws)
def hsGo : List Hs → Sl → T Fl
  | [], sl => .ok (.nx sl)
  | s :: r, sl => (match s with
    | .asg i x => (hxV sl x).bind fun w => hsGo r (sett sl i (some (w, false)))
    | .ret x => (hxV sl x).bind fun w => .ok (.ret (w, false) sl)
    | .app i x => (own sl i).bind fun y0 => T.guard (isLst y0) ((hxV sl x).bind fun w => (appW y0 w).bind fun z => hsGo r (sett sl i (some (z, true))))
    | .pass => hsGo r sl)
def selB (s : Sel) (c : Nat) : Bool := match s with
  | .any => true
  | .one d => subE c d
/-- the name of an except clause goes -/
def unNm (o : Option Nat) (sl : Sl) : Sl := match o with
  | some i => sett sl i none
  | none => sl
def unFl (o : Option Nat) : Fl → Fl
  | .nx sl => .nx (unNm o sl)
  | .ret r sl => .ret r (unNm o sl)
  | .brk sl => .brk (unNm o sl)
  | .cont sl => .cont (unNm o sl)
def hdGo (c : Nat) (fs : List W) : List Hd0 → Sl → T Fl
  | [], _ => .exc c fs
  | h :: r, sl => cond (selB h.sel c) ((hsGo h.body (match h.nm with
    | some i => sett sl i (some (.err c fs, false))
    | none => sl)).bind fun fl => .ok (unFl h.nm fl)) (hdGo c fs r sl)
def tkGo (k : Tk) (r : R) (sl : Sl) : T Fl := match k with
  | .exp => .ok (.nx sl)
  | .ret => .ok (.ret r sl)
  | .retL => .ok (.ret (.lst [r.1], true) sl)
  | .asg i => .ok (.nx (sett sl i (some r)))
/-- try: a call of what a slot holds, or of a def -/
def sTry (cl : Cl) (evs : Exs → List Sx) (k : Tk) (e : Ex) (hs : List Hd0) : Sf := fun sl => match e with
  | .callv i .nil => (rd sl i).bind fun r => (match r.1 with
    | .clo j vs => (cl j (vs.map fun w => (w, false))).catch_ (fun r => tkGo k r.1 sl) (fun c fs => hdGo c fs hs sl)
    | .fn j => T.guard (Nat.blt j clN) ((cl j []).catch_ (fun r => tkGo k r.1 sl) (fun c fs => hdGo c fs hs sl))
    | _ => .stk)
  | .call j es => ((lA (evs es) sl).calm.bind fun p => (cl j (p.1.map fun w => (w, false))).catch_ (fun r => tkGo k r.1 p.2) (fun c fs => hdGo c fs hs p.2))
  | _ => .stk
def sIte (c : Se) (a b : Sf) : Sf := fun sl => (c sl).bind fun p => (boolOf p.1.1).bind fun t => cond t (a p.2) (b p.2)
/-- while: at most so many turns -/
def whGo (c : Se) (b : Sf) : Nat → Sf
  | 0, _ => .stk
  | n + 1, sl => (c sl).bind fun p => (boolOf p.1.1).bind fun t => cond t ((b p.2).bind fun f => match f with
    | .nx sl => whGo c b n sl
    | .cont sl => whGo c b n sl
    | .brk sl => .ok (.nx sl)
    | .ret r sl => .ok (.ret r sl)) (.ok (.nx p.2))
def extW : W → W → T W
  | .lst xs, .lst ys => T.guard (Nat.ble (xs.length + ys.length) sizeLine) (.ok (.lst (xs ++ ys)))
  | _, _ => .stk
def sExt (i : Nat) (e : Se) : Sf := fun sl => (own sl i).bind fun x0 => T.guard (isLst x0) <| (e sl).bind fun p => (own p.2 i).bind fun x => (extW x p.1.1).bind fun y => .ok (.nx (sett p.2 i (some (y, true))))
def sTurn (g : Tg) (b : Sf) (x : W) (s : Sl) : T Fl := (setG g x false s).bind fun s => b s
def sFor (g : Tg) (it : Si) (b : Sf) : Sf := fun sl => (it sl).bind fun p => forGo (sTurn g b) p.1 p.2
def sSeq (a b : Sf) : Sf := fun sl => (a sl).bind fun f => (match f with
  | .nx sl => b sl
  | .ret r sl => .ok (.ret r sl)
  | .brk sl => .ok (.brk sl)
  | .cont sl => .ok (.cont sl))
section
variable (cl : Cl) (io : Nat → List Bool) (cn : Nat → W)
mutual
def exS : Sm → Sf
  | .exp e => sExp (evE cl io cn e)
  | .asg g e => sAsg g (evE cl io cn e)
  | .par gs t es => sPar gs t (evL cl io cn es)
  | .put i k v => sPut i (evE cl io cn k) (evE cl io cn v)
  | .app i e => sApp i (evE cl io cn e)
  | .aug i m e => sAug i m (evE cl io cn e)
  | .ret e => sRet (evE cl io cn e)
  | .retv i => sRetv i
  | .retN => fun sl => .ok (.ret (.non, false) sl)
  | .ite c a b => sIte (evE cl io cn c) (exSs a) (exSs b)
  | .for_ g it b => sFor g (evI cl io cn it) (exSs b)
  | .while_ c b => whGo (evE cl io cn c) (exSs b) 1000
  | .ext i e => sExt i (evE cl io cn e)
  | .pass => fun sl => .ok (.nx sl)
  | .brk => fun sl => .ok (.brk sl)
  | .cont => fun sl => .ok (.cont sl)
  | .never => fun _ => .stk
  | .raise c es => sRaise c (evL cl io cn es)
  | .try_ k e hs => sTry cl (evL cl io cn) k e hs
def exSs : Sms → Sf
  | .nil => fun sl => .ok (.nx sl)
  | .cons s r => sSeq (exS s) (exSs r)
end
end
/-! ### defs -/
structure Fn where
  np : Nat
  ns : Nat
  io : List Bool
  body : Sms
  hk : Bool
  pn : List Str := []
inductive Fk where
  | code (f : Fn) | begun | lam (n : Nat) (e : Ex)
def outs : List Bool → Sl → T (List W)
  | [], _ => .ok []
  | true :: bs, some (w, true) :: sl => (outs bs sl).bind fun ws => .ok (w :: ws)
  | false :: bs, _ :: sl => outs bs sl
  | _, _ => .stk
def ioOf (fns : List Fk) (j : Nat) : List Bool := match nth fns j with
  | some (.code f) => f.io
  | _ => []
def fin (io : List Bool) : Fl → T (R × List W)
  | .ret r sl => (outs io sl).bind fun ws => .ok (r, ws)
  | .nx sl => (outs io sl).bind fun ws => .ok ((.non, false), ws)
  | _ => .stk
/-- things handed over just where the def changes them -/
def flB : List Bool → List R → Bool
  | [], [] => true
  | b :: bs, r :: rs => (b == r.2) && flB bs rs
  | _, _ => false
/-- no lambda leaves -/
def cleanT (t : T (R × List W)) : T (R × List W) := @T.rec (R × List W) (fun _ => T (R × List W)) (fun r => cond (noClo r.1.1 && noCloL r.2) (.ok r) .stk) (fun c fs => cond (noCloL fs) (.exc c fs) .stk) .stk (fun l _ ih => .draw l ih) t
theorem wb_clean {XE : XP} {Q : R × List W → Nat → Prop} : ∀ {t : T (R × List W)} {b : Nat}, (cleanT t).wb XE b Q → t.wb (fun c fs b => noCloL fs = true ∧ XE c fs b) b (fun r b' => (noClo r.1.1 = true ∧ noCloL r.2 = true) ∧ Q r b')
  | .ok r, b, h => by
    have h : (cond (noClo r.1.1 && noCloL r.2) (T.ok r) T.stk).wb XE b Q := h
    cases e : (noClo r.1.1 && noCloL r.2) with
    | false => rw [e] at h; exact h.elim
    | true =>
      rw [e] at h
      rw [Bool.and_eq_true] at e
      exact ⟨e, h⟩
  | .exc c fs, b, h => by
    have h : (cond (noCloL fs) (T.exc c fs : T (R × List W)) T.stk).wb XE b Q := h
    cases e : noCloL fs with
    | false => rw [e] at h; exact h.elim
    | true =>
      rw [e] at h
      exact ⟨e, h⟩
  | .stk, _, h => h.elim
  | .draw l k, 0, h => h.elim
  | .draw l k, b + 1, h => fun d hd => wb_clean (h d hd)
def callN (fns : List Fk) (cn : Nat → W) : Nat → Cl
  | 0, _, _ => .stk
  | n + 1, j, args => match nth fns j with
    | some (.code f) => T.guard (flB f.io args && Nat.beq args.length f.np) (cond f.hk (T.guard (args.all fun r => noClo r.1) (cleanT ((exSs (callN fns cn n) (ioOf fns) cn f.body (args.map some ++ List.replicate (f.ns - f.np) none)).bind (fin f.io)))) ((exSs (callN fns cn n) (ioOf fns) cn f.body (args.map some ++ List.replicate (f.ns - f.np) none)).bind (fin f.io)))
    | some .begun => .stk
    | some (.lam m e) => T.guard (Nat.beq args.length m && args.all fun r => !r.2 && noClo r.1) ((evE (callN fns cn n) (ioOf fns) cn e (args.map some)).bind fun p => .ok (p.1, []))
    | none => .stk
end Ev
end
end
section
set_option Elab.async false
set_option linter.all false
set_option maxRecDepth 100000
set_option maxHeartbeats 2000000
/-! EvRel: how the evaluator's values and slots lie in the hand layer's heap. -/
namespace Ev
open PySem L2
set_option autoImplicit false

/-- what is known and never changes: a part F of the heap; the drawing state's three objects -/
structure Gh where
  F : Hp
  D : Option (Addr × Addr × Addr)
  E : Nat → Option (Str × Addr) := fun _ => none
def Gh.le (g g' : Gh) : Prop := Same g.F g'.F ∧ (∀ d, g.D = some d → g'.D = some d) ∧ g'.E = g.E
theorem Gh.le.refl (g : Gh) : g.le g := ⟨Same.refl _, fun _ h => h, rfl⟩
theorem Gh.le.trans {g g' g'' : Gh} (a : g.le g') (b : g'.le g'') : g.le g'' := ⟨a.1.trans b.1, fun d h => b.2.1 d (a.2.1 d h), b.2.2.trans a.2.2⟩
def dAdr : Option (Addr × Addr × Addr) → List Addr
  | some (m, c, g) => [m, c, g]
  | none => []

/-- a lambda of the text: the names that it captures, its syntax -/
structure Lm where
  N : List Str
  params : Arguments
  body : Expr
  scope : Scope
/-- where the defs and classes stand; the lambdas -/
structure Gx where
  fn : Nat → Option Addr
  lam : Nat → Lm → Prop
  tabs : List (Addr × Str) := []
instance : CoeFun Gx (fun _ => Nat → Option Addr) := ⟨Gx.fn⟩
/-- a captured name's cell holds v -/
def cellO (c : Addr) (v : V) : HO := .ext fun h => ∃ u, RelV v u ∧ h.IsCell c (some u)
/-- the exception at a: its class, its dict -/
def errO (a : Addr) (cls : Value) (d : Option Addr) : HO := .ext fun h => ∃ oe vs, h.get? a = some oe ∧ Zc cls d oe ∧ oe.data = .fields vs
/-- a lambda's function object, without defaults or with one that nobody asks for -/
def lamO (m : Lm) (q : Str) (dv doc : Value) (cells : List (Str × Addr)) (pm : Value) (c' : Addr) (ctv : Value) : Obj := PySem.W.kdv_obj "<lambda>" q m.params (.expr m.body) m.scope cells dv doc pm c' ctv
/-- the parameters that ask for an argument -/
def lamPs (ps : Arguments) : List Str := match ps.args, ps.defaults with
  | [a], [] => [a.arg]
  | _, _ => []
/-- calling it binds nothing, or one number, or its argument -/
def BindsOff (F : Hp) (m : Lm) (dv : Value) : Prop := (m.params.args = [] ∧ dv = .none) ∨ (∃ (a : Addr) (i : Int) (y : Arg), m.params.args = [y] ∧ m.scope.names.lookup y.arg = some .local ∧ dv = .ref a ∧ F a = some (.tup [.int i]) ∧ m.params.defaults ≠ []) ∨
  ∃ y : Arg, m.params.args = [y] ∧ m.params.defaults = [] ∧ m.scope.names.lookup y.arg = some .local ∧ dv = .none
/-- the dict of an error, if it has one -/
def DictAt (F : Hp) (od : Option Addr) (nm : List (Str × V)) : Prop := (od = none ∧ nm = []) ∨ ∃ dd, od = some dd ∧ F dd = some (.xd nm)
section
variable (K : PySem.W.Frag) (G : Gx)
mutual
inductive RV (g : Gh) : W → V → Prop
  | non : RV g .non .non
  | bl (b : Bool) : RV g (.bl b) (.bl b)
  | int (i : Int) : RV g (.int i) (.int i)
  | str (x : Str) : RV g (.str x) (.str x)
  | rpr (d : PyData) : RV g (.rpr d) (.str d.shown)
  | tup {a : Addr} {vs : List V} {ws : List W} : SqT K g.F a vs → RVs g ws vs → RV g (.tup ws) (.ref a)
  | lst {a : Addr} {vs : List V} {ws : List W} : g.F a = some (.lst vs) → RVs g ws vs → RV g (.lst ws) (.ref a)
  | dct {a : Addr} {vs : List (Key × V)} {ws : List (Ky × W)} : g.F a = some (.dK vs) → RVk g ws vs → RV g (.dct ws) (.ref a)
  | fn {j : Nat} {a : Addr} : G j = some a → RV g (.fn j) (.ref a)
  | orc {m c l : Addr} : g.D = some (m, c, l) → RV g .orc (.ref m)
  | scr {a : Addr} {ns : List Int} {n : Nat} : SqL K g.F a (ns.map V.int) → ns.length = n → RV g (.scr n) (.ref a)
  | clo {j : Nat} {a c' : Addr} {m : Lm} {q : Str} {dv doc pm ctv : Value} {cells : List (Str × Addr)} {ws : List W} {xs : List V} : G.lam j m → g.F a = some (.frz (lamO m q dv doc cells pm c' ctv) (.ext fun _ => True)) → g.F c' = some (LamX.CodeO c' q) → BindsOff g.F m dv →
      (∀ (i : Nat) x, m.N[i]? = some x → ∃ c v, cells.lookup x = some c ∧ xs[i]? = some v ∧ ∃ o, g.F c = some (.frz o (cellO c v))) → (∀ x c, cells.lookup x = some c → x ∈ m.N) → (∀ x y c, cells.lookup x = some c → cells.lookup y = some c → x = y) → xs.length = m.N.length → RVs g ws xs → RV g (.clo j ws) (.ref a)
  | clr {k : Nat} {caps : List Nat} {a c' : Addr} {m : Lm} {q : Str} {dv doc pm ctv : Value} {cells : List (Str × Addr)} : G.lam k m → g.F a = some (.frz (lamO m q dv doc cells pm c' ctv) (.ext fun _ => True)) → g.F c' = some (LamX.CodeO c' q) → BindsOff g.F m dv →
      (∀ (i : Nat) y, m.N[i]? = some y → ∃ (s : Nat) (c : Addr), caps[i]? = some s ∧ g.E s = some (y, c) ∧ cells.lookup y = some c) → (∀ x c, cells.lookup x = some c → x ∈ m.N) → (∀ x y c, cells.lookup x = some c → cells.lookup y = some c → x = y) → caps.length = m.N.length → RV g (.clr k caps) (.ref a)
  | err {c : Nat} {a C : Addr} {od : Option Addr} {nm : List (Str × V)} {x : Str} {xs : List Str} {fs : List W} {vs : List V} : G.fn (clN + c) = some C → g.F a = some (errO a (.ref C) od) → DictAt g.F od nm → errs[c]? = some (x, xs) → xs.length = fs.length →
      (∀ (i : Nat) y v, xs[i]? = some y → vs[i]? = some v → nm.lookup y = some v) → RVs g fs vs → RV g (.err c fs) (.ref a)
inductive RVs (g : Gh) : List W → List V → Prop
  | nil : RVs g [] []
  | cons {w : W} {v : V} {ws : List W} {vs : List V} : RV g w v → RVs g ws vs → RVs g (w :: ws) (v :: vs)
inductive RVk (g : Gh) : List (Ky × W) → List (Key × V) → Prop
  | nil : RVk g [] []
  | cons {k : Ky} {w : W} {v : V} {ws : List (Ky × W)} {vs : List (Key × V)} : RV g w v → RVk g ws vs → RVk g ((k, w) :: ws) ((k, v) :: vs)
end
end

theorem SqL.le {K : PySem.W.Frag} {H H' : Hp} {a : Addr} {xs : List V} (e : Same H H') (h : SqL K H a xs) : SqL K H' a xs := e.seq h
theorem Rd.le {H H' : Hp} {a : Addr} {u : HO} (e : Same H H') (h : Rd H a u) : Rd H' a u := by
  rcases h with h | ⟨o, h⟩
  · exact .inl (e a _ h)
  · exact .inr ⟨o, e a _ h⟩
theorem SqT.le {K : PySem.W.Frag} {H H' : Hp} {a : Addr} {xs : List V} (e : Same H H') (h : SqT K H a xs) : SqT K H' a xs := by
  rcases h with h | h
  · exact .inl (Rd.le e h)
  · exact .inr h

theorem DictAt.le {F F' : Hp} {od : Option Addr} {nm : List (Str × V)} (e : Same F F') (h : DictAt F od nm) : DictAt F' od nm := by
  rcases h with h | ⟨dd, h1, h2⟩
  · exact .inl h
  · exact .inr ⟨dd, h1, e dd _ h2⟩
theorem BindsOff.le {F F' : Hp} {m : Lm} {dv : Value} (e : Same F F') (h : BindsOff F m dv) : BindsOff F' m dv := by
  rcases h with z | ⟨a, i, y, z1, z2, z3, z4, z5⟩ | z
  · exact .inl z
  · exact .inr (.inl ⟨a, i, y, z1, z2, z3, e a _ z4, z5⟩)
  · exact .inr (.inr z)
section
variable {K : PySem.W.Frag} {G : Gx}
mutual
theorem RV.le {g g' : Gh} (l : g.le g') : ∀ {w : W} {v : V}, RV K G g w v → RV K G g' w v
  | _, _, .non => .non
  | _, _, .bl b => .bl b
  | _, _, .int i => .int i
  | _, _, .str x => .str x
  | _, _, .rpr d => .rpr d
  | _, _, .tup h r => .tup (SqT.le l.1 h) (RVs.le l r)
  | _, _, .lst h r => .lst (l.1 _ _ h) (RVs.le l r)
  | _, _, .scr h e => .scr (SqL.le l.1 h) e
  | _, _, .dct h r => .dct (l.1 _ _ h) (RVk.le l r)
  | _, _, .fn h => .fn h
  | _, _, .orc h => .orc (l.2.1 _ h)
  | _, _, .clo h1 h2 h3 h4 h5 h6 h7 h8 r => .clo h1 (l.1 _ _ h2) (l.1 _ _ h3) (BindsOff.le l.1 h4) (fun i x e => let ⟨c, v, a1, a2, o, a3⟩ := h5 i x e; ⟨c, v, a1, a2, o, l.1 _ _ a3⟩) h6 h7 h8 (RVs.le l r)
  | _, _, .clr h1 h2 h3 h4 h5 h6 h7 h8 => .clr h1 (l.1 _ _ h2) (l.1 _ _ h3) (BindsOff.le l.1 h4) (fun i y e => let ⟨s, c, a1, a2, a3⟩ := h5 i y e; ⟨s, c, a1, by rw [l.2.2]; exact a2, a3⟩) h6 h7 h8
  | _, _, .err h1 h2 h3 h4 h5 h6 r => .err h1 (l.1 _ _ h2) (DictAt.le l.1 h3) h4 h5 h6 (RVs.le l r)
theorem RVs.le {g g' : Gh} (l : g.le g') : ∀ {w : List W} {v : List V}, RVs K G g w v → RVs K G g' w v
  | _, _, .nil => .nil
  | _, _, .cons a b => .cons (RV.le l a) (RVs.le l b)
theorem RVk.le {g g' : Gh} (l : g.le g') : ∀ {w : List (Ky × W)} {v : List (Key × V)}, RVk K G g w v → RVk K G g' w v
  | _, _, .nil => .nil
  | _, _, .cons a b => .cons (RV.le l a) (RVk.le l b)
end
theorem RVs.len {g : Gh} : ∀ {ws : List W} {vs : List V}, RVs K G g ws vs → ws.length = vs.length
  | _, _, .nil => rfl
  | _, _, .cons _ b => congrArg (· + 1) b.len
theorem RVk.len {g : Gh} : ∀ {ws : List (Ky × W)} {vs : List (Key × V)}, RVk K G g ws vs → ws.length = vs.length
  | _, _, .nil => rfl
  | _, _, .cons _ b => congrArg (· + 1) b.len
theorem RVs.get {g : Gh} : ∀ {ws : List W} {vs : List V} {i : Nat} {w : W}, RVs K G g ws vs → ws[i]? = some w → ∃ v, vs[i]? = some v ∧ RV K G g w v
  | _, _, _, _, .nil, e => by simp at e
  | _, _, 0, _, .cons a _, e => by
    simp at e
    subst e
    exact ⟨_, rfl, a⟩
  | _, _, i + 1, w, .cons _ b, e => by
    obtain ⟨v, h1, h2⟩ := RVs.get (i := i) b (by simpa using e)
    exact ⟨v, by simpa using h1, h2⟩
theorem RVs.append {g : Gh} : ∀ {ws us : List W} {vs xs : List V}, RVs K G g ws vs → RVs K G g us xs → RVs K G g (ws ++ us) (vs ++ xs)
  | _, _, _, _, .nil, s => s
  | _, _, _, _, .cons a b, s => .cons a (b.append s)
theorem RVs.take {g : Gh} : ∀ {ws : List W} {vs : List V} (n : Nat), RVs K G g ws vs → RVs K G g (ws.take n) (vs.take n)
  | _, _, 0, _ => by rw [List.take_zero, List.take_zero]; exact .nil
  | _, _, _ + 1, .nil => .nil
  | _, _, n + 1, .cons a b => .cons a (b.take n)
theorem RVs.drop {g : Gh} : ∀ {ws : List W} {vs : List V} (n : Nat), RVs K G g ws vs → RVs K G g (ws.drop n) (vs.drop n)
  | _, _, 0, r => r
  | _, _, _ + 1, .nil => .nil
  | _, _, n + 1, .cons _ b => b.drop n
theorem RVs.set {g : Gh} {w : W} {v : V} (r : RV K G g w v) : ∀ {ws : List W} {vs : List V} (i : Nat), RVs K G g ws vs → RVs K G g (ws.set i w) (vs.set i v)
  | _, _, _, .nil => .nil
  | _, _, 0, .cons _ b => .cons r b
  | _, _, i + 1, .cons a b => .cons a (b.set r i)
theorem RVs.flat {g : Gh} {ws : List W} {vs : List V} (r : RVs K G g ws vs) : ∀ n : Nat, RVs K G g (List.replicate n ws).flatten (List.replicate n vs).flatten
  | 0 => .nil
  | n + 1 => by
    rw [List.replicate_succ, List.replicate_succ, List.flatten_cons, List.flatten_cons]
    exact r.append (r.flat n)
end

/-! ### the drawing state -/
def BIG : Nat := 2 ^ 40
def sCells : Str := "cells"
def sGreat : Str := "great"
def sSpot : Str := "spot"
/-- the drawing state, from which b more numbers may be drawn -/
structure OrcAt (b : Nat) (d : Addr × Addr × Addr) (H : Hp) : Prop where
  ex : ∃ (cs gs : List Int) (n : Nat), H d.1 = some (.dK [(Sum.inr sCells, .ref d.2.1), (Sum.inr sGreat, .ref d.2.2), (Sum.inr sSpot, .int n)]) ∧
    H d.2.1 = some (.lst (cs.map V.int)) ∧ H d.2.2 = some (.lst (gs.map V.int)) ∧ cs.length = 64 ∧ (∀ x ∈ cs, 0 ≤ x ∧ x < 2147483647) ∧ gs.length ≤ 63 ∧ (∀ x ∈ gs, 0 ≤ x) ∧ n + b ≤ BIG
theorem OrcAt.le {b b' : Nat} {d : Addr × Addr × Addr} {H H' : Hp} (o : OrcAt b d H) (h : b' ≤ b) (e : ∀ a ∈ dAdr (some d), ∀ x, H a = some x → H' a = some x) : OrcAt b' d H' := by
  obtain ⟨cs, gs, n, h1, h2, h3, h4, h5, h6, h7, h8⟩ := o.ex
  obtain ⟨m, c, l⟩ := d
  exact ⟨cs, gs, n, e m (by simp [dAdr]) _ h1, e c (by simp [dAdr]) _ h2, e l (by simp [dAdr]) _ h3, h4, h5, h6, h7, by omega⟩

/-! ### a frame -/
/-- what is fixed while a def runs: the written part, the defs' places, the heap and the known part at the entry, the things handed over -/
structure Fm where
  K : PySem.W.Frag
  G : Gx
  H0 : Hp
  g0 : Gh
  IO : List Addr
  nod : Bool
/-- an owned thing -/
def OA (K : PySem.W.Frag) (G : Gx) (g : Gh) (H : Hp) (w : W) (a : Addr) : Prop := match w with
  | .lst ws => ∃ vs, H a = some (.lst vs) ∧ RVs K G g ws vs
  | .dct ws => ∃ vs, H a = some (.dK vs) ∧ RVk K G g ws vs
  | _ => False
theorem OA.le {K : PySem.W.Frag} {G : Gx} {g g' : Gh} {H H' : Hp} {w : W} {a : Addr} (l : g.le g') (e : ∀ o, H a = some o → H' a = some o) (h : OA K G g H w a) : OA K G g' H' w a := by
  cases w <;> first
    | exact h.elim
    | (obtain ⟨vs, h1, h2⟩ := h; exact ⟨vs, e _ h1, h2.le l⟩)
theorem OA.some {K : PySem.W.Frag} {G : Gx} {g : Gh} {H : Hp} {w : W} {a : Addr} (h : OA K G g H w a) : ∃ o, H a = some o := by
  cases w <;> first
    | exact h.elim
    | (obtain ⟨vs, h1, _⟩ := h; exact ⟨_, h1⟩)

/-- kept, but that a table of code objects may grow -/
def Kp (o : HO) (o' : Option HO) : Prop := o' = some o ∨ ∃ ps qs, o = .tbl ps ∧ o' = some (.tbl qs)
theorem Kp.some {o : HO} {o' : Option HO} (h : Kp o o') : ∃ u, o' = some u := by
  rcases h with h | ⟨_, _, _, h⟩
  · exact ⟨_, h⟩
  · exact ⟨_, h⟩
theorem Kp.ne {o : HO} {o' : Option HO} (h : Kp o o') : o' ≠ none := fun z => by
  obtain ⟨u, e⟩ := h.some
  rw [z] at e
  cases e
theorem Kp.trans {o o1 : HO} {o2 : Option HO} (h : Kp o (Option.some o1)) (h' : Kp o1 o2) : Kp o o2 := by
  rcases h with h | ⟨ps, qs, rfl, h⟩
  · cases h
    exact h'
  · cases h
    rcases h' with h' | ⟨_, ks, _, h'⟩
    · exact .inr ⟨_, _, rfl, h'⟩
    · exact .inr ⟨_, _, rfl, h'⟩
theorem Kp.same {o : HO} {o' : Option HO} (h : Kp o o') (n : ∀ ps, o ≠ .tbl ps) : o' = Option.some o := by
  rcases h with h | ⟨ps, _, e, _⟩
  · exact h
  · exact (n ps e).elim
/-- neither a table nor a thing by what is true of it -/
def Soft (o : Option HO) : Prop := ∀ u, o = some u → (∀ ps, u ≠ .tbl ps) ∧ ∀ φ, u ≠ .ext φ
theorem tabs_chg {T : List (Addr × Str)} {H : Hp} {a : Addr} {o : HO} (t : LamX.Tabs T H) (h : Soft (H a)) : LamX.Tabs T (upd H a o) := fun p hp => by
  obtain ⟨ps, h1, h2, h3⟩ := t p hp
  have nP : p.1 ≠ a := fun z => by
    rw [z] at h1
    exact (h _ h1).1 ps rfl
  refine ⟨ps, by rw [upd_ne nP]; exact h1, h2, fun pos cv hc => ?_⟩
  obtain ⟨c, e1, e2⟩ := h3 pos cv hc
  have nc : c ≠ a := fun z => by
    rw [z] at e2
    exact (h _ e2).2 _ rfl
  exact ⟨c, e1, by rw [upd_ne nc]; exact e2⟩
theorem soft_lst {vs : List V} : Soft (some (.lst vs)) := fun u e => by
  cases e
  constructor <;> (intro _ z; cases z)
theorem soft_dct {vs : List (Key × V)} : Soft (some (.dK vs)) := fun u e => by
  cases e
  constructor <;> (intro _ z; cases z)
theorem OA.soft {K : PySem.W.Frag} {G : Gx} {g : Gh} {H : Hp} {w : W} {a : Addr} (h : OA K G g H w a) : Soft (H a) := by
  cases w <;> first
    | exact h.elim
    | (obtain ⟨vs, h1, h2⟩ := h
       rw [h1]
       first
         | exact soft_lst
         | exact soft_dct)
structure Rl (f : Fm) (g : Gh) (b : Nat) (sl : Sl) (σ : St) (H : Hp) : Prop where
  le0 : f.g0.le g
  sub : Same g.F H
  kee : ∀ a o, f.H0 a = some o → a ∉ f.IO → a ∉ dAdr g.D → Kp o (H a)
  tab : LamX.Tabs f.G.tabs H
  new : ∀ a o, g.F a = some o → f.g0.F a = some o ∨ f.H0 a = none ∨ a ∈ f.IO ∨ ∃ φ, o = .ext φ
  nT : ∀ a ps, g.F a ≠ some (.tbl ps)
  dF : ∀ a ∈ dAdr g.D, g.F a = none
  orc : ∀ d, g.D = some d → OrcAt b d H
  d0 : ∀ a ∈ dAdr g.D, a ∈ dAdr f.g0.D ∨ f.H0 a = none
  dn : f.nod = true → g.D = none
  ioS : ∀ a ∈ f.IO, ∃ o, H a = some o
  len : sl.length = σ.length
  frz : ∀ (i : Nat) w, sl[i]? = some (some (w, false)) → ∃ v, σ[i]? = some (some v) ∧ RV f.K f.G g w v
  own : ∀ (i : Nat) w, sl[i]? = some (some (w, true)) → ∃ a, σ[i]? = some (some (.ref a)) ∧ OA f.K f.G g H w a ∧ g.F a = none ∧ a ∉ dAdr g.D ∧ (f.H0 a = none ∨ a ∈ f.IO)
  inj : ∀ (i j : Nat) w w' a, sl[i]? = some (some (w, true)) → sl[j]? = some (some (w', true)) → σ[i]? = some (some (.ref a)) → σ[j]? = some (some (.ref a)) → i = j
/-- a result: known, or new and nobody else's -/
def Vl (f : Fm) (g : Gh) (H : Hp) (sl : Sl) (σ : St) (r : R) (v : V) : Prop := match r.2 with
  | false => RV f.K f.G g r.1 v
  | true => ∃ a, v = .ref a ∧ OA f.K f.G g H r.1 a ∧ g.F a = none ∧ a ∉ dAdr g.D ∧ f.H0 a = none ∧ ∀ (i : Nat) w, sl[i]? = some (some (w, true)) → σ[i]? ≠ some (some (.ref a))

section
variable {f : Fm} {g g' : Gh} {b b' : Nat} {sl : Sl} {σ : St} {H H' : Hp}
/-- the heap grows -/
theorem Rl.mono (R : Rl f g b sl σ H) (e : Same H H') : Rl f g b sl σ H' where
  le0 := R.le0
  sub := R.sub.trans e
  kee := fun a o h1 h2 h3 => by
    rcases R.kee a o h1 h2 h3 with z | ⟨ps, qs, z1, z2⟩
    · exact .inl (e a o z)
    · exact .inr ⟨ps, qs, z1, e a _ z2⟩
  tab := R.tab.ext e
  new := R.new
  nT := R.nT
  dF := R.dF
  orc := fun d hd => (R.orc d hd).le (Nat.le_refl _) fun a _ x hx => e a x hx
  d0 := R.d0
  dn := R.dn
  ioS := fun a h => let ⟨o, q⟩ := R.ioS a h; ⟨o, e a o q⟩
  len := R.len
  frz := R.frz
  own := fun i w h => by
    obtain ⟨a, h1, h2, h3⟩ := R.own i w h
    exact ⟨a, h1, h2.le (Gh.le.refl g) fun o ho => e a o ho, h3⟩
  inj := R.inj
/-- one thing more is known -/
def Gh.add (g : Gh) (a : Addr) (o : HO) : Gh := ⟨upd g.F a o, g.D, g.E⟩
theorem Gh.le_add {a : Addr} {o : HO} (h : g.F a = none) : g.le (g.add a o) :=
  ⟨fun c u e => by
    show upd g.F a o c = some u
    rw [upd_ne (ne_of_none e h)]
    exact e, fun _ h => h, rfl⟩
theorem Rl.add {a : Addr} {o : HO} (R : Rl f g b sl σ H) (hF : g.F a = none) (hH : H a = some o) (hD : a ∉ dAdr g.D) (h0 : f.H0 a = none ∨ a ∈ f.IO ∨ ∃ φ, o = .ext φ) (hs : ∀ (i : Nat) w, sl[i]? = some (some (w, true)) → σ[i]? ≠ some (some (.ref a))) (nt : ∀ ps, o ≠ .tbl ps) : Rl f (g.add a o) b sl σ H where
  nT := fun c ps e => by
    by_cases hc : c = a
    · subst hc
      have e : upd g.F c o c = some (.tbl ps) := e
      rw [upd_same] at e
      exact nt ps (Option.some.inj e)
    · have e : upd g.F a o c = some (.tbl ps) := e
      rw [upd_ne hc] at e
      exact R.nT c ps e
  le0 := R.le0.trans (Gh.le_add hF)
  sub := fun c u e => by
    by_cases hc : c = a
    · subst hc
      have e' : upd g.F c o c = some u := e
      rw [upd_same] at e'
      cases e'
      exact hH
    · have e' : upd g.F a o c = some u := e
      rw [upd_ne hc] at e'
      exact R.sub c u e'
  kee := R.kee
  tab := R.tab
  new := fun c u e => by
    by_cases hc : c = a
    · subst hc
      have e : upd g.F c o c = some u := e
      rw [upd_same] at e
      cases e
      exact .inr h0
    · have e' : upd g.F a o c = some u := e
      rw [upd_ne hc] at e'
      exact R.new c u e'
  dF := fun c hc => by
    show upd g.F a o c = none
    have hca : c ≠ a := fun e => by
      subst e
      exact hD hc
    rw [upd_ne hca]
    exact R.dF c hc
  orc := R.orc
  d0 := R.d0
  dn := R.dn
  ioS := R.ioS
  len := R.len
  frz := fun i w h => by
    obtain ⟨v, h1, h2⟩ := R.frz i w h
    exact ⟨v, h1, h2.le (Gh.le_add hF)⟩
  own := fun i w h => by
    obtain ⟨c, h1, h2, h3, h4⟩ := R.own i w h
    refine ⟨c, h1, h2.le (Gh.le_add hF) fun _ z => z, ?_, h4⟩
    show upd g.F a o c = none
    have hca : c ≠ a := fun e => by
      subst e
      exact hs i w h h1
    rw [upd_ne hca]
    exact h3
  inj := R.inj
/-- a new result becomes known -/
theorem Rl.freeze {r : R} {v : V} (R : Rl f g b sl σ H) (h : Vl f g H sl σ r v) : ∃ g', g.le g' ∧ Rl f g' b sl σ H ∧ RV f.K f.G g' r.1 v := by
  obtain ⟨w, fr⟩ := r
  cases fr with
  | false => exact ⟨g, Gh.le.refl g, R, h⟩
  | true =>
    obtain ⟨a, rfl, ho, hF, hD, h0, hs⟩ := h
    obtain ⟨o, e⟩ := ho.some
    refine ⟨g.add a o, Gh.le_add hF, R.add hF e hD (.inl h0) hs (ho.soft o e).1, ?_⟩
    have hF' : (g.add a o).F a = some o := upd_same
    cases w <;> first
      | exact ho.elim
      | (obtain ⟨vs, h1, h2⟩ := ho
         rw [e] at h1; cases h1
         first
           | exact .lst hF' (h2.le (Gh.le_add hF))
           | exact .dct hF' (h2.le (Gh.le_add hF)))
theorem sl_set {α : Type} {xs : List α} {i j : Nat} {x y : α} (h : (xs.set i x)[j]? = some y) : (i = j ∧ y = x) ∨ (i ≠ j ∧ xs[j]? = some y) := by
  by_cases e : i = j
  · subst e
    rw [List.getElem?_set_self'] at h
    cases q : xs[i]? with
    | none => rw [q] at h; cases h
    | some z =>
      rw [q] at h
      exact .inl ⟨rfl, (Option.some.inj h).symm⟩
  · rw [List.getElem?_set_ne e] at h
    exact .inr ⟨e, h⟩
/-- a slot gets a known value (σ too) -/
theorem Rl.setF {i : Nat} {w : W} {v : V} (R : Rl f g b sl σ H) (hv : RV f.K f.G g w v) : Rl f g b (sl.set i (some (w, false))) (σ.set i (some v)) H where
  le0 := R.le0
  sub := R.sub
  kee := R.kee
  tab := R.tab
  new := R.new
  nT := R.nT
  dF := R.dF
  orc := R.orc
  d0 := R.d0
  dn := R.dn
  ioS := R.ioS
  len := by rw [List.length_set, List.length_set]; exact R.len
  frz := fun j u h => by
    rcases sl_set h with ⟨e, q⟩ | ⟨e, q⟩
    · subst e
      cases q
      have hi : i < σ.length := by
        rw [← R.len]
        have := (List.getElem?_eq_some_iff.mp h).1
        rw [List.length_set] at this
        exact this
      exact ⟨v, List.getElem?_set_self hi, hv⟩
    · obtain ⟨x, h1, h2⟩ := R.frz j u q
      exact ⟨x, by rw [List.getElem?_set_ne e]; exact h1, h2⟩
  own := fun j u h => by
    rcases sl_set h with ⟨e, q⟩ | ⟨e, q⟩
    · cases q
    · obtain ⟨x, h1, h2⟩ := R.own j u q
      exact ⟨x, by rw [List.getElem?_set_ne e]; exact h1, h2⟩
  inj := fun j k u u' a h1 h2 h3 h4 => by
    rcases sl_set h1 with ⟨e, q⟩ | ⟨e, q⟩
    · cases q
    · rcases sl_set h2 with ⟨e', q'⟩ | ⟨e', q'⟩
      · cases q'
      · rw [List.getElem?_set_ne e] at h3
        rw [List.getElem?_set_ne e'] at h4
        exact R.inj j k u u' a q q' h3 h4
/-- a slot gets a new thing -/
theorem Rl.setO {i : Nat} {w : W} {a : Addr} (R : Rl f g b sl σ H) (ho : OA f.K f.G g H w a) (hF : g.F a = none) (hD : a ∉ dAdr g.D) (h0 : f.H0 a = none ∨ a ∈ f.IO)
    (hs : ∀ (j : Nat) u, j ≠ i → sl[j]? = some (some (u, true)) → σ[j]? ≠ some (some (.ref a))) : Rl f g b (sl.set i (some (w, true))) (σ.set i (some (.ref a))) H where
  le0 := R.le0
  sub := R.sub
  kee := R.kee
  tab := R.tab
  new := R.new
  nT := R.nT
  dF := R.dF
  orc := R.orc
  d0 := R.d0
  dn := R.dn
  ioS := R.ioS
  len := by rw [List.length_set, List.length_set]; exact R.len
  frz := fun j u h => by
    rcases sl_set h with ⟨e, q⟩ | ⟨e, q⟩
    · cases q
    · obtain ⟨x, h1, h2⟩ := R.frz j u q
      exact ⟨x, by rw [List.getElem?_set_ne e]; exact h1, h2⟩
  own := fun j u h => by
    rcases sl_set h with ⟨e, q⟩ | ⟨e, q⟩
    · subst e
      cases q
      have hi : i < σ.length := by
        rw [← R.len]
        have := (List.getElem?_eq_some_iff.mp h).1
        rw [List.length_set] at this
        exact this
      exact ⟨a, List.getElem?_set_self hi, ho, hF, hD, h0⟩
    · obtain ⟨x, h1, h2⟩ := R.own j u q
      exact ⟨x, by rw [List.getElem?_set_ne e]; exact h1, h2⟩
  inj := fun j k u u' c h1 h2 h3 h4 => by
    rcases sl_set h1 with ⟨e, q⟩ | ⟨e, q⟩
    · rcases sl_set h2 with ⟨e', q'⟩ | ⟨e', q'⟩
      · exact e.symm.trans e'
      · subst e
        have hi : i < σ.length := by
          rw [← R.len]
          have := (List.getElem?_eq_some_iff.mp h1).1
          rw [List.length_set] at this
          exact this
        rw [List.getElem?_set_self hi] at h3
        rw [List.getElem?_set_ne e'] at h4
        cases h3
        exact (hs k u' (Ne.symm e') q' h4).elim
    · rcases sl_set h2 with ⟨e', q'⟩ | ⟨e', q'⟩
      · subst e'
        have hi : i < σ.length := by
          rw [← R.len]
          have := (List.getElem?_eq_some_iff.mp h2).1
          rw [List.length_set] at this
          exact this
        rw [List.getElem?_set_self hi] at h4
        rw [List.getElem?_set_ne e] at h3
        cases h4
        exact (hs j u (Ne.symm e) q h3).elim
      · rw [List.getElem?_set_ne e] at h3
        rw [List.getElem?_set_ne e'] at h4
        exact R.inj j k u u' c q q' h3 h4
/-- slots forgotten -/
theorem Rl.weak {sl' : Sl} (R : Rl f g b sl σ H) (hl : sl'.length = sl.length) (h : ∀ (i : Nat) r, sl'[i]? = some (some r) → sl[i]? = some (some r)) : Rl f g b sl' σ H where
  le0 := R.le0
  sub := R.sub
  kee := R.kee
  tab := R.tab
  new := R.new
  nT := R.nT
  dF := R.dF
  orc := R.orc
  d0 := R.d0
  dn := R.dn
  ioS := R.ioS
  len := hl.trans R.len
  frz := fun i w q => R.frz i w (h i _ q)
  own := fun i w q => R.own i w (h i _ q)
  inj := fun i j w w' a h1 h2 h3 h4 => R.inj i j w w' a (h i _ h1) (h j _ h2) h3 h4
theorem Rl.setN {i : Nat} (R : Rl f g b sl σ H) : Rl f g b (sl.set i none) σ H :=
  R.weak (List.length_set ..) fun j r h => by
    rcases sl_set h with ⟨_, q⟩ | ⟨_, q⟩
    · cases q
    · exact q
/-- the value of a slot becomes known: it is read where it is kept -/
theorem Rl.read {i : Nat} {w : W} {fr : Bool} (R : Rl f g b sl σ H) (h : sl[i]? = some (some (w, fr))) :
    ∃ g' v, g.le g' ∧ σ[i]? = some (some v) ∧ RV f.K f.G g' w v ∧ Rl f g' b (sl.set i (some (w, false))) σ H := by
  have hi : i < sl.length := (List.getElem?_eq_some_iff.mp h).1
  cases fr with
  | false =>
    obtain ⟨v, h1, h2⟩ := R.frz i w h
    refine ⟨g, v, Gh.le.refl g, h1, h2, ?_⟩
    have e : sl.set i (some (w, false)) = sl := by
      refine List.ext_getElem? fun j => ?_
      by_cases hj : i = j
      · subst hj
        rw [List.getElem?_set_self hi, h]
      · rw [List.getElem?_set_ne hj]
    rw [e]
    exact R
  | true =>
    obtain ⟨a, h1, ho, hF, hD, h0⟩ := R.own i w h
    obtain ⟨o, e⟩ := ho.some
    have R1 : Rl f g b (sl.set i none) σ H := R.setN
    have hs : ∀ (j : Nat) u, (sl.set i none)[j]? = some (some (u, true)) → σ[j]? ≠ some (some (.ref a)) := fun j u q z => by
      rcases sl_set q with ⟨_, q'⟩ | ⟨e1, q'⟩
      · cases q'
      · exact e1 (R.inj i j w u a h q' h1 z)
    have R2 := R1.add hF e hD (h0.imp id .inl) hs (ho.soft o e).1
    have hF' : (g.add a o).F a = some o := upd_same
    have rv : RV f.K f.G (g.add a o) w (.ref a) := by
      cases w <;> first
        | exact ho.elim
        | (obtain ⟨vs, q1, q2⟩ := ho
           rw [e] at q1; cases q1
           first
             | exact .lst hF' (q2.le (Gh.le_add hF))
             | exact .dct hF' (q2.le (Gh.le_add hF)))
    refine ⟨g.add a o, .ref a, Gh.le_add hF, h1, rv, ?_⟩
    have R3 := R2.setF (i := i) (v := .ref a) rv
    have e1 : (sl.set i none).set i (some (w, false)) = sl.set i (some (w, false)) := List.set_set ..
    have e2 : σ.set i (some (.ref a)) = σ := by
      refine List.ext_getElem? fun j => ?_
      by_cases hj : i = j
      · subst hj
        rw [List.getElem?_set_self (by rw [← R.len]; exact hi), h1]
      · rw [List.getElem?_set_ne hj]
    rw [e1, e2] at R3
    exact R3
end

/-! ### exceptions -/
/-- an exception of the class number c with the fields fs: cls its class, d its dict -/
def XR (K : PySem.W.Frag) (G : Gx) (g : Gh) (c : Nat) (fs : List W) (cls : Value) (d : Option Addr) : Prop :=
  ∃ (C dd : Addr) (nm : List (Str × V)) (x : Str) (xs : List Str), G (clN + c) = some C ∧ cls = .ref C ∧ d = some dd ∧ g.F dd = some (.xd nm) ∧ errs[c]? = some (x, xs) ∧ xs.length = fs.length ∧
    ∀ (i : Nat) w y, fs[i]? = some w → xs[i]? = some y → ∃ v, nm.lookup y = some v ∧ RV K G g w v
/-- what is wished of an exception that comes up in a frame -/
def wOf (XE : XP) (f : Fm) : WX := fun cls d _ H => ∃ c fs g b, XE c fs b ∧ XR f.K f.G g c fs cls d ∧ Rl f g b [] [] H
theorem Rl.bare {f : Fm} {g : Gh} {b : Nat} {sl : Sl} {σ : St} {H : Hp} (R : Rl f g b sl σ H) : Rl f g b [] [] H :=
  { R with
    len := rfl
    frz := fun i w h => by simp at h
    own := fun i w h => by simp at h
    inj := fun i j w w' a h => by simp at h }
theorem takes_no {X : Cx} {f : Fm} : Takes X (wOf T.noX f) := fun u s' x => by
  obtain ⟨_, _, _, _, _, _, _, _, _, _, _, _, _, _, _, _, c, fs, g, b, z, _⟩ := x
  exact z.elim
end Ev
end
section
set_option Elab.async false
set_option linter.all false
set_option maxRecDepth 100000
set_option maxHeartbeats 4000000
/-! EvMul: a tuple times 1 is the tuple itself. -/
namespace Ev
open PySem PySem.Spec PyProof.Rows L2
theorem tuple_mul1 (l : Addr) (items : Array Value) (n : Nat) (dd : Option Addr) (sl : Array (Option Value)) (u : Tok) :
    Meets (Builtin.«tuple.__mul__» ⟨[.ref l, .int 1 u], []⟩) (fun _ R s => s.heap.get? l = some { cls := .type "tuple", dict := dd, data := .seq items n, slots := sl } ∧ R (.ok (.ret (Value.ref l))) s) :=
  .of_wp fun prog w A R s h => by
    obtain ⟨hp, g, d, tk, os⟩ := s
    obtain ⟨hl, h⟩ := h
    have f1 := AutoSeq1.idx_int
    have c0 : (decide ((1 : Int) < -(2 ^ 63)) || decide ((1 : Int) ≥ 2 ^ 63)) = false := by decide
    have c1 : (items.isEmpty || (1 : Int) == 1) = true := by simp
    wp_walk using wpAny_loadPart' hl
    repeat (first
      | (refine wpAny_ite_false (decide_eq_false (by rw [c0]; exact Bool.false_ne_true)) ?_; wp_walk using wpAny_loadPart' hl)
      | (refine wpAny_ite_true (decide_eq_true c1) ?_; wp_walk using wpAny_loadPart' hl))
    exact ⟨_, rfl, h⟩
theorem op_rep1 {X : Cx} : OpR X (binaryOp .Mult) (fun x y H Q => ∃ l xs, x = .ref l ∧ y = .int 1 ∧ SqT X.K H l xs ∧ Q (.ref l) H) := by
  intro pins s σ H x y v u Q I rx ry h
  obtain ⟨l, xs, rfl, rfl, hT, q⟩ := h
  cases rx
  obtain ⟨t, rfl⟩ := ry
  obtain ⟨its, r, ⟨⟨cls, dd, data, sl⟩, ho, hc, n, hd⟩, hs⟩ := I.tuple hT
  simp only at hc hd
  subst hc hd
  refine wpAny_binaryOp_repeat_ref (T := "tuple") (U := "int") (by decide) ⟨_, ho, rfl⟩ (fun s' => typeIs_int s' 1 t) noFill_tuple_mul F.fills_int_mul F.slot_int_rmul repeat_tuple F.slot_int_index.lookup
    (call_meets F.slot_int_rmul (typeIs_int s 1 t) F.entry_int_rmul (F.args_int_rmul_2 _ _) (int_rmul_tuple 1 t l its.toArray n dd sl)
      ⟨ho, rfl, ⟨_, ho, rfl⟩, call_meets F.slot_tuple_mul ⟨_, ho, rfl⟩ F.entry_tuple_mul (F.args_tuple_mul_2 _ _) (tuple_mul1 l its.toArray n dd sl t) ⟨ho, ?_⟩⟩)
  exact ⟨.ref l, H, I, rfl, q⟩
end Ev
end
section
set_option Elab.async false
set_option linter.all false
set_option maxRecDepth 100000
set_option maxHeartbeats 2000000
/-! EvBind: plain parameters. -/
noncomputable section
namespace Ev
open PySem L2
set_option autoImplicit false
/-! ### plain arguments -/
def plainA (p : Arguments) (ps : List Str) : Bool := p.posonlyargs.isEmpty && (p.vararg.isNone && (p.kwonlyargs.isEmpty && (p.kwarg.isNone && decide (p.args.map (·.arg) = ps) && decide (ps.Nodup))))
theorem look_zip {α : Type} : ∀ {ps : List Str} {us : List α}, us.length = ps.length → ∀ n ∈ ps, ((ps.zip us).lookup n).isSome = true
  | [], _, _, n, h => (List.not_mem_nil h).elim
  | p :: ps, [], hl, _, _ => by simp at hl
  | p :: ps, u :: us, hl, n, h => by
    rw [List.zip_cons_cons, List.lookup_cons]
    cases e : n == p with
    | true => rfl
    | false =>
      rcases List.mem_cons.mp h with z | z
      · rw [z, beq_self_eq_true] at e; cases e
      · exact look_zip (by simpa using hl) n z
theorem fm_congr {α β : Type} {f g : α → Option β} : ∀ {l : List α}, (∀ n ∈ l, f n = g n) → l.filterMap f = l.filterMap g
  | [], _ => rfl
  | x :: l, h => by
    rw [List.filterMap_cons, List.filterMap_cons, h x (List.mem_cons_self ..), fm_congr fun n hn => h n (List.mem_cons_of_mem _ hn)]
theorem fm_zip {α : Type} : ∀ {ps : List Str} {us : List α}, ps.Nodup → us.length = ps.length → (ps.filterMap fun n => ((ps.zip us).lookup n).map (n, ·)) = ps.zip us
  | [], _, _, _ => rfl
  | p :: ps, [], _, hl => by simp at hl
  | p :: ps, u :: us, nd, hl => by
    have nd := List.nodup_cons.mp nd
    rw [List.zip_cons_cons, List.filterMap_cons, List.lookup_cons, beq_self_eq_true]
    show (p, u) :: _ = _
    congr 1
    refine Eq.trans (fm_congr fun n hn => ?_) (fm_zip (us := us) nd.2 (by simpa using hl))
    rw [List.lookup_cons]
    have : (n == p) = false := by
      cases e : n == p with
      | false => rfl
      | true => exact (nd.1 (beq_iff_eq.mp e ▸ hn)).elim
    rw [this]
theorem bind_plain {fd : FuncData} {ps : List Str} (h : plainA fd.params ps = true) (hd : fd.defaults = .none) (us : List Value) (hl : us.length = ps.length) : bindArgs fd ⟨us, []⟩ = pure (ps.zip us) := by
  obtain ⟨d1, d2, ⟨a1, a2, a3, a4, a5, a6, a7⟩, d4, d5, d6, d7, d8, d9, d10, d11, d12, d13, d14, d15⟩ := fd
  dsimp only at h hd
  subst hd
  simp only [plainA, Bool.and_eq_true, List.isEmpty_iff, Option.isNone_iff_eq_none, decide_eq_true_eq] at h
  obtain ⟨h1, h2, h3, ⟨h4, h5⟩, h6⟩ := h
  subst h1 h2 h3 h4 h5
  have mis : (List.filter (fun n => (List.lookup n ((List.map (fun x => x.arg) a2).zip us)).isNone) (List.map (fun x => x.arg) a2)) = [] := by
    rw [List.filter_eq_nil_iff]
    intro n hn
    have := look_zip hl n hn
    simp only [Option.isNone_iff_eq_none]
    intro z
    rw [z] at this
    cases this
  have ng : ¬ (us.length > (List.map (fun x => x.arg) a2).length) := by omega
  have fz := fm_zip h6 hl
  unfold bindArgs
  simp only [List.map_nil, List.nil_append, List.forIn_nil, pure_bind, List.append_nil, Option.isNone_none, Bool.and_true]
  have sq : seqItems? Value.none = pure none := rfl
  rw [sq, pure_bind]
  generalize hps : List.map (fun x : Arg => x.arg) a2 = ps at *
  rw [if_neg (by rw [decide_eq_true_eq]; exact ng)]
  simp only [Option.getD_none, List.drop_nil, List.length_nil, Nat.sub_zero, List.take_length, mis, List.isEmpty_nil, Bool.not_true, Bool.false_eq_true, if_false, List.drop_length, List.zip_nil_left, List.zip_nil_right, List.forIn_nil, pure_bind, fz]
/-! ### arguments by keywords -/
theorem forIn_inv {m : Type → Type} [Monad m] [LawfulMonad m] {α σ : Type} {F : α → σ → m (ForInStep σ)} (g : List α → σ) : ∀ (l pre : List α), (∀ p x q, pre ++ l = p ++ x :: q → F x (g p) = pure (.yield (g (p ++ [x])))) → forIn l (g pre) F = pure (g (pre ++ l))
  | [], pre, _ => by rw [List.forIn_nil, List.append_nil]
  | x :: l, pre, h => by
    rw [List.forIn_cons, h pre x l rfl, pure_bind]
    show forIn l (g (pre ++ [x])) F = _
    rw [forIn_inv g l (pre ++ [x]) fun p y q e => h p y q (by rw [← e, List.append_assoc]; rfl), List.append_assoc]
    rfl
theorem forIn_inv0 {m : Type → Type} [Monad m] [LawfulMonad m] {α σ : Type} {F : α → σ → m (ForInStep σ)} (g : List α → σ) {a : σ} (e : g [] = a) {l : List α} (h : ∀ p x q, l = p ++ x :: q → F x (g p) = pure (.yield (g (p ++ [x])))) : forIn l a F = pure (g l) := by
  subst e
  exact forIn_inv g l [] h
/-- args: all by keywords; us are their values in the order of ps -/
def KwOk (ps : List Str) (args : Args) (us : List Value) : Prop :=
  ∃ (ks : List Str) (ws : List Value) (is : List Nat), args = ⟨[], ks.zip ws⟩ ∧ ws.length = ks.length ∧ ks.Nodup ∧ (∀ k ∈ ks, k ∈ ps) ∧ is.map (fun i => ks[i]?) = ps.map some ∧ is.map (fun i => ws[i]?) = us.map some
theorem look_at {α : Type} : ∀ {ks : List Str} {ws : List α} {i : Nat} {k : Str} {u : α}, ks.Nodup → ks[i]? = some k → ws[i]? = some u → (ks.zip ws).lookup k = some u
  | [], _, _, _, _, _, h, _ => by simp at h
  | _ :: _, [], _, _, _, _, _, h => by simp at h
  | k0 :: ks, w0 :: ws, 0, k, u, _, h1, h2 => by
    have h1 : k0 = k := by simpa using h1
    have h2 : w0 = u := by simpa using h2
    rw [List.zip_cons_cons, List.lookup_cons, h1, h2, beq_self_eq_true]
  | k0 :: ks, w0 :: ws, i + 1, k, u, nd, h1, h2 => by
    have nd := List.nodup_cons.mp nd
    have h1 : ks[i]? = some k := by simpa using h1
    have h2 : ws[i]? = some u := by simpa using h2
    have : (k == k0) = false := by
      cases e : k == k0 with
      | false => rfl
      | true => exact (nd.1 (beq_iff_eq.mp e ▸ List.mem_of_getElem? h1)).elim
    rw [List.zip_cons_cons, List.lookup_cons, this]
    exact look_at nd.2 h1 h2
theorem kw_fm {ks : List Str} {ws : List Value} (nd : ks.Nodup) : ∀ {is : List Nat} {ps : List Str} {us : List Value}, is.map (fun i => ks[i]?) = ps.map some → is.map (fun i => ws[i]?) = us.map some → (ps.filterMap fun n => ((ks.zip ws).lookup n).map (n, ·)) = ps.zip us ∧ ∀ n ∈ ps, ((ks.zip ws).lookup n).isSome = true
  | [], [], us, _, _ => ⟨rfl, fun n h => (List.not_mem_nil h).elim⟩
  | [], _ :: _, us, h, _ => by cases h
  | _ :: _, [], us, h, _ => by cases h
  | _ :: _, _ :: _, [], _, h => by cases h
  | i :: is, p :: ps, u :: us, h1, h2 => by
    rw [List.map_cons, List.map_cons, List.cons.injEq] at h1 h2
    obtain ⟨r1, r2⟩ := kw_fm nd h1.2 h2.2
    have l := look_at nd h1.1 h2.1
    refine ⟨?_, fun n hn => ?_⟩
    · rw [List.filterMap_cons, l, List.zip_cons_cons]
      show (p, u) :: _ = _
      rw [r1]
    · rcases List.mem_cons.mp hn with e | e
      · rw [e, l]; rfl
      · exact r2 n e
theorem look_none {α : Type} {ks : List (Str × α)} {n : Str} (h : n ∉ ks.map (·.1)) : ks.lookup n = none := by
  induction ks with
  | nil => rfl
  | cons k ks ih =>
    rw [List.map_cons, List.mem_cons, not_or] at h
    have : (n == k.1) = false := by
      cases e : n == k.1 with
      | false => rfl
      | true => exact (h.1 (beq_iff_eq.mp e)).elim
    obtain ⟨k1, k2⟩ := k
    rw [List.lookup_cons, this]
    exact ih h.2
theorem bind_kw {fd : FuncData} {ps : List Str} (h : plainA fd.params ps = true) (hd : fd.defaults = .none) {args : Args} {us : List Value} (hk : KwOk ps args us) : bindArgs fd args = pure (ps.zip us) := by
  obtain ⟨ks, ws, is, rfl, lw, nd, sup, k1, k2⟩ := hk
  obtain ⟨d1, d2, ⟨a1, a2, a3, a4, a5, a6, a7⟩, d4, d5, d6, d7, d8, d9, d10, d11, d12, d13, d14, d15⟩ := fd
  dsimp only at h hd
  subst hd
  simp only [plainA, Bool.and_eq_true, List.isEmpty_iff, Option.isNone_iff_eq_none, decide_eq_true_eq] at h
  obtain ⟨h1, h2, h3, ⟨h4, h5⟩, h6⟩ := h
  subst h1 h2 h3 h4 h5
  obtain ⟨fz, lo⟩ := kw_fm nd k1 k2
  have mp : (ks.zip ws).map (·.1) = ks := List.map_fst_zip (by omega)
  unfold bindArgs
  simp only [List.map_nil, List.nil_append, List.append_nil, List.zip_nil_right, Option.isNone_none, Bool.and_true]
  generalize hps : List.map (fun x : Arg => x.arg) a2 = ps at *
  have mis : (List.filter (fun n => (List.lookup n (ks.zip ws)).isNone) ps) = [] := by
    rw [List.filter_eq_nil_iff]
    intro n hn
    have := lo n hn
    simp only [Option.isNone_iff_eq_none]
    intro z
    rw [z] at this
    cases this
  rw [forIn_inv0 (fun l => (l, [])) (a := ([], [])) rfl fun p x q e => ?_, pure_bind]
  · have sq : seqItems? Value.none = pure none := rfl
    rw [sq, pure_bind]
    rw [if_neg (by simp)]
    simp only [Option.getD_none, List.drop_nil, List.length_nil, Nat.sub_zero, List.take_length, mis, List.isEmpty_nil, Bool.not_true, Bool.false_eq_true, if_false, List.drop_length, List.zip_nil_left, List.zip_nil_right, List.forIn_nil, pure_bind, fz]
  · have mx : x ∈ ks.zip ws := by rw [e]; simp
    have c1 : ps.contains x.1 = true := by
      rw [List.contains_iff_mem]
      exact sup _ (List.of_mem_zip (a := x.1) (b := x.2) mx).1
    have c2 : (List.lookup x.1 p) = none := by
      refine look_none fun z => ?_
      rw [← mp, e, List.map_append, List.map_cons] at nd
      have := (List.nodup_append.mp nd).2.2 _ z _ (List.mem_cons_self ..)
      exact this rfl
    simp only [c1, c2, Bool.true_or, if_true, Option.isSome_none, Bool.false_eq_true, if_false]
end Ev
end
end
section
set_option Elab.async false
set_option linter.all false
set_option maxRecDepth 100000
set_option maxHeartbeats 2000000
/-! EvOps: operations by values are right over the hand layer. -/
namespace Ev
open PySem L2
set_option autoImplicit false
variable {XE : XP}

/-- a value that is looked at: known, or owned by a slot -/
def PV (f : Fm) (g : Gh) (H : Hp) (w : W) (v : V) : Prop := RV f.K f.G g w v ∨ ∃ a, v = .ref a ∧ OA f.K f.G g H w a
section
variable {f : Fm} {g g' : Gh} {b : Nat} {sl : Sl} {σ : St} {H H' : Hp} {v : V}
theorem PV.non (h : PV f g H .non v) : v = .non := by
  rcases h with h | ⟨_, _, h⟩
  · cases h; rfl
  · exact h.elim
theorem PV.bl {c : Bool} (h : PV f g H (.bl c) v) : v = .bl c := by
  rcases h with h | ⟨_, _, h⟩
  · cases h; rfl
  · exact h.elim
theorem PV.int {i : Int} (h : PV f g H (.int i) v) : v = .int i := by
  rcases h with h | ⟨_, _, h⟩
  · cases h; rfl
  · exact h.elim
theorem PV.str {x : Str} (h : PV f g H (.str x) v) : v = .str x := by
  rcases h with h | ⟨_, _, h⟩
  · cases h; rfl
  · exact h.elim
theorem PV.rpr {d : PyData} (h : PV f g H (.rpr d) v) : v = .str d.shown := by
  rcases h with h | ⟨_, _, h⟩
  · cases h; rfl
  · exact h.elim
theorem PV.tup {ws : List W} (e : Same g.F H) (h : PV f g H (.tup ws) v) : ∃ a vs, v = .ref a ∧ SqT f.K H a vs ∧ RVs f.K f.G g ws vs := by
  rcases h with h | ⟨_, _, h⟩
  · cases h with
    | tup q r => exact ⟨_, _, rfl, SqT.le e q, r⟩
  · exact h.elim
theorem PV.lst {ws : List W} (e : Same g.F H) (h : PV f g H (.lst ws) v) : ∃ a vs, v = .ref a ∧ H a = some (.lst vs) ∧ RVs f.K f.G g ws vs := by
  rcases h with h | ⟨a, e1, h⟩
  · cases h with
    | lst q r => exact ⟨_, _, rfl, e _ _ q, r⟩
  · obtain ⟨vs, q, r⟩ := h
    exact ⟨a, vs, e1, q, r⟩
theorem PV.dct {ws : List (Ky × W)} (e : Same g.F H) (h : PV f g H (.dct ws) v) : ∃ a vs, v = .ref a ∧ H a = some (.dK vs) ∧ RVk f.K f.G g ws vs := by
  rcases h with h | ⟨a, e1, h⟩
  · cases h with
    | dct q r => exact ⟨_, _, rfl, e _ _ q, r⟩
  · obtain ⟨vs, q, r⟩ := h
    exact ⟨a, vs, e1, q, r⟩
theorem PV.scr {n : Nat} (e : Same g.F H) (h : PV f g H (.scr n) v) : ∃ (a : Addr) (ns : List Int), v = .ref a ∧ SqL f.K H a (ns.map V.int) ∧ ns.length = n := by
  rcases h with h | ⟨_, _, h⟩
  · cases h with
    | scr q r => exact ⟨_, _, rfl, SqL.le e q, r⟩
  · exact h.elim
theorem PV.le (l : g.le g') (e : Same H H') {w : W} (h : PV f g H w v) : PV f g' H' w v := by
  rcases h with h | ⟨a, e1, h⟩
  · exact .inl (h.le l)
  · exact .inr ⟨a, e1, h.le l fun o q => e a o q⟩

/-! ### what a new object is -/
theorem Rl.freeF (R : Rl f g b sl σ H) {p : Addr} (h : H p = none) : g.F p = none := R.sub.free h
theorem Rl.freeD (R : Rl f g b sl σ H) {p : Addr} (h : H p = none) : p ∉ dAdr g.D := fun hm => by
  cases e : g.D with
  | none => rw [e] at hm; cases hm
  | some d =>
    obtain ⟨cs, gs, n, h1, h2, h3, _⟩ := (R.orc d e).ex
    rw [e] at hm
    obtain ⟨x, y, z⟩ := d
    simp only [dAdr, List.mem_cons, List.not_mem_nil, or_false] at hm
    rcases hm with rfl | rfl | rfl
    · rw [h] at h1; cases h1
    · rw [h] at h2; cases h2
    · rw [h] at h3; cases h3
theorem Rl.free0 (R : Rl f g b sl σ H) {p : Addr} (h : H p = none) : f.H0 p = none := by
  cases e : f.H0 p with
  | none => rfl
  | some o =>
    by_cases hi : p ∈ f.IO
    · obtain ⟨o', q⟩ := R.ioS p hi
      rw [h] at q; cases q
    · exact ((R.kee p o e hi (R.freeD h)).ne h).elim
theorem Rl.freeS (R : Rl f g b sl σ H) {p : Addr} (h : H p = none) : ∀ (i : Nat) w, sl[i]? = some (some (w, true)) → σ[i]? ≠ some (some (.ref p)) := fun i w q z => by
  obtain ⟨a, h1, h2, _⟩ := R.own i w q
  rw [z] at h1
  cases h1
  obtain ⟨o, e⟩ := h2.some
  rw [h] at e; cases e
theorem same_upd {p : Addr} {o : HO} (h : H p = none) : Same H (upd H p o) := fun c u e => by
  rw [upd_ne (ne_of_none e h)]
  exact e
/-- a new list, owned -/
theorem Rl.newL (R : Rl f g b sl σ H) {p : Addr} {vs : List V} {ws : List W} (h : H p = none) (r : RVs f.K f.G g ws vs) :
    Rl f g b sl σ (upd H p (.lst vs)) ∧ Vl f g (upd H p (.lst vs)) sl σ (.lst ws, true) (.ref p) :=
  ⟨R.mono (same_upd h), p, rfl, ⟨vs, upd_same, r⟩, R.freeF h, R.freeD h, R.free0 h, R.freeS h⟩
theorem Rl.newD (R : Rl f g b sl σ H) {p : Addr} {vs : List (Key × V)} {ws : List (Ky × W)} (h : H p = none) (r : RVk f.K f.G g ws vs) :
    Rl f g b sl σ (upd H p (.dK vs)) ∧ Vl f g (upd H p (.dK vs)) sl σ (.dct ws, true) (.ref p) :=
  ⟨R.mono (same_upd h), p, rfl, ⟨vs, upd_same, r⟩, R.freeF h, R.freeD h, R.free0 h, R.freeS h⟩
/-- a new tuple, known -/
theorem Rl.newT (R : Rl f g b sl σ H) {p : Addr} {vs : List V} {ws : List W} (h : H p = none) (r : RVs f.K f.G g ws vs) :
    ∃ g', g.le g' ∧ Rl f g' b sl σ (upd H p (.tup vs)) ∧ RV f.K f.G g' (.tup ws) (.ref p) := by
  have hF := R.freeF h
  refine ⟨g.add p (.tup vs), Gh.le_add hF, (R.mono (same_upd h)).add hF upd_same (R.freeD h) (.inl (R.free0 h)) (R.freeS h) (fun _ z => nomatch z), ?_⟩
  exact .tup (.inl (.inl upd_same)) (r.le (Gh.le_add hF))

/-! ### data -/
mutual
theorem RV.dp : ∀ {w : W} {v : V} {d : PyData}, RV f.K f.G g w v → toD w = some d → Dp f.K g.F v d
  | _, _, _, .non, e => by cases e; exact .non
  | _, _, _, .bl b, e => by cases e; exact .bl b
  | _, _, _, .int i, e => by cases e; exact .int i
  | _, _, _, .str x, e => by cases e; exact .str x
  | _, _, _, .rpr _, e => by cases e
  | _, _, _, .tup (ws := ws) q r, e => by
    simp only [toD] at e
    cases hd : toDs ws with
    | none => rw [hd] at e; cases e
    | some ds =>
      rw [hd] at e
      cases e
      exact .tup q (RVs.dp r hd)
  | _, _, _, .lst (ws := ws) q r, e => by
    simp only [toD] at e
    cases hd : toDs ws with
    | none => rw [hd] at e; cases e
    | some ds =>
      rw [hd] at e
      cases e
      exact .lst (.inl (.inl q)) (RVs.dp r hd)
  | _, _, _, .dct _ _, e => by cases e
  | _, _, _, .fn _, e => by cases e
  | _, _, _, .orc _, e => by cases e
  | _, _, _, .scr _ _, e => by cases e
  | _, _, _, .clo _ _ _ _ _ _ _ _ _, e => by cases e
  | _, _, _, .clr _ _ _ _ _ _ _ _, e => by cases e
  | _, _, _, .err _ _ _ _ _ _ _, e => by cases e
theorem RVs.dp : ∀ {ws : List W} {vs : List V} {ds : List PyData}, RVs f.K f.G g ws vs → toDs ws = some ds → DpAll f.K g.F vs ds
  | _, _, _, .nil, e => by cases e; exact .nil
  | _, _, _, .cons (w := w) (ws := ws) a r, e => by
    simp only [toDs] at e
    cases h1 : toD w with
    | none => rw [h1] at e; cases e
    | some d =>
      cases h2 : toDs ws with
      | none => rw [h1, h2] at e; cases e
      | some ds =>
        rw [h1, h2] at e
        cases e
        exact .cons (RV.dp a h1) (RVs.dp r h2)
end
mutual
theorem dpLe {K : PySem.W.Frag} (e : Same H H') : ∀ {v : V} {d : PyData}, Dp K H v d → Dp K H' v d
  | _, _, .non => .non
  | _, _, .bl b => .bl b
  | _, _, .int i => .int i
  | _, _, .str x => .str x
  | _, _, .lst q r => .lst (SqL.le e q) (dpAllLe e r)
  | _, _, .tup q r => .tup (SqT.le e q) (dpAllLe e r)
theorem dpAllLe {K : PySem.W.Frag} (e : Same H H') : ∀ {v : List V} {d : List PyData}, DpAll K H v d → DpAll K H' v d
  | _, _, .nil => .nil
  | _, _, .cons a r => .cons (dpLe e a) (dpAllLe e r)
end
theorem PV.dp (e : Same g.F H) {w : W} {d : PyData} (h : PV f g H w v) (hd : toD w = some d) : Dp f.K H v d := by
  rcases h with h | ⟨a, rfl, h⟩
  · exact dpLe e (h.dp hd)
  · cases w <;> first
      | exact h.elim
      | (obtain ⟨vs, h1, h2⟩ := h
         first
           | (cases hd)
           | (rename_i ws
              simp only [toD] at hd
              cases hq : toDs ws with
              | none => rw [hq] at hd; cases hd
              | some ds =>
                rw [hq] at hd
                cases hd
                exact .lst (.inl (.inl h1)) (dpAllLe e (RVs.dp h2 hq))))
end

/-! ### operations -/
/-- a two-place operation is wanted to end in Q -/
def OpW (X : Cx) (fn : Value → Value → Sem Value) (x y : V) (H : Hp) (Q : VK) : Prop :=
  ∀ (pins : List (Addr × Obj)) (s : Shared) (σ : St) (v u : Value), Inv X pins σ H s → RelV x v → RelV y u → wpAny (model X.prog X.w) X.A (fn v u) (EP X pins σ Q) X.xe s
theorem OpW.of {X : Cx} {fn : Value → Value → Sem Value} {r : R2} {x y : V} {H : Hp} {Q : VK} (h : OpR X fn r) (q : r x y H Q) : OpW X fn x y H Q :=
  fun pins s σ v u I rx ry => h pins s σ H x y v u Q I rx ry q
def opF : Op2 → Value → Value → Sem Value
  | .add => binaryOp .Add
  | .sub => binaryOp .Sub
  | .mul => binaryOp .Mult
  | .fdiv => binaryOp .FloorDiv
  | .mod => binaryOp .Mod
  | .pow => binaryOp .Pow
  | .bor => binaryOp .BitOr
  | .band => binaryOp .BitAnd
  | .eq => compareOp .Eq
  | .ne => compareOp .NotEq
  | .lt => compareOp .Lt
  | .le => compareOp .LtE
  | .gt => compareOp .Gt
  | .ge => compareOp .GtE
  | .is => compareOp .Is
  | .isnot => compareOp .IsNot
  | .isin => compareOp .In
  | .notin => compareOp .NotIn

/-- what is wanted of a result -/
def Want (f : Fm) (g : Gh) (sl : Sl) (σ : St) (Q : VK) (r : R) (b' : Nat) : Prop := ∀ g' v H', g.le g' → Rl f g' b' sl σ H' → Vl f g' H' sl σ r v → Q v H'
theorem small_ok {i : Int} (h : small64 i = true) : -(2 ^ 64) < i ∧ i < 2 ^ 64 := by
  unfold small64 at h
  rw [Bool.and_eq_true] at h
  exact ⟨of_decide_eq_true h.1, of_decide_eq_true h.2⟩
section
variable {X : Cx} {f : Fm} {g : Gh} {b : Nat} {sl : Sl} {σ : St} {H : Hp} {Q : VK} {x y : W} {vx vy : V}
theorem two_wb {F : Int → Int → T R} {P : R → Nat → Prop} (h : (two x y F).wb XE b P) : ∃ i j, x = .int i ∧ y = .int j ∧ (F i j).wb XE b P := by
  unfold two at h
  cases x <;> first
    | exact h.elim
    | (cases y <;> first
        | exact h.elim
        | exact ⟨_, _, rfl, rfl, h⟩)
/-- a result that is no object -/
theorem wantI (R : Rl f g b sl σ H) {i : Int} (h : (fz (.int i)).wb XE b (Want f g sl σ Q)) : Q (.int i) H := h g _ H (Gh.le.refl g) R (.int i)
theorem wantB (R : Rl f g b sl σ H) {c : Bool} (h : (fz (.bl c)).wb XE b (Want f g sl σ Q)) : Q (.bl c) H := h g _ H (Gh.le.refl g) R (.bl c)
theorem add_ok (hK : X.K = f.K) (R : Rl f g b sl σ H) (px : PV f g H x vx) (py : PV f g H y vy) (h : (addW x y).wb XE b (Want f g sl σ Q)) : OpW X (binaryOp .Add) vx vy H Q := by
  unfold addW at h
  cases x with
  | int i =>
    cases y <;> first
      | exact h.elim
      | skip
    rename_i j
    rw [px.int, py.int]
    exact .of op_add ⟨i, j, rfl, rfl, wantI R h⟩
  | str x =>
    cases y <;> first
      | exact h.elim
      | skip
    rename_i z
    rw [px.str, py.str]
    obtain ⟨c, h⟩ := T.wb_guard h
    exact .of op_add_str ⟨x, z, rfl, rfl, Nat.le_of_ble_eq_true c, h g _ H (Gh.le.refl g) R (.str _)⟩
  | tup xs =>
    cases y <;> first
      | exact h.elim
      | skip
    rename_i ys
    obtain ⟨c, h⟩ := T.wb_guard h
    obtain ⟨a, vs, rfl, q1, r1⟩ := px.tup R.sub
    obtain ⟨a', vs', rfl, q2, r2⟩ := py.tup R.sub
    have hl : vs.length + vs'.length ≤ sizeLine := by rw [← r1.len, ← r2.len]; exact Nat.le_of_ble_eq_true c
    refine .of (op_catA) ⟨a, a', vs, vs', rfl, rfl, by rw [hK]; exact q1, by rw [hK]; exact q2, hl, fun e => ?_, fun e1 e2 => ?_, fun e1 e2 p hp => ?_⟩
    · subst e
      cases r1
      rcases py with py | ⟨_, _, py⟩
      · exact h g _ H (Gh.le.refl g) R py
      · exact py.elim
    · subst e2
      cases r2
      rw [List.append_nil] at h
      rcases px with px | ⟨_, _, px⟩
      · exact h g _ H (Gh.le.refl g) R px
      · exact px.elim
    · obtain ⟨g', l, R', rv⟩ := R.newT hp (r1.append r2)
      exact h g' _ _ l R' rv
  | lst xs =>
    cases y <;> first
      | exact h.elim
      | skip
    rename_i ys
    obtain ⟨c, h⟩ := T.wb_guard h
    obtain ⟨a, vs, rfl, q1, r1⟩ := px.lst R.sub
    obtain ⟨a', vs', rfl, q2, r2⟩ := py.lst R.sub
    refine .of op_cat ⟨a, a', vs, vs', rfl, rfl, q1, q2, by rw [← r1.len, ← r2.len]; exact Nat.le_of_ble_eq_true c, fun p hp => ?_⟩
    obtain ⟨R', w⟩ := R.newL hp (r1.append r2)
    exact h g _ _ (Gh.le.refl g) R' w
  | _ => exact h.elim
theorem mul_ok (hK : X.K = f.K) (R : Rl f g b sl σ H) (px : PV f g H x vx) (py : PV f g H y vy) (h : (mulW x y).wb XE b (Want f g sl σ Q)) : OpW X (binaryOp .Mult) vx vy H Q := by
  unfold mulW at h
  cases x with
  | int i =>
    cases y <;> first
      | exact h.elim
      | skip
    rename_i j
    rw [px.int, py.int]
    obtain ⟨c, h⟩ := T.wb_guard h
    refine .of op_mul ⟨i, j, rfl, rfl, ?_, wantI R h⟩
    rw [Bool.or_eq_true] at c
    rcases c with c | c
    · exact .inl (small_ok c)
    · exact .inr (small_ok c)
  | lst xs =>
    cases y <;> first
      | exact h.elim
      | skip
    rename_i k
    rw [py.int]
    obtain ⟨c, h⟩ := T.wb_guard h
    simp only [Bool.and_eq_true, decide_eq_true_eq] at c
    obtain ⟨a, vs, rfl, q1, r1⟩ := px.lst R.sub
    refine .of op_rep ⟨a, k, vs, rfl, rfl, q1, c.1.1, c.1.2, by rw [← r1.len]; exact Nat.le_of_ble_eq_true c.2, fun p hp => ?_⟩
    obtain ⟨R', w⟩ := R.newL hp (r1.flat k.toNat)
    exact h g _ _ (Gh.le.refl g) R' w
  | tup xs =>
    cases y <;> first
      | exact h.elim
      | skip
    rename_i k
    rw [py.int]
    cases k1 : decide (k = 1) with
    | true =>
      have e1 := of_decide_eq_true k1
      subst e1
      have h : Want f g sl σ Q (.tup xs, false) b := by
        have h : (cond (decide ((1 : Int) = 1)) (T.ok ((W.tup xs, false) : W × Bool)) (T.guard _ _)).wb XE b _ := h
        exact h
      obtain ⟨a, vs, rfl, q1, r1⟩ := px.tup R.sub
      refine .of op_rep1 ⟨a, vs, rfl, rfl, by rw [hK]; exact q1, ?_⟩
      rcases px with rv | ⟨_, _, o⟩
      · exact h g _ H (Gh.le.refl g) R rv
      · exact o.elim
    | false =>
    have h : (T.guard (!xs.isEmpty && decide (2 ≤ k) && decide (k ≤ 1000) && Nat.ble xs.length 1000) (fz (.tup (List.replicate k.toNat xs).flatten))).wb XE b (Want f g sl σ Q) := by
      have h : (cond (decide (k = 1)) (T.ok ((W.tup xs, false) : W × Bool)) (T.guard (!xs.isEmpty && decide (2 ≤ k) && decide (k ≤ 1000) && Nat.ble xs.length 1000) (fz (.tup (List.replicate k.toNat xs).flatten)))).wb XE b (Want f g sl σ Q) := h
      rw [k1] at h
      exact h
    obtain ⟨c, h⟩ := T.wb_guard h
    simp only [Bool.and_eq_true, decide_eq_true_eq] at c
    obtain ⟨a, vs, rfl, q1, r1⟩ := px.tup R.sub
    have hl := r1.len
    refine .of op_repT ⟨a, k, vs, rfl, rfl, by rw [hK]; exact q1, ?_, c.1.1.2, c.1.2, by rw [← hl]; exact Nat.le_of_ble_eq_true c.2, fun p hp => ?_⟩
    · intro e
      subst e
      cases r1
      exact absurd c.1.1.1 (by decide)
    · obtain ⟨g', l, R', rv⟩ := R.newT hp (r1.flat k.toNat)
      exact h g' _ _ l R' rv
  | _ => exact h.elim
theorem eqG_ok (hu : X.A.units + 64 < cLine) (hK : X.K = f.K) (R : Rl f g b sl σ H) (px : PV f g H x vx) (py : PV f g H y vy) {P : Bool → Nat → Prop} (h : (eqG x y).wb XE b P) :
    ∃ c, P c b ∧ ∀ Q : VK, (Q (.bl c) H → OpW X (compareOp .Eq) vx vy H Q) ∧ (Q (.bl (!c)) H → OpW X (compareOp .NotEq) vx vy H Q) := by
  unfold eqG at h
  cases h1 : toD x with
  | none => rw [h1] at h; exact h.elim
  | some d =>
    cases h2 : toD y with
    | none => rw [h1, h2] at h; exact h.elim
    | some e =>
      rw [h1, h2] at h
      obtain ⟨c, h⟩ := T.wb_guard h
      rw [Bool.and_eq_true] at c
      have dx := px.dp R.sub h1
      have dy := py.dp R.sub h2
      rw [← hK] at dx dy
      exact ⟨_, h, fun Q => ⟨fun q => .of (op_eqD hu) ⟨d, e, dx, dy, c.1, c.2, q⟩, fun q => .of (op_neD hu) ⟨d, e, dx, dy, c.1, c.2, q⟩⟩⟩
theorem eqW_ok (hu : X.A.units + 64 < cLine) (hK : X.K = f.K) (R : Rl f g b sl σ H) (px : PV f g H x vx) (py : PV f g H y vy) {P : Bool → Nat → Prop} (h : (eqW x y).wb XE b P) :
    ∃ c, P c b ∧ ∀ Q : VK, (Q (.bl c) H → OpW X (compareOp .Eq) vx vy H Q) ∧ (Q (.bl (!c)) H → OpW X (compareOp .NotEq) vx vy H Q) := by
  have st : ∀ (s t : Str), ∀ Q : VK, (Q (.bl (decide (s = t))) H → OpW X (compareOp .Eq) (.str s) (.str t) H Q) ∧ (Q (.bl (!decide (s = t))) H → OpW X (compareOp .NotEq) (.str s) (.str t) H Q) := fun s t Q => by
    have e : decide (V.str s = V.str t) = decide (s = t) := by rw [Bool.eq_iff_iff]; simp
    exact ⟨fun q => .of op_eq ⟨rfl, by rw [e]; exact q⟩, fun q => .of op_ne ⟨rfl, by rw [e]; exact q⟩⟩
  unfold eqW at h
  cases x with
  | int i =>
    cases y <;> first
      | exact eqG_ok hu hK R px py h
      | skip
    rename_i j
    have h : P (eqI i j) b := h
    rw [eqI_dec] at h
    rw [px.int, py.int]
    have e : decide (V.int i = V.int j) = decide (i = j) := by rw [Bool.eq_iff_iff]; simp
    exact ⟨_, h, fun Q => ⟨fun q => .of op_eq ⟨rfl, by rw [e]; exact q⟩, fun q => .of op_ne ⟨rfl, by rw [e]; exact q⟩⟩⟩
  | str s =>
    cases y <;> first
      | exact eqG_ok hu hK R px py h
      | skip
    rename_i t
    have h : P (eqS s t) b := h
    rw [eqS_dec] at h
    rw [px.str, py.str]
    exact ⟨_, h, st s t⟩
  | rpr d =>
    cases y <;> first
      | exact h.elim
      | skip
    rename_i e
    have h : P (sameD d e || eqS d.shown e.shown) b := h
    rw [px.rpr, py.rpr]
    have he : (sameD d e || eqS d.shown e.shown) = decide (d.shown = e.shown) := by
      rw [eqS_dec]
      cases hs : sameD d e with
      | false => rfl
      | true =>
        have : d = e := sameD_eq hs
        subst this
        simp
    rw [he] at h
    exact ⟨_, h, st _ _⟩
  | _ => exact eqG_ok hu hK R px py h

/-! ### is, in -/
theorem isW_ok (px : PV f g H x vx) (py : PV f g H y vy) {P : Bool → Nat → Prop} (h : (isW x y).wb XE b P) :
    ∃ c, P c b ∧ ∀ Q : VK, (Q (.bl c) H → OpW X (compareOp .Is) vx vy H Q) ∧ (Q (.bl (!c)) H → OpW X (compareOp .IsNot) vx vy H Q) := by
  unfold isW at h
  cases y with
  | non =>
    rw [py.non]
    refine ⟨_, h, fun Q => ?_⟩
    have e : isNon x = decide (vx = V.non) := by
      rcases px with px | ⟨a, e, _⟩
      · cases px <;> rfl
      · subst e
        cases x <;> first
          | rfl
          | (rename_i z; exact z.elim)
    rw [e]
    exact ⟨fun q => .of op_isN ⟨rfl, q⟩, fun q => .of op_notN ⟨rfl, q⟩⟩
  | bl c =>
    cases x <;> first
      | exact h.elim
      | skip
    rename_i d
    rw [px.bl, py.bl]
    exact ⟨_, h, fun Q => ⟨fun q => .of op_isBl ⟨d, c, rfl, rfl, q⟩, fun q => .of op_notBl ⟨d, c, rfl, rfl, q⟩⟩⟩
  | _ => exact h.elim
/-- a flat value's own value -/
def flatOf : W → V
  | .non => .non
  | .bl b => .bl b
  | .int i => .int i
  | .str x => .str x
  | _ => .non
theorem flat_rv {w : W} {v : V} (hf : flatW w = true) (r : RV f.K f.G g w v) : v = flatOf w ∧ flatV v = true := by
  cases r <;> first
    | exact ⟨rfl, rfl⟩
    | cases hf
theorem flat_pv {w : W} {v : V} (hf : flatW w = true) (r : PV f g H w v) : v = flatOf w ∧ flatV v = true := by
  rcases r with r | ⟨_, _, r⟩
  · exact flat_rv hf r
  · cases w <;> first
      | exact r.elim
      | cases hf
theorem eqF_V {a c : W} (ha : flatW a = true) (hc : flatW c = true) : eqF a c = eqV (flatOf a) (flatOf c) := by
  cases a <;> cases c <;> first
    | rfl
    | (show eqI _ _ = (_ == _); rw [eqI_dec]; rfl)
    | (show eqS _ _ = (_ == _); rw [eqS_dec]; rfl)
    | (cases hc; done)
    | (cases ha; done)
theorem flat_rvs : ∀ {ws : List W} {vs : List V}, ws.all flatW = true → RVs f.K f.G g ws vs → vs = ws.map flatOf ∧ vs.all flatV = true
  | [], _, _, .nil => ⟨rfl, rfl⟩
  | w :: ws, _, h, .cons a r => by
    rw [List.all_cons, Bool.and_eq_true] at h
    obtain ⟨e1, e2⟩ := flat_rv h.1 a
    obtain ⟨e3, e4⟩ := flat_rvs h.2 r
    refine ⟨by rw [List.map_cons, ← e1, ← e3], ?_⟩
    rw [List.all_cons, e2, e4]
    rfl
theorem hasW_V {w : W} (hw : flatW w = true) : ∀ {ws : List W}, ws.all flatW = true → hasW w ws = inV (flatOf w) (ws.map flatOf)
  | [], _ => rfl
  | u :: ws, h => by
    rw [List.all_cons, Bool.and_eq_true] at h
    have ih := hasW_V hw h.2
    unfold hasW inV at ih ⊢
    rw [List.any_cons, List.map_cons, List.any_cons, eqF_V h.1 hw, ih]
theorem keyOf_V {w : W} {k : Ky} (h : keyOf w = some k) {v : V} (r : PV f g H w v) : v = kV k := by
  cases w with
  | int i => cases h; exact r.int
  | str x => cases h; exact r.str
  | _ => cases h
theorem lookK_some : ∀ {ws : List (Ky × W)} {vs : List (Key × V)} {k : Ky} {w : W}, RVk f.K f.G g ws vs → lookK ws k = some w → ∃ v, valV vs k = some v ∧ RV f.K f.G g w v
  | _, _, _, _, .nil, h => by cases h
  | _, _, k, w, .cons (k := k') (ws := ws) (vs := vs) a r, h => by
    unfold lookK at h
    rw [eqK_dec] at h
    by_cases e : k' = k
    · rw [decide_eq_true e] at h
      cases h
      exact ⟨_, valV_pos (p := (k', _)) e, a⟩
    · rw [decide_eq_false e] at h
      obtain ⟨v, h1, h2⟩ := lookK_some r h
      exact ⟨v, by rw [valV_neg (p := (k', _)) e]; exact h1, h2⟩
theorem lookK_none : ∀ {ws : List (Ky × W)} {vs : List (Key × V)} {k : Ky}, RVk f.K f.G g ws vs → lookK ws k = none → valV vs k = none
  | _, _, _, .nil, _ => rfl
  | _, _, k, .cons (k := k') (ws := ws) (vs := vs) a r, h => by
    unfold lookK at h
    rw [eqK_dec] at h
    by_cases e : k' = k
    · rw [decide_eq_true e] at h
      cases h
    · rw [decide_eq_false e] at h
      rw [valV_neg (p := (k', _)) e]
      exact lookK_none r h
theorem lookK_is {ws : List (Ky × W)} {vs : List (Key × V)} {k : Ky} (r : RVk f.K f.G g ws vs) : (lookK ws k).isSome = (valV vs k).isSome := by
  cases h : lookK ws k with
  | none => rw [lookK_none r h]; rfl
  | some w =>
    obtain ⟨v, h1, _⟩ := lookK_some r h
    rw [h1]; rfl
theorem RVk.app1 {k : Ky} {w : W} {v : V} (a : RV f.K f.G g w v) : ∀ {ws : List (Ky × W)} {vs : List (Key × V)}, RVk f.K f.G g ws vs → RVk f.K f.G g (ws ++ [(k, w)]) (vs ++ [(k, v)])
  | _, _, .nil => .cons a .nil
  | _, _, .cons c r => .cons c (RVk.app1 a r)
theorem hasK_V : ∀ {ws : List (Ky × W)} {vs : List (Key × V)} {k : Ky}, RVk f.K f.G g ws vs → hasK ws k = vs.any fun kv => decide (kv.1 = k)
  | _, _, _, .nil => rfl
  | _, _, k, .cons (k := k') a r => by
    unfold hasK
    rw [List.any_cons, eqK_dec, hasK_V r]
    by_cases e : k' = k
    · rw [decide_eq_true e]; simp [e]
    · rw [decide_eq_false e]; simp [e]
theorem mapK_V {k : Ky} {w : W} {v : V} (a : RV f.K f.G g w v) : ∀ {ws : List (Ky × W)} {vs : List (Key × V)}, RVk f.K f.G g ws vs → RVk f.K f.G g (mapK ws k w) (vs.map fun kv => if kv.1 = k then (kv.1, v) else kv)
  | _, _, .nil => .nil
  | _, _, .cons (k := k') (w := w') (v := v') c r => by
    unfold mapK
    rw [List.map_cons, eqK_dec]
    by_cases e : k' = k
    · rw [decide_eq_true e, if_pos e]
      exact .cons a (mapK_V a r)
    · rw [decide_eq_false e, if_neg e]
      exact .cons c (mapK_V a r)
theorem putK_V {k : Ky} {w : W} {v : V} (a : RV f.K f.G g w v) {ws : List (Ky × W)} {vs : List (Key × V)} (r : RVk f.K f.G g ws vs) : RVk f.K f.G g (Ev.putK ws k w) (L2.putK vs k v) := by
  unfold Ev.putK L2.putK
  rw [hasK_V r]
  cases e : vs.any fun kv => decide (kv.1 = k) with
  | true =>
    rw [if_pos rfl]
    exact mapK_V a r
  | false =>
    rw [if_neg (by decide)]
    exact RVk.app1 a r
theorem inW_ok (hu : X.A.units + 64 < cLine) (hK : X.K = f.K) (R : Rl f g b sl σ H) (px : PV f g H x vx) (py : PV f g H y vy) {P : Bool → Nat → Prop} (h : (inW x y).wb XE b P) :
    ∃ c, P c b ∧ ∀ Q : VK, (Q (.bl c) H → OpW X (compareOp .In) vx vy H Q) ∧ (Q (.bl (!c)) H → OpW X (compareOp .NotIn) vx vy H Q) := by
  cases y with
  | tup xs =>
    obtain ⟨c, h⟩ := T.wb_guard (show (T.guard (flatW x && xs.all flatW) (.ok (hasW x xs))).wb XE b P from h)
    rw [Bool.and_eq_true] at c
    obtain ⟨a, vs, rfl, q, r⟩ := py.tup R.sub
    obtain ⟨e1, e2⟩ := flat_pv c.1 px
    obtain ⟨e3, e4⟩ := flat_rvs c.2 r
    refine ⟨_, h, fun Q => ?_⟩
    rw [hasW_V c.1 c.2, ← e1, ← e3]
    rw [← hK] at q
    exact ⟨fun z => .of op_in_seq ⟨a, vs, rfl, .inr q, e2, e4, z⟩, fun z => .of op_notIn_seq ⟨a, vs, rfl, .inr q, e2, e4, z⟩⟩
  | lst xs =>
    obtain ⟨c, h⟩ := T.wb_guard (show (T.guard (flatW x && xs.all flatW) (.ok (hasW x xs))).wb XE b P from h)
    rw [Bool.and_eq_true] at c
    obtain ⟨a, vs, rfl, q, r⟩ := py.lst R.sub
    obtain ⟨e1, e2⟩ := flat_pv c.1 px
    obtain ⟨e3, e4⟩ := flat_rvs c.2 r
    refine ⟨_, h, fun Q => ?_⟩
    rw [hasW_V c.1 c.2, ← e1, ← e3]
    exact ⟨fun z => .of op_in_seq ⟨a, vs, rfl, .inl (.inl (.inl q)), e2, e4, z⟩, fun z => .of op_notIn_seq ⟨a, vs, rfl, .inl (.inl (.inl q)), e2, e4, z⟩⟩
  | dct kvs =>
    have h : (match keyOf x with | some k => T.ok (lookK kvs k).isSome | none => T.stk).wb XE b P := h
    cases hk : keyOf x with
    | none => rw [hk] at h; exact h.elim
    | some k =>
      rw [hk] at h
      obtain ⟨a, vs, rfl, q, r⟩ := py.dct R.sub
      have e1 := keyOf_V hk px
      have g0 : DGet H a vx (valV vs k) := .inl ⟨vs, k, .inl q, e1, rfl⟩
      refine ⟨_, h, fun Q => ?_⟩
      rw [lookK_is r]
      refine ⟨fun z => fun pins s σ' v u I rx ry => ?_, fun z => fun pins s σ' v u I rx ry => ?_⟩
      · obtain rfl : u = Value.ref a := ry
        exact d_in (by omega) I g0 rx fun s3 I3 => ⟨.bl _, H, I3, rfl, z⟩
      · obtain rfl : u = Value.ref a := ry
        exact d_notIn (by omega) I g0 rx fun s3 I3 => ⟨.bl _, H, I3, rfl, z⟩
  | _ => exact h.elim
theorem yes_wb {t : T Bool} {P : R → Nat → Prop} (h : (yes t).wb XE b P) : t.wb XE b fun c b' => P (.bl c, false) b' := T.wb_bind.mp h
theorem nay_wb {t : T Bool} {P : R → Nat → Prop} (h : (nay t).wb XE b P) : t.wb XE b fun c b' => P (.bl (!c), false) b' := T.wb_bind.mp h
theorem op2_ok (o : Op2) (hu : X.A.units + 64 < cLine) (hK : X.K = f.K) (R : Rl f g b sl σ H) (px : PV f g H x vx) (py : PV f g H y vy) (h : (op2 o x y).wb XE b (Want f g sl σ Q)) : OpW X (opF o) vx vy H Q := by
  have wB : ∀ {c : Bool}, Want f g sl σ Q (.bl c, false) b → Q (.bl c) H := fun {c} z => wantB (XE := XE) R (c := c) z
  cases o with
  | add => exact add_ok hK R px py h
  | sub =>
    obtain ⟨i, j, rfl, rfl, h⟩ := two_wb h
    rw [px.int, py.int]
    exact .of op_sub ⟨i, j, rfl, rfl, wantI R h⟩
  | mul => exact mul_ok hK R px py h
  | fdiv =>
    obtain ⟨i, j, rfl, rfl, h⟩ := two_wb h
    rw [px.int, py.int]
    obtain ⟨c, h⟩ := T.wb_guard h
    rw [Bool.and_eq_true, decide_eq_true_eq, decide_eq_true_eq] at c
    exact .of op_fdiv ⟨i, j, rfl, rfl, c, wantI R h⟩
  | mod =>
    obtain ⟨i, j, rfl, rfl, h⟩ := two_wb h
    rw [px.int, py.int]
    obtain ⟨c, h⟩ := T.wb_guard h
    rw [decide_eq_true_eq] at c
    exact .of op_mod ⟨i, j, rfl, rfl, c, wantI R h⟩
  | pow =>
    obtain ⟨i, j, rfl, rfl, h⟩ := two_wb h
    rw [px.int, py.int]
    obtain ⟨c, h⟩ := T.wb_guard h
    simp only [Bool.and_eq_true, decide_eq_true_eq] at c
    exact .of op_pow ⟨i, j, rfl, rfl, ⟨c.1.1, c.1.2, c.2⟩, wantI R h⟩
  | bor =>
    obtain ⟨i, j, rfl, rfl, h⟩ := two_wb h
    rw [px.int, py.int]
    exact .of op_or ⟨i, j, rfl, rfl, wantI R h⟩
  | band =>
    obtain ⟨i, j, rfl, rfl, h⟩ := two_wb h
    rw [px.int, py.int]
    exact .of op_and ⟨i, j, rfl, rfl, wantI R h⟩
  | eq =>
    obtain ⟨c, z, q⟩ := eqW_ok hu hK R px py (yes_wb h)
    exact (q Q).1 (wB z)
  | ne =>
    obtain ⟨c, z, q⟩ := eqW_ok hu hK R px py (nay_wb h)
    exact (q Q).2 (wB z)
  | lt =>
    obtain ⟨i, j, rfl, rfl, h⟩ := two_wb h
    rw [px.int, py.int]
    exact .of op_lt ⟨i, j, rfl, rfl, wantB R h⟩
  | le =>
    obtain ⟨i, j, rfl, rfl, h⟩ := two_wb h
    rw [px.int, py.int]
    exact .of op_le ⟨i, j, rfl, rfl, wantB R h⟩
  | gt =>
    obtain ⟨i, j, rfl, rfl, h⟩ := two_wb h
    rw [px.int, py.int]
    exact .of op_gt ⟨i, j, rfl, rfl, wantB R h⟩
  | ge =>
    obtain ⟨i, j, rfl, rfl, h⟩ := two_wb h
    rw [px.int, py.int]
    exact .of op_ge ⟨i, j, rfl, rfl, wantB R h⟩
  | is =>
    obtain ⟨c, z, q⟩ := isW_ok (X := X) px py (yes_wb h)
    exact (q Q).1 (wB z)
  | isnot =>
    obtain ⟨c, z, q⟩ := isW_ok (X := X) px py (nay_wb h)
    exact (q Q).2 (wB z)
  | isin =>
    obtain ⟨c, z, q⟩ := inW_ok hu hK R px py (yes_wb h)
    exact (q Q).1 (wB z)
  | notin =>
    obtain ⟨c, z, q⟩ := inW_ok hu hK R px py (nay_wb h)
    exact (q Q).2 (wB z)
end
end Ev
end
section
set_option Elab.async false
set_option linter.all false
set_option maxRecDepth 100000
set_option maxHeartbeats 2000000
/-! EvBi: subscripts, slices, built-in functions and methods by values. -/
namespace Ev
open PySem L2
open PyProof.Rows (tail_any subscriptTail)
set_option autoImplicit false
variable {XE : XP}

def CallW (X : Cx) (fv : Value) (vs : List V) (H : Hp) (Q : VK) : Prop :=
  ∀ (pins : List (Addr × Obj)) (s : Shared) (σ : St) (us : List Value), Inv X pins σ H s → Vals vs us → wpAny (model X.prog X.w) X.A (call fv us) (EP X pins σ Q) X.xe s
theorem CallW.of {X : Cx} {fv : Value} {r : List V → Hp → VK → Prop} {vs : List V} {H : Hp} {Q : VK} (h : CallR X fv r) (q : r vs H Q) : CallW X fv vs H Q :=
  fun pins s σ us I rv => h pins s σ H vs us Q I rv q
def MtWt (X : Cx) (id : String) (x : V) (vs : List V) (H : Hp) (Q : VK) : Prop :=
  ∀ (pins : List (Addr × Obj)) (s : Shared) (σ : St) (v : Value) (us : List Value), Inv X pins σ H s → RelV x v → Vals vs us → wpAny (model X.prog X.w) X.A (call (.builtin id) (v :: us)) (EP X pins σ Q) X.xe s
def IxW (X : Cx) (x y : V) (H : Hp) (Q : VK) : Prop :=
  ∀ (value slice : Expr) (pins : List (Addr × Obj)) (s : Shared) (σ : St) (v u : Value), Inv X pins σ H s → RelV x v → RelV y u →
    subscripted slice false v u = operate [v, u] (getItem v u) → wpAny (model X.prog X.w) X.A (subscriptTail value slice v u) (EP X pins σ Q) X.xe s
theorem IxW.of {X : Cx} {r : R2} {x y : V} {H : Hp} {Q : VK} (h : IxR X r) (q : r x y H Q) : IxW X x y H Q :=
  fun value slice pins s σ v u I rx ry hs => h value slice pins s σ H x y v u Q I rx ry q hs

theorem ixOf_N (n : Nat) (i : Int) : ixOf n i = ixN n i := rfl
theorem cut_ix (n d : Nat) (o : Option Int) : cutIx n d o = HT.sIx n d o := by cases o <;> rfl

section
variable {X : Cx} {f : Fm} {g : Gh} {b : Nat} {sl : Sl} {σ : St} {H : Hp} {Q : VK} {x y : W} {vx vy : V}
/-- an item -/
theorem seqAt_ok {xs : List W} {vs : List V} {i : Int} {P : W → Nat → Prop} (r : RVs f.K f.G g xs vs) (h : (seqAt xs i).wb XE b P) : ∃ w v, P w b ∧ atI vs i = some v ∧ RV f.K f.G g w v := by
  unfold seqAt at h
  cases e : ixOf xs.length i with
  | none => rw [e] at h; exact h.elim
  | some j =>
    rw [e] at h
    obtain ⟨w, h1, h2⟩ := T.wb_opt h
    rw [nth_eq] at h1
    obtain ⟨v, h3, h4⟩ := r.get h1
    refine ⟨w, v, h2, ?_, h4⟩
    unfold atI
    rw [← r.len, ← ixOf_N, e]
    exact h3
theorem idx_ok (hu : X.A.units + 64 < cLine) (hK : X.K = f.K) (R : Rl f g b sl σ H) (px : PV f g H x vx) (py : PV f g H y vy) {P : W → Nat → Prop} (h : (idxW x y).wb XE b P)
    (hP : ∀ w v, P w b → RV f.K f.G g w v → Q v H) : IxW X vx vy H Q := by
  unfold idxW at h
  cases x with
  | tup xs =>
    cases y <;> first
      | exact h.elim
      | skip
    rename_i i
    rw [py.int]
    obtain ⟨a, vs, rfl, q, r⟩ := px.tup R.sub
    obtain ⟨w, v, h1, h2, h3⟩ := seqAt_ok r h
    rw [← hK] at q
    exact .of ix_tup ⟨a, vs, i, v, rfl, rfl, q, h2, hP w v h1 h3⟩
  | lst xs =>
    cases y <;> first
      | exact h.elim
      | skip
    rename_i i
    rw [py.int]
    obtain ⟨a, vs, rfl, q, r⟩ := px.lst R.sub
    obtain ⟨w, v, h1, h2, h3⟩ := seqAt_ok r h
    exact .of ix_list ⟨a, vs, i, v, rfl, rfl, .inl (.inl q), h2, hP w v h1 h3⟩
  | dct kvs =>
    have h : (match keyOf y with | some k => T.ofOpt (lookK kvs k) | none => T.stk).wb XE b P := h
    cases hk : keyOf y with
    | none => rw [hk] at h; exact h.elim
    | some k =>
      rw [hk] at h
      obtain ⟨a, vs, rfl, q, r⟩ := px.dct R.sub
      obtain ⟨w, h1, h2⟩ := T.wb_opt h
      obtain ⟨v, h3, h4⟩ := lookK_some r h1
      have g0 : DGet H a vy (some v) := .inl ⟨vs, k, .inl q, keyOf_V hk py, h3.symm⟩
      intro value slice pins s σ' vv u I rx ry hs
      obtain rfl : vv = Value.ref a := rx
      exact tail_any (dict_typeIs I g0) PySem.F.slot_dict_getitem.lookup (d_getItem (by omega) I g0 ry fun w' s3 I3 rw' => ⟨v, H, I3, rw', hP w v h2 h4⟩) hs
  | _ => exact h.elim
/-- slices -/
theorem cut_ok {xs : List W} {vs : List V} {lo hi : Option Int} (r : RVs f.K f.G g xs vs) : RVs f.K f.G g (cut xs lo hi) (cutV vs lo hi) := by
  unfold cut cutV
  rw [cut_ix, cut_ix, r.len]
  exact (r.drop _).take _
theorem sli_ok (hK : X.K = f.K) (R : Rl f g b sl σ H) (px : PV f g H x vx) {lo hi : Option Int} (h : (sliW x lo hi).wb XE b (Want f g sl σ Q)) :
    rSlA X.K vx lo hi H Q ∨ rSlL X.K vx lo hi H Q := by
  unfold sliW at h
  cases x with
  | tup xs =>
    obtain ⟨a, vs, rfl, q, r⟩ := px.tup R.sub
    have hw : Want f g sl σ Q (.tup (cut xs lo hi), false) b := h
    rw [← hK] at q
    refine .inl ⟨a, vs, rfl, q, fun e => ?_, fun e p hp => ?_⟩
    · have e' : cut xs lo hi = xs := by
        unfold cut
        rw [cut_ix, cut_ix, r.len, e.1, e.2, List.drop_zero, Nat.sub_zero, ← r.len, List.take_length]
      rw [e'] at hw
      rcases px with px | ⟨_, _, px⟩
      · exact hw g _ H (Gh.le.refl g) R px
      · exact px.elim
    · obtain ⟨g', l, R', rv⟩ := R.newT hp (cut_ok (lo := lo) (hi := hi) r)
      exact hw g' _ _ l R' rv
  | lst xs =>
    obtain ⟨a, vs, rfl, q, r⟩ := px.lst R.sub
    have hw : Want f g sl σ Q (.lst (cut xs lo hi), true) b := h
    refine .inr ⟨a, vs, rfl, .inl (.inl q), fun p hp => ?_⟩
    obtain ⟨R', w⟩ := R.newL hp (cut_ok (lo := lo) (hi := hi) r)
    exact hw g _ _ (Gh.le.refl g) R' w
  | _ => exact h.elim

/-! ### sorting -/
theorem insI_perm (x : Int) : ∀ l : List Int, (insI x l).Perm (x :: l)
  | [] => List.Perm.refl _
  | y :: r => by
    unfold insI
    split
    · exact List.Perm.refl _
    · exact ((insI_perm x r).cons y).trans (List.Perm.swap x y r)
theorem sortI_perm : ∀ l : List Int, (sortI l).Perm l
  | [] => List.Perm.refl _
  | x :: r => (insI_perm x (sortI r)).trans ((sortI_perm r).cons x)
theorem insI_sorted (x : Int) : ∀ l : List Int, l.Pairwise (· ≤ ·) → (insI x l).Pairwise (· ≤ ·)
  | [], _ => by simp [insI]
  | y :: r, h => by
    unfold insI
    split
    · rename_i hxy
      rw [List.pairwise_cons] at h ⊢
      refine ⟨fun z hz => ?_, ?_⟩
      · rcases List.mem_cons.mp hz with rfl | hz
        · exact hxy
        · have := h.1 z hz
          omega
      · rw [List.pairwise_cons]
        exact h
    · rename_i hxy
      rw [List.pairwise_cons] at h ⊢
      refine ⟨fun z hz => ?_, insI_sorted x r h.2⟩
      rcases List.mem_cons.mp ((insI_perm x r).mem_iff.mp hz) with rfl | hz
      · omega
      · exact h.1 z hz
theorem sortI_sorted : ∀ l : List Int, (sortI l).Pairwise (· ≤ ·)
  | [] => List.Pairwise.nil
  | x :: r => insI_sorted x _ (sortI_sorted r)
theorem sorted_one : ∀ {a c : List Int}, a.Perm c → a.Pairwise (· ≤ ·) → c.Pairwise (· ≤ ·) → a = c := fun h1 h2 h3 =>
  List.Perm.eq_of_pairwise (fun _ _ _ _ h h' => Int.le_antisymm h h') h2 h3 h1
theorem intsOf_some : ∀ {xs : List W} {is : List Int}, intsOf xs = some is → xs = is.map W.int
  | [], _, h => by cases h; rfl
  | x :: r, is, h => by
    cases x with
    | int i =>
      have h : (intsOf r).map (i :: ·) = some is := h
      cases e : intsOf r with
      | none => rw [e] at h; cases h
      | some js =>
        rw [e] at h
        cases h
        rw [intsOf_some e]
        rfl
    | _ => cases h
theorem allL_eq : ∀ bs : List Bool, bs.all id = allL bs
  | [] => rfl
  | true :: r => by rw [List.all_cons, allL_eq r]; rfl
  | false :: r => rfl
theorem anyL_eq : ∀ bs : List Bool, bs.any id = anyL bs
  | [] => rfl
  | true :: r => rfl
  | false :: r => by rw [List.any_cons, anyL_eq r]; rfl
theorem boolsOf_some : ∀ {xs : List W} {bs : List Bool}, boolsOf xs = some bs → xs = bs.map W.bl
  | [], _, h => by cases h; rfl
  | x :: r, bs, h => by
    cases x with
    | bl c =>
      have h : (boolsOf r).map (c :: ·) = some bs := h
      cases e : boolsOf r with
      | none => rw [e] at h; cases h
      | some zs =>
        rw [e] at h
        cases h
        rw [boolsOf_some e]
        rfl
    | _ => cases h
theorem rvs_ints : ∀ {is : List Int} {vs : List V}, RVs f.K f.G g (is.map W.int) vs → vs = is.map V.int
  | [], _, .nil => rfl
  | i :: is, _, .cons a r => by
    cases a
    rw [rvs_ints r]
    rfl
theorem rvs_bools : ∀ {is : List Bool} {vs : List V}, RVs f.K f.G g (is.map W.bl) vs → vs = is.map V.bl
  | [], _, .nil => rfl
  | i :: is, _, .cons a r => by
    cases a
    rw [rvs_bools r]
    rfl
theorem ints_rvs : ∀ (is : List Int), RVs f.K f.G g (is.map W.int) (is.map V.int)
  | [] => .nil
  | i :: is => .cons (.int i) (ints_rvs is)
theorem rvk_keys : ∀ {kvs : List (Ky × W)} {vs : List (Key × V)}, RVk f.K f.G g kvs vs → vs.map (·.1) = kvs.map (·.1)
  | _, _, .nil => rfl
  | _, _, .cons (k := k) a r => by
    rw [List.map_cons, List.map_cons, rvk_keys r]
theorem keysI_some : ∀ {kvs : List (Ky × W)} {is : List Int}, keysI kvs = some is → kvs.map (·.1) = is.map Sum.inl
  | [], _, h => by cases h; rfl
  | (k, w) :: r, is, h => by
    cases k with
    | inl i =>
      have h : (keysI r).map (i :: ·) = some is := h
      cases e : keysI r with
      | none => rw [e] at h; cases h
      | some js =>
        rw [e] at h
        cases h
        rw [List.map_cons, keysI_some e]
        rfl
    | inr _ => cases h
/-- sorted of what collects to ints -/
theorem sorted_by {v : Value} {ns : List Int} (hn : ns.length ≤ sizeLine) {pins : List (Addr × Obj)} {s : Shared} {σ' : St} (I : Inv X pins σ' H s)
    (hc : ∀ {A : Around} {R : List Value → Shared → Prop} {E : Value → Shared → Prop}, A.handled = none → (∀ h' tk vs, (∀ a o, s.heap.get? a = some o → h'.get? a = some o) → PyProof.Rows.IntsAre vs ns → R vs { s with heap := h', toks := tk }) → wpAny (model X.prog X.w) A (collect v) R E s)
    (hh : X.A.handled = none) (q : ∀ p, H p = none → Q (.ref p) (upd H p (.lst ((sortI ns).map V.int)))) : wpAny (model X.prog X.w) X.A (call (.builtin "sorted") [v]) (EP X pins σ' Q) X.xe s := by
  refine Calls.call_function_entry PyProof.Rows.kind_sorted PyProof.Rows.plain_sorted PyProof.Rows.entry_sorted (PyProof.Rows.args_sorted1 _) ?_
  unfold Builtin.«sorted»
  refine wpAny_bind (m := checkCount "sorted" 1 1 _) (wpAny_pure (wpAny_bind (hc (A := X.A.in1) hh fun h' tk vs hk hi => ?_)))
  have I1 : Inv X pins σ' H { s with heap := h', toks := tk } := I.kept hk
  have hl : vs.length ≤ sizeLine := by rw [hi.length]; exact hn
  refine wpAny_bind (wpAny_newList ?_ hl)
  have hob : (h'.push (PyProof.Rows.seqObj "list" vs.toArray 0)).get? h'.objs.size = some (PyProof.Rows.seqObj "list" vs.toArray 0) := Heap.get?_push_size _ rfl
  show wpAny _ _ _ _ _ { s with heap := h'.push (PyProof.Rows.seqObj "list" vs.toArray 0), toks := tk }
  refine wpAny_bind (wpAny_holding (wpAny_call_entry PyProof.Rows.slot_list_sort ⟨_, hob, rfl⟩ PyProof.Rows.entry_list_sort
    (PyProof.Rows.list_sort_treeAny (s := { s with heap := h'.push (PyProof.Rows.seqObj "list" vs.toArray 0), toks := tk }) hob hi hl fun out ys g1 g2 g3 => ⟨_, rfl, ?_⟩) (PyProof.Rows.args_list_sort _)))
  have ey : ys = sortI ns := sorted_one (g2.trans (sortI_perm ns).symm) g3 (sortI_sorted ns)
  subst ey
  obtain ⟨ep, hep⟩ := PyProof.Rows.sortedHeap_at (vs := vs) (out := out) hob
  have hz : ((sortI ns).map V.int).length ≤ sizeLine := by rw [List.length_map, (sortI_perm ns).length_eq]; exact hn
  refine wpAny_pure ⟨_, rfl, .ref h'.objs.size, upd H h'.objs.size (.lst ((sortI ns).map V.int)), I1.laid (t' := tk) (fun c u e => ?_) (Nat.le_refl _)
    (show ObjOk X.prog X.w _ _ _ (.lst ((sortI ns).map V.int)) from ⟨hz, out.toList, ep, vals_of_ints g1, by rw [Array.toArray_toList]; exact hep⟩), rfl, q _ (I1.hok.fresh (Nat.le_refl _))⟩
  have hlt : c < h'.objs.size := Heap.lt_size e
  rw [PyProof.Rows.sortedHeap_old (Nat.ne_of_lt hlt) (by rw [PyProof.Rows.size_push']; exact Nat.lt_succ_of_lt hlt)]
  exact Heap.get?_push_of_some _ e

/-! ### built-in functions -/
def biV : Bi → Value
  | .len => .builtin "len"
  | .int => .type "int"
  | .repr => .builtin "repr"
  | .tuple => .type "tuple"
  | .list => .type "list"
  | .sum => .builtin "sum"
  | .sorted => .builtin "sorted"
  | .dict => .type "dict"
  | .min2 => .builtin "min"
  | .max2 => .builtin "max"
  | .abs => .builtin "abs"
  | .all => .builtin "all"
  | .any => .builtin "any"
  | _ => .builtin "isinstance"
/-- the class that isinstance is asked of -/
def biT : Bi → Option String
  | .isInt => some "int"
  | .isBool => some "bool"
  | .isStr => some "str"
  | .isTuple => some "tuple"
  | .isList => some "list"
  | .isDict => some "dict"
  | _ => none
def biX (b : Bi) : List V := match biT b with
  | some t => [.ty t]
  | none => []
theorem tup_ty {a : Addr} {vs : List V} {K : PySem.W.Frag} {o : HO} (q : SqT K H a vs) : TyX K H (.ref a) (.type "tuple") := by
  rcases q with q | ⟨o, its, n, h1, h2, _⟩
  · rcases q with q | ⟨o, q⟩
    · exact .base (.tup q)
    · exact .fTuple q
  · exact .kTuple h1 h2
theorem isi_ok (hK : X.K = f.K) (R : Rl f g b sl σ H) (px : PV f g H x vx) {t : Bi} {n : String} (hn : biT t = some n) {P : Bool → Nat → Prop} (h : (isInst t x).wb XE b P) :
    ∃ c, P c b ∧ ∀ Q : VK, Q (.bl c) H → CallW X (.builtin "isinstance") [vx, .ty n] H Q := by
  have go : ∀ {ty : String} {c : Bool}, TyX X.K H vx (.type ty) → kitB ty n = some c → ∀ Q : VK, Q (.bl c) H → CallW X (.builtin "isinstance") [vx, .ty n] H Q := fun {ty c} h1 h2 Q q =>
    .of call_isi ⟨vx, .ty n, .type ty, .type n, c, rfl, .ty n, h1, kit_ty h2, q⟩
  cases x with
  | non =>
    rw [px.non] at go ⊢
    refine ⟨_, h, go (.base .non) ?_⟩
    cases t <;> first | (cases hn; done) | (cases hn; decide +kernel)
  | bl c =>
    rw [px.bl] at go ⊢
    refine ⟨_, h, go (.base (.bl c)) ?_⟩
    cases t <;> first | (cases hn; done) | (cases hn; decide +kernel)
  | int i =>
    rw [px.int] at go ⊢
    refine ⟨_, h, go (.base (.int i)) ?_⟩
    cases t <;> first | (cases hn; done) | (cases hn; decide +kernel)
  | str z =>
    rw [px.str] at go ⊢
    refine ⟨_, h, go (.base (.str z)) ?_⟩
    cases t <;> first | (cases hn; done) | (cases hn; decide +kernel)
  | tup xs =>
    obtain ⟨a, vs, rfl, q, r⟩ := px.tup R.sub
    rw [← hK] at q
    refine ⟨_, h, go (tup_ty (o := .tup []) q) ?_⟩
    cases t <;> first | (cases hn; done) | (cases hn; decide +kernel)
  | lst xs =>
    obtain ⟨a, vs, rfl, q, r⟩ := px.lst R.sub
    refine ⟨_, h, go (.base (.lst q)) ?_⟩
    cases t <;> first | (cases hn; done) | (cases hn; decide +kernel)
  | dct ws =>
    rcases px with rv | ⟨a, rfl, vs, q, _⟩
    · cases rv with
      | dct q _ =>
        refine ⟨_, h, go (.base (.dK (R.sub _ _ q))) ?_⟩
        cases t <;> first | (cases hn; done) | (cases hn; decide +kernel)
    · refine ⟨_, h, go (.base (.dK q)) ?_⟩
      cases t <;> first | (cases hn; done) | (cases hn; decide +kernel)
  | _ => exact h.elim

/-! ### repr -/
mutual
theorem shown_room : ∀ (d : PyData), d.hasDict = false → d.shown.length ≤ roomD d
  | .none, _ => by decide +kernel
  | .bool true, _ => by decide +kernel
  | .bool false, _ => by decide +kernel
  | .int i, _ => by
    have h : (toString i).length ≤ (i.natAbs.log2 + 1) + 1 := int_text_length_le (Nat.succ_pos _) (Nat.lt_succ_self _)
    show (Str.ofString (toString i)).length ≤ i.natAbs.log2 + 3
    rw [ofString_length]
    omega
  | .str x, _ => Nat.le_refl _
  | .list xs, h => by
    have e := listText_len_le (PyData.shownAll xs)
    have e2 := shown_rooms xs h
    show (listText (PyData.shownAll xs)).length ≤ roomDs xs + 3
    rw [PyData.shownAll_length] at e
    omega
  | .tuple xs, h => by
    have e := tupleText_len_le (PyData.shownAll xs)
    have e2 := shown_rooms xs h
    show (tupleText (PyData.shownAll xs)).length ≤ roomDs xs + 3
    rw [PyData.shownAll_length] at e
    omega
  | .dict _, h => by cases h
theorem shown_rooms : ∀ (ds : List PyData), PyData.hasDictAll ds = false → ((PyData.shownAll ds).map (·.length)).sum + 2 * ds.length ≤ roomDs ds
  | [], _ => Nat.le_refl _
  | d :: ds, h => by
    have h : (d.hasDict || PyData.hasDictAll ds) = false := h
    rw [Bool.or_eq_false_iff] at h
    have e1 := shown_room d h.1
    have e2 := shown_rooms ds h.2
    show ((d.shown :: PyData.shownAll ds).map (·.length)).sum + 2 * (ds.length + 1) ≤ roomD d + 2 + roomDs ds
    rw [List.map_cons, List.sum_cons]
    omega
end
theorem repr_ok (hu : X.A.units + 70 < cLine) (hg : X.A.guards = some []) {v : V} {d : PyData} (hd : Dp X.K H v d) (ho : reprOk d = true) (q : Q (.str d.shown) H) : CallW X (.builtin "repr") [v] H Q := by
  unfold reprOk at ho
  simp only [Bool.and_eq_true, decide_eq_true_eq, Bool.not_eq_true'] at ho
  obtain ⟨h1, ⟨h2, h3⟩, h4⟩ := ho
  have hz : d.shown.length ≤ sizeLine := Nat.le_trans (shown_room d h3) h2
  intro pins s σ' us I rv
  obtain ⟨u, rfl, ru⟩ := vals1 rv
  obtain ⟨as, r⟩ := Dp.reads I d v u hd ru
  have old : ∀ a, u = .ref a → wpAny (model X.prog X.w) X.A (call (.builtin "repr") [u]) (EP X pins σ' Q) X.xe s := fun a e => by
    subst e
    refine repr_of_reads' r h1 (fun z => by rw [h3] at z; cases z) hg (by omega) (fun _ _ z => z) (fun h' t tk hk => ?_) hz
    exact ⟨.str d.shown, H, I.kept hk, ⟨t, rfl⟩, q⟩
  cases hd with
  | non => cases ru; exact P.repr_of_none ⟨.str _, H, I.tok _, ⟨_, rfl⟩, q⟩
  | bl c => cases ru; exact P.repr_of_bool ⟨.str _, H, I.tok _, ⟨_, by cases c <;> rfl⟩, q⟩
  | int i =>
    obtain ⟨t, rfl⟩ := ru
    exact P.repr_of_int (of_decide_eq_true h1) ⟨.str _, H, I.tok _, ⟨_, rfl⟩, q⟩
  | str x =>
    obtain ⟨t, rfl⟩ := ru
    exact P.repr_of_str ⟨.str _, H, I.tok _, ⟨_, rfl⟩, q⟩ hz
  | lst _ _ => exact old _ ru
  | tup _ _ => exact old _ ru

/-! ### dicts within -/
/-- the module's table is a dict -/
def SmD (K : PySem.W.Frag) : Prop := ∃ o es n, K.lookup sysModules = some o ∧ o.data = .dict es n
mutual
inductive DpE (K : PySem.W.Frag) (H : Hp) : V → PyData → Prop
  | non : DpE K H .non .none
  | bl (b : Bool) : DpE K H (.bl b) (.bool b)
  | int (i : Int) : DpE K H (.int i) (.int i)
  | str (x : Str) : DpE K H (.str x) (.str x)
  | lst {a : Addr} {xs : List V} {ds : List PyData} : SqL K H a xs → DpEs K H xs ds → DpE K H (.ref a) (.list ds)
  | tup {a : Addr} {xs : List V} {ds : List PyData} : SqT K H a xs → DpEs K H xs ds → DpE K H (.ref a) (.tuple ds)
  | dct {a : Addr} {xs : List (Key × V)} {ds : List (PyData × PyData)} : H a = some (.dK xs) → DpEk K H xs ds → DpE K H (.ref a) (.dict ds)
inductive DpEk (K : PySem.W.Frag) (H : Hp) : List (Key × V) → List (PyData × PyData) → Prop
  | nil : DpEk K H [] []
  | cons {x : Str} {v : V} {d : PyData} {r : List (Key × V)} {ds : List (PyData × PyData)} : DpE K H v d → DpEk K H r ds → DpEk K H ((.inr x, v) :: r) ((.str x, d) :: ds)
inductive DpEs (K : PySem.W.Frag) (H : Hp) : List V → List PyData → Prop
  | nil : DpEs K H [] []
  | cons {v : V} {vs : List V} {d : PyData} {ds : List PyData} : DpE K H v d → DpEs K H vs ds → DpEs K H (v :: vs) (d :: ds)
end
mutual
theorem RV.dpe {f : Fm} {g : Gh} : ∀ {w : W} {v : V} {d : PyData}, RV f.K f.G g w v → toDr w = some d → DpE f.K g.F v d
  | _, _, _, .non, e => by cases e; exact .non
  | _, _, _, .bl b, e => by cases e; exact .bl b
  | _, _, _, .int i, e => by cases e; exact .int i
  | _, _, _, .str x, e => by cases e; exact .str x
  | _, _, _, .rpr _, e => by cases e
  | _, _, _, .tup (ws := ws) q r, e => by
    simp only [toDr] at e
    cases hd : toDrs ws with
    | none => rw [hd] at e; cases e
    | some ds =>
      rw [hd] at e
      cases e
      exact .tup q (RVs.dpe r hd)
  | _, _, _, .lst (ws := ws) q r, e => by
    simp only [toDr] at e
    cases hd : toDrs ws with
    | none => rw [hd] at e; cases e
    | some ds =>
      rw [hd] at e
      cases e
      exact .lst (.inl (.inl q)) (RVs.dpe r hd)
  | _, _, _, .dct (ws := ws) q r, e => by
    simp only [toDr] at e
    cases hd : toDrK ws with
    | none => rw [hd] at e; cases e
    | some ds =>
      rw [hd] at e
      cases e
      exact .dct q (RVk.dpe r hd)
  | _, _, _, .fn _, e => by cases e
  | _, _, _, .orc _, e => by cases e
  | _, _, _, .scr _ _, e => by cases e
  | _, _, _, .clo _ _ _ _ _ _ _ _ _, e => by cases e
  | _, _, _, .clr _ _ _ _ _ _ _ _, e => by cases e
  | _, _, _, .err _ _ _ _ _ _ _, e => by cases e
theorem RVs.dpe {f : Fm} {g : Gh} : ∀ {ws : List W} {vs : List V} {ds : List PyData}, RVs f.K f.G g ws vs → toDrs ws = some ds → DpEs f.K g.F vs ds
  | _, _, _, .nil, e => by cases e; exact .nil
  | _, _, _, .cons (w := w) (ws := ws) a r, e => by
    simp only [toDrs] at e
    cases h1 : toDr w with
    | none => rw [h1] at e; cases e
    | some d =>
      cases h2 : toDrs ws with
      | none => rw [h1, h2] at e; cases e
      | some ds =>
        rw [h1, h2] at e
        cases e
        exact .cons (RV.dpe a h1) (RVs.dpe r h2)
theorem RVk.dpe {f : Fm} {g : Gh} : ∀ {ws : List (Ky × W)} {vs : List (Key × V)} {ds : List (PyData × PyData)}, RVk f.K f.G g ws vs → toDrK ws = some ds → DpEk f.K g.F vs ds
  | _, _, _, .nil, e => by cases e; exact .nil
  | _, _, _, .cons (k := k) (w := w) (ws := ws) a r, e => by
    cases k with
    | inl i => simp only [toDrK] at e; cases e
    | inr x =>
      simp only [toDrK] at e
      cases h1 : toDr w with
      | none => rw [h1] at e; cases e
      | some d =>
        cases h2 : toDrK ws with
        | none => rw [h1, h2] at e; cases e
        | some ds =>
          rw [h1, h2] at e
          cases e
          exact .cons (RV.dpe a h1) (RVk.dpe r h2)
end
mutual
theorem dpeLe {H H' : Hp} {K : PySem.W.Frag} (e : Same H H') : ∀ {v : V} {d : PyData}, DpE K H v d → DpE K H' v d
  | _, _, .non => .non
  | _, _, .bl b => .bl b
  | _, _, .int i => .int i
  | _, _, .str x => .str x
  | _, _, .lst q r => .lst (SqL.le e q) (dpesLe e r)
  | _, _, .tup q r => .tup (SqT.le e q) (dpesLe e r)
  | _, _, .dct q r => .dct (e _ _ q) (dpekLe e r)
theorem dpekLe {H H' : Hp} {K : PySem.W.Frag} (e : Same H H') : ∀ {v : List (Key × V)} {d : List (PyData × PyData)}, DpEk K H v d → DpEk K H' v d
  | _, _, .nil => .nil
  | _, _, .cons a r => .cons (dpeLe e a) (dpekLe e r)
theorem dpesLe {H H' : Hp} {K : PySem.W.Frag} (e : Same H H') : ∀ {v : List V} {d : List PyData}, DpEs K H v d → DpEs K H' v d
  | _, _, .nil => .nil
  | _, _, .cons a r => .cons (dpeLe e a) (dpesLe e r)
end
theorem PV.dpe {f : Fm} {g : Gh} {H : Hp} {v : V} (e : Same g.F H) {w : W} {d : PyData} (h : PV f g H w v) (hd : toDr w = some d) : DpE f.K H v d := by
  rcases h with h | ⟨a, rfl, h⟩
  · exact dpeLe e (h.dpe hd)
  · cases w with
    | lst ws =>
      obtain ⟨vs, h1, h2⟩ := h
      simp only [toDr] at hd
      cases hq : toDrs ws with
      | none => rw [hq] at hd; cases hd
      | some ds =>
        rw [hq] at hd
        cases hd
        exact .lst (.inl (.inl h1)) (dpesLe e (RVs.dpe h2 hq))
    | dct ws =>
      obtain ⟨vs, h1, h2⟩ := h
      simp only [toDr] at hd
      cases hq : toDrK ws with
      | none => rw [hq] at hd; cases hd
      | some ds =>
        rw [hq] at hd
        cases hd
        exact .dct h1 (dpekLe e (RVk.dpe h2 hq))
    | _ => exact h.elim
section
variable {X : Cx} {pins : List (Addr × Obj)} {σ : L2.St} {H : Hp} {s : Shared}
theorem sm_ne (m : SmD X.K) (I : Inv X pins σ H s) {a : Addr} {o : Obj} {its : Array Value} {n : Nat} (h : s.heap.get? a = some o) (hd : o.data = .seq its n) : sysModules ≠ a := by
  rintro rfl
  obtain ⟨o', es, k, h1, h2⟩ := m
  have := I.kIn _ _ h1
  rw [h] at this
  cases this
  rw [hd] at h2
  cases h2
mutual
theorem dpe_reads (m : SmD X.K) (I : Inv X pins σ H s) : ∀ (d : PyData) (v : V) (u : Value), DpE X.K H v d → RelV v u → ∃ as, Reads s.heap u d as ∧ sysModules ∉ as
  | .none, _, _, h, r => by
    cases h
    cases r
    exact ⟨_, Reads.none, List.not_mem_nil⟩
  | .bool b, _, _, h, r => by
    cases h
    cases r
    exact ⟨_, Reads.bool b, List.not_mem_nil⟩
  | .int i, _, _, h, r => by
    cases h
    obtain ⟨t, rfl⟩ := r
    exact ⟨_, Reads.int i t, List.not_mem_nil⟩
  | .str x, _, _, h, r => by
    cases h
    obtain ⟨t, rfl⟩ := r
    exact ⟨_, Reads.str x t, List.not_mem_nil⟩
  | .list ds, _, _, h, r => by
    cases h with
    | lst hs ha =>
      cases r
      obtain ⟨its, rv, ⟨o, n, ho, hc, _, hd⟩, _⟩ := I.list hs
      obtain ⟨as, hr, hn⟩ := dpes_reads m I ds _ its ha rv
      exact ⟨_, Reads.list ho hc hd hr, fun z => by
        rcases List.mem_cons.mp z with z | z
        · exact sm_ne m I ho hd z
        · exact hn z⟩
  | .tuple ds, _, _, h, r => by
    cases h with
    | tup hs ha =>
      cases r
      obtain ⟨its, rv, ⟨o, ho, hc, n, hd⟩, _⟩ := I.tuple hs
      obtain ⟨as, hr, hn⟩ := dpes_reads m I ds _ its ha rv
      exact ⟨_, Reads.tuple ho hc hd hr, hn⟩
  | .dict ds, _, _, h, r => by
    cases h with
    | dct hs ha =>
      cases r
      obtain ⟨_, hl, vs, rel, o, es, ep, ho, hx, hd, _, hp, _⟩ := dk_of I.hok hs
      obtain ⟨as, bs, r1, r2, n1, n2⟩ := dpek_reads m I ds _ vs es.toList ha rel hp
      exact ⟨_, Reads.dict ho hx.1 hd r1 r2, fun z => by
        rcases List.mem_append.mp z with z | z
        · rcases List.mem_cons.mp z with z | z
          · rw [← z, beq_self_eq_true] at hl
            cases hl
          · exact n1 z
        · exact n2 z⟩
theorem dpek_reads (m : SmD X.K) (I : Inv X pins σ H s) : ∀ (ds : List (PyData × PyData)) (vs : List (Key × V)) (us : List (Key × Value)) (es : List DictEntry), DpEk X.K H vs ds → KV vs us → Pairs (mixKind X.prog X.w) es us → ∃ as bs, ReadsAll s.heap (es.map (·.key)) (ds.map (·.1)) as ∧ ReadsAll s.heap (es.map (·.val)) (ds.map (·.2)) bs ∧ sysModules ∉ as ∧ sysModules ∉ bs
  | [], _, _, _, h, r, p => by
    cases h
    cases r
    cases p
    exact ⟨_, _, ReadsAll.nil, ReadsAll.nil, List.not_mem_nil, List.not_mem_nil⟩
  | (k, d) :: ds, _, _, _, h, r, p => by
    cases h with
    | cons h1 h2 =>
      cases r with
      | @cons _ kv _ us r1 r2 =>
        obtain ⟨kk, vv⟩ := kv
        obtain ⟨r1, r3⟩ := r1
        cases p with
        | @cons e _ es _ k1 p1 p2 =>
          obtain ⟨as, bs, q1, q2, n1, n2⟩ := dpek_reads m I ds _ _ es h2 r2 p2
          obtain ⟨cs, q3, n3⟩ := dpe_reads m I d _ _ h1 r3
          have r1 : Sum.inr _ = kk := r1
          subst r1
          have p1 : e.val = vv := p1
          subst p1
          have k1 : keyIs (Sum.inr _) e.key = true := k1
          rcases keyIs_shape k1 with ⟨i, t, z, _⟩ | ⟨y, t, z, ke⟩
          · cases z
          · cases z
            refine ⟨_, _, ReadsAll.cons (by show Reads s.heap e.key (PyData.str _) _; rw [ke]; exact Reads.str _ t) q1, ReadsAll.cons q3 q2, fun z => ?_, fun z => (List.mem_append.mp z).elim n3 n2⟩
            exact (List.mem_append.mp z).elim (fun z => List.not_mem_nil z) n1
theorem dpes_reads (m : SmD X.K) (I : Inv X pins σ H s) : ∀ (ds : List PyData) (vs : List V) (us : List Value), DpEs X.K H vs ds → Vals vs us → ∃ as, ReadsAll s.heap us ds as ∧ sysModules ∉ as
  | [], _, _, h, r => by
    cases h
    cases r
    exact ⟨_, ReadsAll.nil, List.not_mem_nil⟩
  | d :: ds, _, _, h, r => by
    cases h with
    | cons h1 h2 =>
      cases r with
      | cons r1 r2 =>
        obtain ⟨as, q1, n1⟩ := dpe_reads m I d _ _ h1 r1
        obtain ⟨bs, q2, n2⟩ := dpes_reads m I ds _ _ h2 r2
        exact ⟨_, ReadsAll.cons q1 q2, fun z => (List.mem_append.mp z).elim n1 n2⟩
end
theorem repr_okE {Q : VK} (m : SmD X.K) (hu : X.A.units + 70 < cLine) (hg : X.A.guards = some []) {v : V} {d : PyData} (hd : DpE X.K H v d) (ho : reprOkE d = true) (q : Q (.str d.shown) H) : CallW X (.builtin "repr") [v] H Q := by
  unfold reprOkE at ho
  simp only [Bool.and_eq_true] at ho
  obtain ⟨h1, hz, h4⟩ := ho
  have hz := Nat.le_of_ble_eq_true hz
  have h4 := Nat.le_of_ble_eq_true h4
  intro pins s σ' us I rv
  obtain ⟨u, rfl, ru⟩ := vals1 rv
  obtain ⟨as, r, hn⟩ := dpe_reads m I d v u hd ru
  have old : ∀ a, u = .ref a → wpAny (model X.prog X.w) X.A (call (.builtin "repr") [u]) (EP X pins σ' Q) X.xe s := fun a e => by
    subst e
    refine repr_of_reads' r h1 (fun _ => hn) hg (by omega) (fun _ _ z => z) (fun h' t tk hk => ?_) hz
    exact ⟨.str d.shown, H, I.kept hk, ⟨t, rfl⟩, q⟩
  cases hd with
  | non => cases ru; exact P.repr_of_none ⟨.str _, H, I.tok _, ⟨_, rfl⟩, q⟩
  | bl c => cases ru; exact P.repr_of_bool ⟨.str _, H, I.tok _, ⟨_, by cases c <;> rfl⟩, q⟩
  | int i =>
    obtain ⟨t, rfl⟩ := ru
    exact P.repr_of_int (of_decide_eq_true h1) ⟨.str _, H, I.tok _, ⟨_, rfl⟩, q⟩
  | str x =>
    obtain ⟨t, rfl⟩ := ru
    exact P.repr_of_str ⟨.str _, H, I.tok _, ⟨_, rfl⟩, q⟩ hz
  | lst _ _ => exact old _ ru
  | tup _ _ => exact old _ ru
  | dct _ => exact old _ ru
end

/-! ### dict(pairs) -/
theorem pairs_ok {K : PySem.W.Frag} (e : Same g.F H) (hK : K = f.K) : ∀ {xs : List W} {vs : List V} {ps : List (Ky × W)}, pairsOf xs = some ps → RVs f.K f.G g xs vs → ∃ (as : List Addr) (kvs : List (Key × V)), vs = as.map V.ref ∧ Paired (fun p kv => SqT K H p [kV kv.1, kv.2]) as kvs ∧ RVk f.K f.G g ps kvs
  | [], _, _, h, .nil => by
    cases h
    exact ⟨[], [], rfl, .nil, .nil⟩
  | x :: xs, _, ps, h, .cons a r => by
    cases a with
    | tup q rr =>
      rename_i p vs' ws
      cases ws with
      | nil => cases h
      | cons k ws =>
        cases ws with
        | nil => cases h
        | cons w ws =>
          cases ws with
          | cons _ _ => cases h
          | nil =>
            have h : (match keyOf k, pairsOf xs with | some k, some ps => some ((k, w) :: ps) | _, _ => none) = some ps := h
            cases hk : keyOf k with
            | none => rw [hk] at h; cases h
            | some k' =>
              cases hp : pairsOf xs with
              | none => rw [hk, hp] at h; cases h
              | some ps' =>
                rw [hk, hp] at h
                cases h
                cases rr with
                | @cons _ vk _ _ rk rr =>
                  cases rr with
                  | @cons _ vw _ _ rw' rr =>
                    cases rr
                    obtain ⟨as, kvs, e1, e2, e3⟩ := pairs_ok e hK hp r
                    have ek : vk = kV k' := keyOf_V (H := H) hk (.inl rk)
                    subst ek
                    refine ⟨p :: as, (k', vw) :: kvs, by rw [e1]; rfl, .cons ?_ e2, .cons rw' e3⟩
                    rw [hK]
                    exact SqT.le e q
    | _ => cases h
theorem merge_ok : ∀ {ps : List (Ky × W)} {kvs : List (Key × V)}, RVk f.K f.G g ps kvs → ∀ {acc : List (Ky × W)} {acc' : List (Key × V)}, RVk f.K f.G g acc acc' → RVk f.K f.G g (ps.foldl (fun d p => Ev.putK d p.1 p.2) acc) (mergeK acc' kvs)
  | _, _, .nil, _, _, ra => ra
  | _, _, .cons (ws := ws) (vs := vs) a r, _, _, ra => merge_ok (ps := ws) (kvs := vs) r (putK_V a ra)

theorem intsEach : ∀ {ks : List Int} {us : List Value}, us.length = ks.length → (∀ (j : Nat) u, us[j]? = some u → ∃ x t, ks[j]? = some x ∧ u = .int x t) → PyProof.Rows.IntsAre us ks
  | [], [], _, _ => .nil
  | [], _ :: _, h, _ => by cases h
  | _ :: _, [], h, _ => by cases h
  | k :: ks, u :: us, h, e => by
    obtain ⟨x, t, e1, rfl⟩ := e 0 u rfl
    cases e1
    refine .cons _ _ (intsEach (Nat.succ.inj h) fun j v ev => ?_)
    obtain ⟨y, s, e2, e3⟩ := e (j + 1) v ev
    exact ⟨y, s, e2, e3⟩
/-! ### all built-ins -/
structure Bx (X : Cx) (f : Fm) : Prop where
  sm : SmD X.K
  hK : X.K = f.K
  hu : X.A.units + 70 < cLine
  hg : X.A.guards = some []
  calm : X.calm = true
theorem Bx.u64 (B : Bx X f) : X.A.units + 64 < cLine := by have := B.hu; omega
theorem maxI_ge : ∀ (is : List Int) (i : Int), i ≤ maxI i is ∧ ∀ y ∈ is, y ≤ maxI i is
  | [], i => ⟨Int.le_refl _, fun _ h => (List.not_mem_nil h).elim⟩
  | a :: is, i => by
    obtain ⟨h1, h2⟩ := maxI_ge is (if a > i then a else i)
    have e : maxI i (a :: is) = maxI (if a > i then a else i) is := rfl
    rw [e]
    have : i ≤ (if a > i then a else i) ∧ a ≤ (if a > i then a else i) := by split <;> omega
    refine ⟨by omega, fun y hy => ?_⟩
    rcases List.mem_cons.mp hy with rfl | hy
    · omega
    · exact h2 y hy
theorem maxI_mem : ∀ (is : List Int) (i : Int), maxI i is ∈ i :: is
  | [], i => List.mem_cons_self ..
  | a :: is, i => by
    have e : maxI i (a :: is) = maxI (if a > i then a else i) is := rfl
    rw [e]
    have := maxI_mem is (if a > i then a else i)
    rcases List.mem_cons.mp this with h | h
    · rw [h]
      split
      · exact List.mem_cons_of_mem _ (List.mem_cons_self ..)
      · exact List.mem_cons_self ..
    · exact List.mem_cons_of_mem _ (List.mem_cons_of_mem _ h)
theorem maxI_eq {i m : Int} {is : List Int} (h1 : m ∈ i :: is) (h2 : ∀ y, y ∈ i :: is → y ≤ m) : m = maxI i is := by
  have a := h2 _ (maxI_mem is i)
  obtain ⟨b, c⟩ := maxI_ge is i
  rcases List.mem_cons.mp h1 with h | h
  · omega
  · have := c m h
    omega
theorem bi1_ok (B : Bx X f) (hh : X.A.handled = none) (R : Rl f g b sl σ H) (px : PV f g H x vx) (t : Bi) (h : (bi1 t x).wb XE b (Want f g sl σ Q)) : CallW X (biV t) (vx :: biX t) H Q := by
  have isi : ∀ {t : Bi} {n : String}, biT t = some n → (yes (isInst t x)).wb XE b (Want f g sl σ Q) → CallW X (.builtin "isinstance") [vx, .ty n] H Q := fun {t n} hn z => by
    obtain ⟨c, z, q⟩ := isi_ok (X := X) B.hK R px hn (yes_wb z)
    exact q Q (wantB (XE := XE) R z)
  have srt : ∀ {ns : List Int} {P : Prop}, (T.guard (Nat.ble ns.length sizeLine) (.ok (.lst ((sortI ns).map .int), true)) : T Ev.R).wb XE b (Want f g sl σ Q) → ns.length ≤ sizeLine ∧ ∀ p, H p = none → Q (.ref p) (upd H p (.lst ((sortI ns).map V.int))) := fun {ns _} z => by
    obtain ⟨c, z⟩ := T.wb_guard z
    refine ⟨Nat.le_of_ble_eq_true c, fun p hp => ?_⟩
    obtain ⟨R', w⟩ := R.newL hp (ints_rvs (f := f) (g := g) (sortI ns))
    exact z g _ _ (Gh.le.refl g) R' w
  cases t with
  | len =>
    have h : (lenW x).wb XE b (Want f g sl σ Q) := h
    unfold lenW at h
    cases x with
    | tup xs =>
      obtain ⟨a, vs, rfl, q, r⟩ := px.tup R.sub
      rw [← B.hK] at q
      have z := wantI R h
      rw [r.len] at z
      exact .of call_len ⟨_, _, rfl, .inr ⟨vs, q, rfl⟩, z⟩
    | lst xs =>
      obtain ⟨a, vs, rfl, q, r⟩ := px.lst R.sub
      have z := wantI R h
      rw [r.len] at z
      exact .of call_len ⟨_, _, rfl, .inl ⟨vs, .inl (.inl q), rfl⟩, z⟩
    | scr n =>
      obtain ⟨a, ns, rfl, q, r⟩ := px.scr R.sub
      have z := wantI R h
      rw [← B.hK] at q
      exact .of call_len ⟨_, n, rfl, .inl ⟨_, q, by rw [List.length_map, r]⟩, z⟩
    | dct kvs =>
      obtain ⟨a, vs, rfl, q, r⟩ := px.dct R.sub
      have z := wantI R h
      rw [r.len] at z
      exact .of call_lenD ⟨a, vs, rfl, q, z⟩
    | _ => exact h.elim
  | int =>
    have h : (intW x).wb XE b (Want f g sl σ Q) := h
    unfold intW at h
    obtain ⟨i, rfl⟩ : ∃ i, x = .int i := by
      cases x <;> first
        | exact ⟨_, rfl⟩
        | exact h.elim
    rw [px.int]
    exact .of call_int1 (.inl ⟨i, rfl, wantI R h⟩)
  | repr =>
    have h : (reprW x).wb XE b (Want f g sl σ Q) := h
    unfold reprW at h
    cases e : toD x with
    | none =>
      rw [e] at h
      dsimp only at h
      cases e2 : toDr x with
      | none => rw [e2] at h; exact h.elim
      | some d =>
        rw [e2] at h
        obtain ⟨c, h⟩ := T.wb_guard h
        have dp := px.dpe R.sub e2
        rw [← B.hK] at dp
        exact repr_okE B.sm B.hu B.hg dp c (h g _ H (Gh.le.refl g) R (.rpr d))
    | some d =>
      rw [e] at h
      obtain ⟨c, h⟩ := T.wb_guard h
      have dp := px.dp R.sub e
      rw [← B.hK] at dp
      exact repr_ok B.hu B.hg dp c (h g _ H (Gh.le.refl g) R (.rpr d))
  | tuple =>
    have h : (tupleW x).wb XE b (Want f g sl σ Q) := h
    unfold tupleW at h
    cases x with
    | lst xs =>
      obtain ⟨a, vs, rfl, q, r⟩ := px.lst R.sub
      refine .of call_tuple_of ⟨a, vs, rfl, .inl ⟨.inl (.inl q), fun p hp => ?_⟩⟩
      obtain ⟨g', l, R', rv⟩ := R.newT hp r
      exact h g' _ _ l R' rv
    | tup xs =>
      obtain ⟨a, vs, rfl, q, r⟩ := px.tup R.sub
      rw [← B.hK] at q
      refine .of call_tuple_of ⟨a, vs, rfl, .inr ⟨q, ?_⟩⟩
      rcases px with px | ⟨_, _, px⟩
      · exact h g _ H (Gh.le.refl g) R px
      · exact px.elim
    | _ => exact h.elim
  | list =>
    have h : (listW x).wb XE b (Want f g sl σ Q) := h
    unfold listW at h
    cases x with
    | lst xs =>
      obtain ⟨a, vs, rfl, q, r⟩ := px.lst R.sub
      refine .of call_list_of ⟨a, vs, rfl, .inl (.inl (.inl q)), fun p hp => ?_⟩
      obtain ⟨R', w⟩ := R.newL hp r
      exact h g _ _ (Gh.le.refl g) R' w
    | tup xs =>
      obtain ⟨a, vs, rfl, q, r⟩ := px.tup R.sub
      rw [← B.hK] at q
      refine .of call_list_of ⟨a, vs, rfl, .inr q, fun p hp => ?_⟩
      obtain ⟨R', w⟩ := R.newL hp r
      exact h g _ _ (Gh.le.refl g) R' w
    | _ => exact h.elim
  | sum =>
    have h : (sumW x).wb XE b (Want f g sl σ Q) := h
    unfold sumW at h
    cases x with
    | lst xs =>
      dsimp only at h
      cases e : intsOf xs with
      | none => rw [e] at h; exact h.elim
      | some is =>
        rw [e] at h
        have z := wantI R h
        have e2 := intsOf_some e
        subst e2
        obtain ⟨a, vs, rfl, q, r⟩ := px.lst R.sub
        have e3 := rvs_ints r
        subst e3
        exact .of (cr_sum B.calm) ⟨a, is, rfl, .inl (.inl q), z⟩
    | _ => exact h.elim
  | sorted =>
    have h : (sortedW x).wb XE b (Want f g sl σ Q) := h
    unfold sortedW at h
    cases x with
    | lst xs =>
      dsimp only at h
      cases e : intsOf xs with
      | none => rw [e] at h; exact h.elim
      | some is =>
        rw [e] at h
        obtain ⟨z1, z2⟩ := srt (P := True) h
        have e2 := intsOf_some e
        subst e2
        obtain ⟨a, vs, rfl, q, r⟩ := px.lst R.sub
        have e3 := rvs_ints r
        subst e3
        intro pins s σ' us I rv
        obtain ⟨u, rfl, ru⟩ := vals1 rv
        cases ru
        have sq : SqL X.K H a (is.map V.int) := .inl (.inl q)
        obtain ⟨its, rvs, hl, hz⟩ := I.list sq
        obtain ⟨o, ho, hc, n, hd⟩ := hl.isList
        refine sorted_by z1 I (fun {A R' E} _ k => ?_) hh z2
        refine wpAny_collect_seq a (.inl rfl) ho hc hd (fun h' hk => ?_) (by rw [List.size_toArray, ← rvs.length]; exact hz)
        exact k h' s.toks _ hk rvs.ints
    | tup xs =>
      dsimp only at h
      cases e : intsOf xs with
      | none => rw [e] at h; exact h.elim
      | some is =>
        rw [e] at h
        obtain ⟨z1, z2⟩ := srt (P := True) h
        have e2 := intsOf_some e
        subst e2
        obtain ⟨a, vs, rfl, q, r⟩ := px.tup R.sub
        have e3 := rvs_ints r
        subst e3
        rw [← B.hK] at q
        intro pins s σ' us I rv
        obtain ⟨u, rfl, ru⟩ := vals1 rv
        cases ru
        obtain ⟨its, rvs, hl, hz⟩ := I.tuple q
        obtain ⟨o, ho, hc, n, hd⟩ := hl
        refine sorted_by z1 I (fun {A R' E} _ k => ?_) hh z2
        refine wpAny_collect_seq a (.inr rfl) ho hc hd (fun h' hk => ?_) (by rw [List.size_toArray, ← rvs.length]; exact hz)
        exact k h' s.toks _ hk rvs.ints
    | dct kvs =>
      dsimp only at h
      cases e : keysI kvs with
      | none => rw [e] at h; exact h.elim
      | some is =>
        rw [e] at h
        obtain ⟨z1, z2⟩ := srt (P := True) h
        obtain ⟨a, vs, rfl, q, r⟩ := px.dct R.sub
        have hkey : vs.map (·.1) = is.map Sum.inl := (rvk_keys r).trans (keysI_some e)
        intro pins s σ' us I rv
        obtain ⟨u, rfl, ru⟩ := vals1 rv
        cases ru
        refine sorted_by z1 I (fun {A R' E} hA k => ?_) hh z2
        obtain ⟨hz, hlo, ents, hrel, hdo⟩ := dk_rd I.hok (Or.inl q)
        obtain ⟨epo, hdat⟩ := hdo.dictAt
        have hek : ents.map (·.1) = is.map Sum.inl := hrel.keys.symm.trans hkey
        have hlen : ents.length = is.length := by
          have hq := congrArg List.length hek
          rw [List.length_map, List.length_map] at hq
          exact hq
        have src := PySem.W.kdl_dict (prog := X.prog) (w := X.w) (knd := mixKind X.prog X.w) (kvs := ents) (ep := epo) hlo
        refine PySem.W.kdu_collect (A := A) src hA hdat (by rw [hlen]; exact z1) fun h' tk acc hk hacc => k h' tk _ hk ?_
        have hal : acc.toList.length = is.length := by rw [Array.length_toList, hacc.1, hlen]
        refine intsEach hal fun j w ej => ?_
        obtain ⟨ky, y, e1, e2⟩ := hacc.2 j w (by rw [← Array.getElem?_toList]; exact ej)
        have e3 : (is.map Sum.inl)[j]? = some ky := by
          rw [← hek, List.getElem?_map, e1]
          rfl
        rw [List.getElem?_map] at e3
        cases e4 : is[j]? with
        | none => rw [e4] at e3; cases e3
        | some z =>
          rw [e4] at e3
          obtain rfl : Sum.inl z = ky := Option.some.inj e3
          rcases keyIs_shape (show keyIs (Sum.inl z) w = true from e2) with ⟨i, t, ek, ev⟩ | ⟨_, _, ek, _⟩
          · cases ek
            exact ⟨z, t, rfl, ev⟩
          · cases ek
    | _ => exact h.elim
  | dict =>
    have h : (dictW x).wb XE b (Want f g sl σ Q) := h
    unfold dictW at h
    cases x with
    | lst xs =>
      dsimp only at h
      cases e : pairsOf xs with
      | none => rw [e] at h; exact h.elim
      | some ps =>
        rw [e] at h
        obtain ⟨a, vs, rfl, q, r⟩ := px.lst R.sub
        obtain ⟨as, kvs, rfl, hp, rk⟩ := pairs_ok R.sub B.hK e r
        refine .of (call_dictP B.calm) ⟨a, as, kvs, rfl, .inl (.inl q), hp, fun p hp => ?_⟩
        obtain ⟨R', w⟩ := R.newD hp (merge_ok rk (acc := []) (acc' := []) .nil)
        exact h g _ _ (Gh.le.refl g) R' w
    | _ => exact h.elim
  | min2 => exact h.elim
  | max2 =>
    have hm : (maxW1 x).wb XE b (Want f g sl σ Q) := h
    clear h
    unfold maxW1 at hm
    cases x with
    | lst xs =>
      dsimp only at hm
      cases e : intsOf xs with
      | none => rw [e] at hm; exact hm.elim
      | some is =>
        rw [e] at hm
        have e2 := intsOf_some e
        subst e2
        obtain ⟨a, vs, rfl, q, r⟩ := px.lst R.sub
        have e3 := rvs_ints r
        subst e3
        cases is with
        | nil => exact hm.elim
        | cons i is =>
          have hm : (fz (.int (maxI i is))).wb XE b (Want f g sl σ Q) := hm
          have z := wantI R hm
          refine .of (cr_max B.calm) ⟨a, i :: is, rfl, .inl (.inl q), Nat.succ_pos _, fun m h1 h2 => ?_⟩
          rw [maxI_eq h1 h2]
          exact z
    | _ => exact hm.elim
  | abs =>
    have h : (absW x).wb XE b (Want f g sl σ Q) := h
    unfold absW at h
    obtain ⟨i, rfl⟩ : ∃ i, x = .int i := by
      cases x <;> first
        | exact ⟨_, rfl⟩
        | exact h.elim
    rw [px.int]
    exact .of call_abs ⟨i, rfl, wantI R h⟩
  | all =>
    have h : (allW x).wb XE b (Want f g sl σ Q) := h
    unfold allW at h
    cases x with
    | lst xs =>
      dsimp only at h
      cases e : boolsOf xs with
      | none => rw [e] at h; exact h.elim
      | some bs =>
        rw [e] at h
        have z := wantB R h
        have e2 := boolsOf_some e
        subst e2
        obtain ⟨a, vs, rfl, q, r⟩ := px.lst R.sub
        have e3 := rvs_bools r
        subst e3
        rw [← allL_eq] at z
        exact .of (cr_all B.calm) ⟨a, bs, rfl, .inl (.inl q), z⟩
    | _ => exact h.elim
  | any =>
    have h : (anyW x).wb XE b (Want f g sl σ Q) := h
    unfold anyW at h
    cases x with
    | lst xs =>
      dsimp only at h
      cases e : boolsOf xs with
      | none => rw [e] at h; exact h.elim
      | some bs =>
        rw [e] at h
        have z := wantB R h
        have e2 := boolsOf_some e
        subst e2
        obtain ⟨a, vs, rfl, q, r⟩ := px.lst R.sub
        have e3 := rvs_bools r
        subst e3
        rw [← anyL_eq] at z
        exact .of (cr_any B.calm) ⟨a, bs, rfl, .inl (.inl q), z⟩
    | _ => exact h.elim
  | isInt => exact isi rfl h
  | isBool => exact isi rfl h
  | isStr => exact isi rfl h
  | isTuple => exact isi rfl h
  | isList => exact isi rfl h
  | isDict => exact isi rfl h

inductive PVs (f : Fm) (g : Gh) (H : Hp) : List W → List V → Prop
  | nil : PVs f g H [] []
  | cons {w : W} {v : V} {ws : List W} {vs : List V} : PV f g H w v → PVs f g H ws vs → PVs f g H (w :: ws) (v :: vs)
theorem bi_ok (B : Bx X f) (hh : X.A.handled = none) (R : Rl f g b sl σ H) {ws : List W} {vs : List V} (ps : PVs f g H ws vs) (t : Bi) (h : (biW t ws).wb XE b (Want f g sl σ Q)) : CallW X (biV t) (vs ++ biX t) H Q := by
  cases ps with
  | nil => exact h.elim
  | cons p ps =>
    cases ps with
    | nil => exact bi1_ok B hh R p t h
    | cons p' ps =>
      cases ps with
      | cons _ _ => exact h.elim
      | nil =>
        cases t <;> first
          | exact h.elim
          | skip
        · obtain ⟨i, j, rfl, rfl, h⟩ := two_wb h
          rw [p.int, p'.int]
          exact .of (call_min2 B.calm) ⟨i, j, rfl, wantI R h⟩
        · obtain ⟨i, j, rfl, rfl, h⟩ := two_wb h
          rw [p.int, p'.int]
          exact .of (call_max2 B.calm) ⟨i, j, rfl, wantI R h⟩
/-! ### index -/
theorem strsOf_some : ∀ {xs : List W} {ys : List Str}, strsOf xs = some ys → xs = ys.map W.str
  | [], _, h => by cases h; rfl
  | x :: r, ys, h => by
    cases x with
    | str z =>
      have h : (strsOf r).map (z :: ·) = some ys := h
      cases e : strsOf r with
      | none => rw [e] at h; cases h
      | some zs =>
        rw [e] at h
        cases h
        rw [strsOf_some e]
        rfl
    | _ => cases h
theorem rvs_strs : ∀ {ys : List Str} {vs : List V}, RVs f.K f.G g (ys.map W.str) vs → vs = ys.map V.str
  | [], _, .nil => rfl
  | y :: ys, _, .cons a r => by
    cases a
    rw [rvs_strs r]
    rfl
theorem findS_ok {x : Str} : ∀ {ys : List Str} {k n : Nat}, findS x k ys = some n → ∃ j, n = k + j ∧ ys[j]? = some x ∧ ∀ m, m < j → ys[m]? ≠ some x
  | [], _, _, h => by cases h
  | y :: r, k, n, h => by
    unfold findS at h
    cases e : eqS y x with
    | true =>
      rw [e] at h
      cases h
      exact ⟨0, rfl, by rw [eqS_iff.mp e]; rfl, fun m hm => absurd hm (Nat.not_lt_zero m)⟩
    | false =>
      rw [e] at h
      obtain ⟨j, e1, e2, e3⟩ := findS_ok h
      refine ⟨j + 1, by omega, e2, fun m hm => ?_⟩
      cases m with
      | zero =>
        intro z
        have : y = x := Option.some.inj z
        rw [eqS_iff.mpr this] at e
        cases e
      | succ m => exact e3 m (by omega)
theorem findF_ok {x : W} : ∀ {ys : List W} {k n : Nat}, findF x k ys = some n → ∃ j z, n = k + j ∧ ys[j]? = some z ∧ eqF z x = true ∧ ∀ m z', m < j → ys[m]? = some z' → eqF z' x = false
  | [], _, _, h => by cases h
  | y :: r, k, n, h => by
    unfold findF at h
    by_cases e : eqF y x = true
    · rw [if_pos e] at h
      cases h
      exact ⟨0, y, rfl, rfl, e, fun m _ hm => absurd hm (Nat.not_lt_zero m)⟩
    · rw [if_neg e] at h
      obtain ⟨j, z, e1, e2, e3, e4⟩ := findF_ok h
      refine ⟨j + 1, z, by omega, e2, e3, fun m z' hm hz => ?_⟩
      cases m with
      | zero =>
        cases hz
        cases q : eqF y x with
        | true => exact absurd q e
        | false => rfl
      | succ m => exact e4 m z' (by omega) hz
/-- which built-in method a receiver's index is -/
def ixId : W → String
  | .tup _ => "tuple.index"
  | _ => "list.index"
theorem index_ok (hK : X.K = f.K) (R : Rl f g b sl σ H) (px : PV f g H x vx) (py : PV f g H y vy) {P : W → Nat → Prop} (h : (indexT x y).wb XE b P) (hP : ∀ w v, P w b → RV f.K f.G g w v → Q v H) :
    ((∃ xs, x = .tup xs) ∧ MtWt X "tuple.index" vx [vy] H Q) ∨ ((∃ xs, x = .lst xs) ∧ MtWt X "list.index" vx [vy] H Q) := by
  unfold indexT at h
  cases x with
  | tup xs =>
    refine .inl ⟨⟨xs, rfl⟩, ?_⟩
    dsimp only at h
    obtain ⟨z, rfl⟩ : ∃ z, y = .str z := by
      cases y <;> first
        | exact ⟨_, rfl⟩
        | exact h.elim
    dsimp only at h
    cases e : strsOf xs with
    | none => rw [e] at h; exact h.elim
    | some ys =>
      rw [e] at h
      dsimp only at h
      cases e2 : findS z 0 ys with
      | none => rw [e2] at h; exact h.elim
      | some n =>
        rw [e2] at h
        have h : P (.int n) b := h
        have e3 := strsOf_some e
        subst e3
        obtain ⟨a, vs, rfl, q, r⟩ := px.tup R.sub
        have e4 := rvs_strs r
        subst e4
        obtain ⟨j, e5, e6, e7⟩ := findS_ok e2
        rw [← hK] at q
        rw [py.str]
        have e8 : n = j := by omega
        subst e8
        exact fun pins s σ' v us I rx rv => mt_tup_index pins s σ' H _ _ v us Q I rx rv ⟨a, ys, z, n, rfl, rfl, q, e6, e7, hP _ _ h (.int _)⟩
  | lst xs =>
    refine .inr ⟨⟨xs, rfl⟩, ?_⟩
    have h : (findW y xs).wb XE b P := h
    unfold findW at h
    obtain ⟨c, h⟩ := T.wb_guard h
    rw [Bool.and_eq_true] at c
    cases e2 : findF y 0 xs with
    | none => rw [e2] at h; exact h.elim
    | some n =>
      rw [e2] at h
      have h : P (.int n) b := h
      obtain ⟨a, vs, rfl, q, r⟩ := px.lst R.sub
      obtain ⟨e1, f1⟩ := flat_pv c.1 py
      obtain ⟨e3, f3⟩ := flat_rvs c.2 r
      obtain ⟨j, z, e5, e6, e7, e8⟩ := findF_ok e2
      have e9 : n = j := by omega
      subst e9
      have fz : ∀ {m : Nat} {w : W}, xs[m]? = some w → flatW w = true := fun {m w} hm => List.all_eq_true.mp c.2 w (List.mem_of_getElem? hm)
      have v6 : vs[n]? = some (flatOf z) := by rw [e3, List.getElem?_map, e6]; rfl
      refine fun pins s σ' v us I rx rv => mt_index pins s σ' H _ _ v us Q I rx rv ⟨a, vs, vy, n, flatOf z, rfl, rfl, .inl (.inl q), f1, f3, v6, ?_, fun m z' hm hz => ?_, hP _ _ h (.int _)⟩
      · rw [e1, ← eqF_V (fz e6) c.1]
        exact e7
      · rw [e3, List.getElem?_map] at hz
        cases hw : xs[m]? with
        | none => rw [hw] at hz; cases hz
        | some w =>
          rw [hw] at hz
          have : flatOf w = z' := Option.some.inj hz
          rw [← this, e1, ← eqF_V (fz hw) c.1]
          exact e8 m w hm hw
  | _ => exact h.elim
end
end Ev
end
section
set_option Elab.async false
set_option linter.all false
set_option maxRecDepth 100000
set_option maxHeartbeats 2000000
/-! EvSnd: the evaluator is right over the hand layer. First: what is wanted of a piece of syntax, at its weakest. -/
namespace Ev
open PySem L2
set_option autoImplicit false

/-! ### the weakest readings -/
def tW (X : Cx) (e : Expr) : TE := fun σ H Q => ∀ (pins : List (Addr × Obj)) (s : Shared), Inv X pins σ H s → wpAny (model X.prog X.w) X.A (eval e X.env) (EP X pins σ Q) X.xe s
def tWT (X : Cx) (e : Expr) : TT := fun σ H Q => ∀ (pins : List (Addr × Obj)) (s : Shared), Inv X pins σ H s → wpAny (model X.prog X.w) X.A (isTrue e X.env (eval e X.env)) (TP X pins σ Q) X.xe s
def tWA (X : Cx) (es : List Expr) : TA := fun σ H Q => ∀ (pos : Pos) (pins : List (Addr × Obj)) (s : Shared), Inv X pins σ H s → wpAny (model X.prog X.w) X.A (spliced (backTo pos (starEach es X.env))) (AP X pins σ Q) X.xe s
def tWS (X : Cx) (st : Stmt) : TS := fun D σ H => ∀ (pins : List (Addr × Obj)) (s : Shared), Inv X pins σ H s → wpAny (model X.prog X.w) X.A (exec st X.env) (SP X pins D) X.xe s
def tWSs (X : Cx) (st : List Stmt) : TS := fun D σ H => ∀ (pins : List (Addr × Obj)) (s : Shared), Inv X pins σ H s → wpAny (model X.prog X.w) X.A (execs st X.env) (SP X pins D) X.xe s
section
variable {X : Cx} {e a c d : Expr} {es : List Expr} {σ : St} {H : Hp} {Q Q' : VK} {pos : Pos}
theorem pe_w : PE X e (tW X e) := ⟨fun pins s _ _ _ I h => h pins s I⟩
theorem pt_w : PT X e (tWT X e) := ⟨fun pins s _ _ _ I h => h pins s I⟩
theorem pa_w : PA X es (tWA X es) := ⟨fun pos pins s _ _ _ I h => h pos pins s I⟩
theorem ps_w {st : Stmt} : PS X st (tWS X st) := ⟨fun pins s _ _ _ I h => h pins s I⟩
theorem pss_w {st : List Stmt} : PSs X st (tWSs X st) := ⟨fun pins s _ _ _ I h => h pins s I⟩
theorem of_pe {t : TE} (h : PE X e t) (q : t σ H Q) : tW X e σ H Q := fun pins s I => h.run pins s σ H Q I q
theorem of_pt {t : TT} {Q : Bool → Hp → Prop} (h : PT X e t) (q : t σ H Q) : tWT X e σ H Q := fun pins s I => h.run pins s σ H Q I q
theorem of_pa {t : TA} {Q : List V → Hp → Prop} (h : PA X es t) (q : t σ H Q) : tWA X es σ H Q := fun pos pins s I => h.run pos pins s σ H Q I q
theorem of_ps {st : Stmt} {t : TS} {D : Ends} (h : PS X st t) (q : t D σ H) : tWS X st D σ H := fun pins s I => h.run pins s σ H D I q
theorem of_pss {st : List Stmt} {t : TS} {D : Ends} (h : PSs X st t) (q : t D σ H) : tWSs X st D σ H := fun pins s I => h.run pins s σ H D I q
theorem tW.mono (h : tW X e σ H Q) (m : ∀ v H', Q v H' → Q' v H') : tW X e σ H Q' := fun pins s I => thn (h pins s I) fun _ _ ⟨v, H', I', r, q⟩ => ⟨v, H', I', r, m v H' q⟩
theorem tWT.mono {Q Q' : Bool → Hp → Prop} (h : tWT X e σ H Q) (m : ∀ v H', Q v H' → Q' v H') : tWT X e σ H Q' := fun pins s I => thn (h pins s I) fun _ _ ⟨H', I', q⟩ => ⟨H', I', m _ H' q⟩
theorem tWA.mono {Q Q' : List V → Hp → Prop} (h : tWA X es σ H Q) (m : ∀ v H', Q v H' → Q' v H') : tWA X es σ H Q' := fun pos pins s I => thn (h pos pins s I) fun _ _ ⟨v, H', I', r, q⟩ => ⟨v, H', I', r, m v H' q⟩
/-! ### forms -/
def starB : Expr → Bool
  | .Starred .. => true
  | _ => false
theorem star_cons (h : starB e = false) : starEach (e :: es) X.env = (false, eval e X.env) :: starEach es X.env := by
  cases e <;> first
    | rfl
    | cases h
theorem star_any : ∀ {es : List Expr}, es.all (fun e => !starB e) = true → (backTo pos (starEach es X.env)).any (·.1) = false
  | [], _ => rfl
  | e :: es, h => by
    rw [List.all_cons, Bool.and_eq_true] at h
    have h1 : starB e = false := by
      cases q : starB e with
      | false => rfl
      | true => rw [q] at h; cases h.1
    rw [star_cons h1]
    show (false || (backTo pos (starEach es X.env)).any (·.1)) = false
    rw [star_any h.2]
    rfl
theorem w_nil {Q : List V → Hp → Prop} (h : Q [] H) : tWA X [] σ H Q := of_pa pa_nil h
theorem w_cons {Q : List V → Hp → Prop} (hs : starB e = false) (h : tW X e σ H fun v H1 => tWA X es σ H1 fun vs H2 => Q (v :: vs) H2) : tWA X (e :: es) σ H Q := of_pa (pa_cons pe_w pa_w (star_cons hs)) h
theorem w_star {Q : List V → Hp → Prop} (h : tW X e σ H fun x H1 => ∃ p xs, x = V.ref p ∧ (SqT X.K H1 p xs ∨ SqL X.K H1 p xs) ∧ tWA X es σ H1 fun ys H2 => Q (xs ++ ys) H2) : tWA X (.Starred e pos :: es) σ H Q := of_pa (StX.pa_star pe_w pa_w) h
theorem w_var {i : Nat} {x : Str} {v : V} (hN : X.N[i]? = some x) (hv : Vis X.env.scope x) (hd : (x == ("__debug__" : Str)) = false) (hc : (x == ("__classdict__" : Str)) = false) (hs : σ[i]? = some (some v)) (h : Q v H) : tW X (.Name x pos) σ H Q :=
  of_pe (pe_var hN hv hd hc) ⟨v, hs, h⟩
theorem w_tup {k : Nat} (h : tWA X es σ H fun vs H1 => vs.length ≤ sizeLine ∧ ∀ p, H1 p = none → Q (.ref p) (upd H1 p (.tup vs))) : tW X (.Tuple es k pos) σ H Q := of_pe (pe_tup pa_w) h
theorem w_lst (h : tWA X es σ H fun vs H1 => vs.length ≤ sizeLine ∧ ∀ p, H1 p = none → Q (.ref p) (upd H1 p (.lst vs))) : tW X (.List es pos) σ H Q := of_pe (pe_lst pa_w) h
theorem w_dnew (h : ∀ p, H p = none → Q (.ref p) (upd H p (.dK []))) : tW X (.Dict [] [] pos) σ H Q := of_pe pe_dnewK h
theorem opr_w {fn : Value → Value → Sem Value} : OpR X fn (fun x y H Q => OpW X fn x y H Q) := fun pins s σ H x y v u Q I rx ry h => h pins s σ v u I rx ry
theorem w_bin {op : Operator} (h : tW X a σ H fun x H1 => tW X c σ H1 fun y H2 => OpW X (binaryOp op) x y H2 Q) : tW X (.BinOp a op c pos) σ H Q := of_pe (pe_op opr_w pe_w pe_w) h
theorem w_cmp {op : CmpOp} (hm : behindInMarks op c = false) (h : tW X a σ H fun x H1 => tW X c σ H1 fun y H2 => OpW X (compareOp op) x y H2 Q) : tW X (.Compare a [op] [c] pos) σ H Q := of_pe (pe_cmpR opr_w pe_w pe_w hm) h
theorem w_cmpT {op : CmpOp} {Q : Bool → Hp → Prop} (hm : behindInMarks op c = false) (h : tW X a σ H fun x H1 => tW X c σ H1 fun y H2 => OpW X (compareOp op) x y H2 fun z H3 => ∃ k, z = .bl k ∧ Q k H3) : tWT X (.Compare a [op] [c] pos) σ H Q := of_pt (pt_cmpR opr_w pe_w pe_w hm) h
theorem w_chain {op op' : CmpOp} (hm : behindInMarks op' d = false)
    (h : tW X a σ H fun x H1 => tW X c σ H1 fun y H2 => OpW X (compareOp op) x y H2 fun z H3 => ∃ k, z = .bl k ∧ (if k = true then tW X d σ H3 fun w' H4 => OpW X (compareOp op') y w' H4 Q else Q (.bl false) H3)) : tW X (.Compare a [op, op'] [c, d] pos) σ H Q :=
  of_pe (pe_chain opr_w opr_w pe_w pe_w pe_w hm) h
theorem w_chainT {op op' : CmpOp} {Q : Bool → Hp → Prop} (hm : behindInMarks op' d = false)
    (h : tW X a σ H fun x H1 => tW X c σ H1 fun y H2 => OpW X (compareOp op) x y H2 fun z H3 => ∃ k, z = .bl k ∧ (if k = true then tW X d σ H3 fun w' H4 => OpW X (compareOp op') y w' H4 (fun z H5 => ∃ k, z = .bl k ∧ Q k H5) else (∃ k, (V.bl false) = .bl k ∧ Q k H3))) : tWT X (.Compare a [op, op'] [c, d] pos) σ H Q :=
  of_pt (pt_chain opr_w opr_w pe_w pe_w pe_w hm) h
theorem w_neg (h : tW X a σ H fun x H1 => ∃ i, x = .int i ∧ Q (.int (-i)) H1) : tW X (.UnaryOp .USub a pos) σ H Q := of_pe (pe_un un_neg pe_w) h
theorem w_not (h : tW X a σ H fun x H1 => ∃ c, x = .bl c ∧ Q (.bl (!c)) H1) : tW X (.UnaryOp .Not a pos) σ H Q := of_pe (pe_not pe_w) h
theorem w_notT {Q : Bool → Hp → Prop} (h : tWT X a σ H fun c H1 => Q (!c) H1) : tWT X (.UnaryOp .Not a pos) σ H Q := of_pt (pt_not pt_w) h
theorem w_ite (h : tWT X a σ H fun t H1 => if t = true then tW X c σ H1 Q else tW X d σ H1 Q) : tW X (.IfExp a c d pos) σ H Q := of_pe (pe_ifExp pt_w pe_w pe_w) h
theorem w_one {op : BoolOp} (h : tW X a σ H Q) : tW X (.BoolOp op [a] pos) σ H Q := of_pe (pe_one pe_w) h
theorem w_and (h : tW X a σ H fun x H1 => ∃ k, x = .bl k ∧ if k = true then tW X (.BoolOp .And (c :: es) pos) σ H1 Q else Q (.bl false) H1) : tW X (.BoolOp .And (a :: c :: es) pos) σ H Q := of_pe (pe_and pe_w pe_w) h
theorem w_or (h : tW X a σ H fun x H1 => ∃ k, x = .bl k ∧ if k = true then Q (.bl true) H1 else tW X (.BoolOp .Or (c :: es) pos) σ H1 Q) : tW X (.BoolOp .Or (a :: c :: es) pos) σ H Q := of_pe (pe_or pe_w pe_w) h
/-- and, or as tests, whatever the whole is -/
def tWW (X : Cx) (e : Expr) : TT := fun σ H Q => ∀ (whole : Sem Value) (pins : List (Addr × Obj)) (s : Shared), Inv X pins σ H s → wpAny (model X.prog X.w) X.A (isTrue e X.env whole) (TP X pins σ Q) X.xe s
theorem pw_w : PW X e (tWW X e) := ⟨fun wh pins s _ _ _ I h => h wh pins s I⟩
theorem of_pw {t : TT} {Q : Bool → Hp → Prop} (h : PW X e t) (q : t σ H Q) : tWW X e σ H Q := fun wh pins s I => h.run wh pins s σ H Q I q
theorem w_oneW1 {Q : Bool → Hp → Prop} (h : tWT X a σ H Q) : tWW X (.BoolOp .And [a] pos) σ H Q := of_pw (pw_and1 pt_w) h
theorem w_oneW2 {Q : Bool → Hp → Prop} (h : tWT X a σ H Q) : tWW X (.BoolOp .Or [a] pos) σ H Q := of_pw (pw_or1 pt_w) h
theorem w_andW {Q : Bool → Hp → Prop} (h : tWT X a σ H fun k H1 => if k = true then tWW X (.BoolOp .And (c :: es) pos) σ H1 Q else Q false H1) : tWW X (.BoolOp .And (a :: c :: es) pos) σ H Q := of_pw (pw_and pt_w pw_w) h
theorem w_orW {Q : Bool → Hp → Prop} (h : tWT X a σ H fun k H1 => if k = true then Q true H1 else tWW X (.BoolOp .Or (c :: es) pos) σ H1 Q) : tWW X (.BoolOp .Or (a :: c :: es) pos) σ H Q := of_pw (pw_or pt_w pw_w) h
theorem tWW.t {Q : Bool → Hp → Prop} (h : tWW X e σ H Q) : tWT X e σ H Q := fun pins s I => h _ pins s I
/-- a form whose truth is its value's -/
def plainT : Expr → Bool
  | .UnaryOp .Not _ _ | .BoolOp .. | .IfExp .. | .Compare .. => false
  | _ => true
theorem plainT_ok (h : plainT e = true) (whole : Sem Value) : isTrue e X.env whole = (do let v ← whole; standAt e.pos; holding [v] (truthy v)) := by
  cases e <;> first
    | rfl
    | (cases h; done)
    | (rename_i op _ _; cases op <;> first | rfl | (cases h; done))
theorem w_valT {Q : Bool → Hp → Prop} (hp : plainT e = true) (h : tW X e σ H fun x H1 => ∃ k, x = .bl k ∧ Q k H1) : tWT X e σ H Q := of_pt (pt_val pe_w (plainT_ok hp)) h
theorem w_idx (hs : PlainIx c) (h : tW X a σ H fun x H1 => tW X c σ H1 fun y H2 => IxW X x y H2 Q) : tW X (.Subscript a c pos) σ H Q :=
  of_pe (pe_ix (r := fun x y H Q => IxW X x y H Q) (fun value slice pins s σ H x y v u Q I rx ry h hs => h value slice pins s σ v u I rx ry hs) pe_w pe_w hs) h
def sliceB : Expr → Bool
  | .Slice .. => true
  | _ => false
theorem plainIx (h : sliceB c = false) : PlainIx c := fun o i => by
  cases c <;> first
    | rfl
    | cases h

/-! ### calls -/
theorem callr_w {fv : Value} : CallR X fv (fun vs H Q => CallW X fv vs H Q) := fun pins s σ H xs us Q I r h => h pins s σ us I r
variable {x : Str} {p : Pos}
theorem w_callB {id : String} (hg : Gl X x) (hm : X.mg x = none) (hv : bootBuiltins x = some (.builtin id)) (hn : x ≠ "__name__") (hd : (x == ("__debug__" : Str)) = false) (hs : (e :: es).all (fun e => !starB e) = true)
    (h : tWA X (e :: es) σ H fun vs H1 => CallW X (.builtin id) vs H1 Q) : tW X (.Call (.Name x p) (e :: es) [] pos) σ H Q := by
  rw [List.all_cons, Bool.and_eq_true] at hs
  have h1 : starB e = false := by
    cases q : starB e with
    | false => rfl
    | true => rw [q] at hs; cases hs.1
  exact of_pe (pe_callB callr_w hg hm hv pa_w hn hd (star_cons h1) (star_any hs.2)) h
theorem w_callTy {T : String} (hg : Gl X x) (hm : X.mg x = none) (hv : bootBuiltins x = some (.type T)) (hn : x ≠ "__name__") (hd : (x == ("__debug__" : Str)) = false) (hs : (e :: es).all (fun e => !starB e) = true)
    (h : tWA X (e :: es) σ H fun vs H1 => CallW X (.type T) vs H1 Q) : tW X (.Call (.Name x p) (e :: es) [] pos) σ H Q := by
  rw [List.all_cons, Bool.and_eq_true] at hs
  have h1 : starB e = false := by
    cases q : starB e with
    | false => rfl
    | true => rw [q] at hs; cases hs.1
  exact of_pe (pe_callTy callr_w hg hm hv pa_w hn hd (star_cons h1) (star_any hs.2)) h
/-- a call of a def of the text -/
theorem w_callF {fa : Addr} (hg : Gl X x) (hm : X.mg x = some (.ref fa)) (hk : PySem.W.keepIn X.K (.ref fa) = true) (hd : (x == ("__debug__" : Str)) = false) (hs : (e :: es).all (fun e => !starB e) = true)
    (h : tWA X (e :: es) σ H fun vs H1 => CallW X (.ref fa) vs H1 Q) : tW X (.Call (.Name x p) (e :: es) [] pos) σ H Q := by
  rw [List.all_cons, Bool.and_eq_true] at hs
  have h1 : starB e = false := by
    cases q : starB e with
    | false => rfl
    | true => rw [q] at hs; cases hs.1
  intro pins s I
  refine wpAny_Call_Name_kw (ld_glob I hg hm (PySem.W.callWith_K (h₀ := X.base) I.ok.mod.kin hk (thn (h pos pins s I) fun us s1 hq => ?_) (star_cons h1) (star_any hs.2)) hd)
  obtain ⟨vs, H1, I1, r, q⟩ := hq
  exact ⟨I1.kIn, q pins s1 σ us I1 r⟩
theorem w_callF0 {fa : Addr} (hg : Gl X x) (hm : X.mg x = some (.ref fa)) (hk : PySem.W.keepIn X.K (.ref fa) = true) (hd : (x == ("__debug__" : Str)) = false)
    (h : CallW X (.ref fa) [] H Q) : tW X (.Call (.Name x p) [] [] pos) σ H Q := fun pins s I =>
  wpAny_Call_Name_kw (ld_glob I hg hm (PySem.W.callWith_K0 I.kIn hk (h pins s σ [] I .nil)) hd)
/-! ### slices -/
def tWO (X : Cx) (e : Option Expr) : TO := match e with
  | none => tNoPart
  | some e => tPart (tW X e)
theorem po_w {o : Option Expr} : PO X o (tWO X o) := by
  cases o with
  | none => exact po_none
  | some e => exact po_some pe_w
theorem w_sli {lo hi : Option Expr} {p2 : Pos} (h : tW X a σ H fun x H1 => tWO X lo σ H1 fun l H2 => tWO X hi σ H2 fun u H3 => rSlA X.K x l u H3 Q ∨ rSlL X.K x l u H3 Q) : tW X (.Subscript a (.Slice lo hi none p2) pos) σ H Q :=
  of_pe (pe_slice (SlR.or sl_tupA sl_list) pe_w po_w po_w) h
/-! ### list(range(..)), tuple(range(..)) -/
theorem w_rg1 {tp : Bool} {p1 p2 pos1 : Pos} (hc : X.calm = true) (hr : Gl X "range") (hrm : X.mg "range" = none) (hs : starB a = false) (hg : Gl X (if tp = true then "tuple" else "list")) (hm : X.mg (if tp = true then "tuple" else "list") = none)
    (h : tW X a σ H fun x H1 => ∃ n, x = .int n ∧ RgOk 0 n ∧ ∀ q, H1 q = none → Q (.ref q) (upd H1 q (if tp = true then .tup (rgV 0 n) else .lst (rgV 0 n)))) :
    tW X (.Call (.Name (if tp = true then "tuple" else "list") p2) [.Call (.Name "range" p1) [a] [] pos1] [] pos) σ H Q := by
  cases tp with
  | true => exact of_pe (pe_tupRg hc hg hm (prg_1 hr hrm pe_w (star_cons hs))) h
  | false => exact of_pe (pe_listRg hc hg hm (prg_1 hr hrm pe_w (star_cons hs))) h
theorem w_rg2 {tp : Bool} {p1 p2 pos1 : Pos} (hcm : X.calm = true) (hr : Gl X "range") (hrm : X.mg "range" = none) (hs : starB a = false) (hs' : starB c = false) (hg : Gl X (if tp = true then "tuple" else "list")) (hm : X.mg (if tp = true then "tuple" else "list") = none)
    (h : tW X a σ H fun x H1 => tW X c σ H1 fun y H2 => ∃ i j, x = .int i ∧ y = .int j ∧ RgOk i j ∧ ∀ q, H2 q = none → Q (.ref q) (upd H2 q (if tp = true then .tup (rgV i j) else .lst (rgV i j)))) :
    tW X (.Call (.Name (if tp = true then "tuple" else "list") p2) [.Call (.Name "range" p1) [a, c] [] pos1] [] pos) σ H Q := by
  have ha : (backTo pos1 (starEach [c] X.env)).any (·.1) = false := star_any (by rw [List.all_cons, hs']; rfl)
  cases tp with
  | true => exact of_pe (pe_tupRg hcm hg hm (prg_2 hr hrm pe_w pe_w (star_cons hs) (star_cons hs') ha)) h
  | false => exact of_pe (pe_listRg hcm hg hm (prg_2 hr hrm pe_w pe_w (star_cons hs) (star_cons hs') ha)) h
end
end Ev
end
section
set_option Elab.async false
set_option linter.all false
set_option maxRecDepth 100000
set_option maxHeartbeats 2000000
/-! EvChk: when a term of the small language is a piece of Python's syntax; what a context must give. -/
noncomputable section
namespace Ev
open PySem L2
set_option autoImplicit false
variable {XE : XP}

def visB (sc : Scope) (x : Str) : Bool := match sc.names.lookup x with
  | some .local | some .cell | some .free => true
  | _ => false
def locB (sc : Scope) (x : Str) : Bool := match sc.names.lookup x with
  | some .local | some .cell => true
  | _ => false
def gloB (sc : Scope) (x : Str) : Bool := match sc.names.lookup x with
  | some .globalImplicit => true
  | _ => false
def okN (x : Str) : Bool := !(x == ("__debug__" : Str)) && (!(x == ("__classdict__" : Str)) && !(x == ("__name__" : Str)))
/-- the names of defs and constants by number; the names that are built-in -/
structure Tb where
  fnm : List Str
  cnm : List Str
  ers : List Nat := []
  hk : Bool := false
  ckl : Nat → List Str → Arguments → Scope → Expr → Bool := fun _ _ _ _ _ => false
  fpn : Nat → List Str := fun _ => []
/-- without lambdas -/
def Tb.low (tb : Tb) : Tb := { tb with hk := false, ckl := fun _ _ _ _ _ => false }
def Tb.at_ (tb : Tb) (b : Bool) : Tb := { tb with hk := b }
def atB (l : List Str) (i : Nat) (x : Str) : Bool := match nth l i with
  | some y => eqS y x
  | none => false
theorem atB_ok {l : List Str} {i : Nat} {x : Str} (h : atB l i x = true) : l[i]? = some x := by
  unfold atB at h
  rw [nth_eq] at h
  cases e : l[i]? with
  | none => rw [e] at h; cases h
  | some y =>
    rw [e] at h
    rw [eqS_iff.mp h]
def conB (w : W) (c : Const) : Bool := match w with
  | .non => (match c with
    | .none => true
    | _ => false)
  | .bl b => (match c with
    | .bool d => b == d
    | _ => false)
  | .int i => (match c with
    | .int j => eqI i j
    | _ => false)
  | .str x => (match c with
    | .str y => eqS x y
    | _ => false)
  | _ => false
def opB (o : Op2) (p : Operator) : Bool := match o, p with
  | .add, .Add | .sub, .Sub | .mul, .Mult | .fdiv, .FloorDiv | .mod, .Mod | .pow, .Pow | .bor, .BitOr | .band, .BitAnd => true
  | _, _ => false
theorem opB_ok {o : Op2} {p : Operator} (h : opB o p = true) : opF o = binaryOp p := by
  unfold opB at h
  split at h <;> first
    | rfl
    | cases h
def cmB (o : Op2) (p : CmpOp) : Bool := match o, p with
  | .eq, .Eq | .ne, .NotEq | .lt, .Lt | .le, .LtE | .gt, .Gt | .ge, .GtE | .is, .Is | .isnot, .IsNot | .isin, .In | .notin, .NotIn => true
  | _, _ => false
theorem cmB_ok {o : Op2} {p : CmpOp} (h : cmB o p = true) : opF o = compareOp p := by
  unfold cmB at h
  split at h <;> first
    | rfl
    | cases h
/-- the name of a built-in -/
def biN : Bi → Str
  | .len => "len"
  | .int => "int"
  | .repr => "repr"
  | .tuple => "tuple"
  | .list => "list"
  | .sum => "sum"
  | .sorted => "sorted"
  | .dict => "dict"
  | .min2 => "min"
  | .max2 => "max"
  | .abs => "abs"
  | .all => "all"
  | .any => "any"
  | _ => "isinstance"
def allBi : List Str := ["len", "int", "repr", "tuple", "list", "sum", "sorted", "dict", "min", "max", "abs", "isinstance", "range", "enumerate", "zip", "bool", "str", "all", "any", "ValueError", "LookupError", "OverflowError", "TypeError"]
def tyN (t : String) : Str := Str.ofString t
/-! ### pieces of syntax, taken apart -/
def asName : Expr → Option Str
  | .Name x _ => some x
  | _ => none
theorem asName_ok {e : Expr} {x : Str} (h : asName e = some x) : ∃ p, e = .Name x p := by
  unfold asName at h
  split at h
  · cases h; exact ⟨_, rfl⟩
  · cases h
def asCon : Expr → Option Const
  | .Constant c _ _ => some c
  | _ => none
theorem asCon_ok {e : Expr} {x : Const} (h : asCon e = some x) : ∃ p q, e = .Constant x p q := by
  unfold asCon at h
  split at h
  · cases h; exact ⟨_, _, rfl⟩
  · cases h
def asTup : Expr → Option (List Expr)
  | .Tuple es _ _ => some es
  | _ => none
theorem asTup_ok {e : Expr} {x : List Expr} (h : asTup e = some x) : ∃ p q, e = .Tuple x p q := by
  unfold asTup at h
  split at h
  · cases h; exact ⟨_, _, rfl⟩
  · cases h
def asLst : Expr → Option (List Expr)
  | .List es _ => some es
  | _ => none
theorem asLst_ok {e : Expr} {x : List Expr} (h : asLst e = some x) : ∃ p, e = .List x p := by
  unfold asLst at h
  split at h
  · cases h; exact ⟨_, rfl⟩
  · cases h
def asDct : Expr → Option (List (Option Expr) × List Expr)
  | .Dict ks vs _ => some (ks, vs)
  | _ => none
theorem asDct_ok {e : Expr} {x : List (Option Expr) × List Expr} (h : asDct e = some x) : ∃ p, e = .Dict x.1 x.2 p := by
  unfold asDct at h
  split at h
  · cases h; exact ⟨_, rfl⟩
  · cases h
def asBin : Expr → Option (Expr × Operator × Expr)
  | .BinOp a o b _ => some (a, o, b)
  | _ => none
theorem asBin_ok {e : Expr} {x : Expr × Operator × Expr} (h : asBin e = some x) : ∃ p, e = .BinOp x.1 x.2.1 x.2.2 p := by
  unfold asBin at h
  split at h
  · cases h; exact ⟨_, rfl⟩
  · cases h
def asCmp : Expr → Option (Expr × List CmpOp × List Expr)
  | .Compare a o b _ => some (a, o, b)
  | _ => none
theorem asCmp_ok {e : Expr} {x : Expr × List CmpOp × List Expr} (h : asCmp e = some x) : ∃ p, e = .Compare x.1 x.2.1 x.2.2 p := by
  unfold asCmp at h
  split at h
  · cases h; exact ⟨_, rfl⟩
  · cases h
def asUn : Expr → Option (UnaryOp × Expr)
  | .UnaryOp o a _ => some (o, a)
  | _ => none
theorem asUn_ok {e : Expr} {x : UnaryOp × Expr} (h : asUn e = some x) : ∃ p, e = .UnaryOp x.1 x.2 p := by
  unfold asUn at h
  split at h
  · cases h; exact ⟨_, rfl⟩
  · cases h
def asBool : Expr → Option (BoolOp × List Expr)
  | .BoolOp o a _ => some (o, a)
  | _ => none
theorem asBool_ok {e : Expr} {x : BoolOp × List Expr} (h : asBool e = some x) : ∃ p, e = .BoolOp x.1 x.2 p := by
  unfold asBool at h
  split at h
  · cases h; exact ⟨_, rfl⟩
  · cases h
def asIf : Expr → Option (Expr × Expr × Expr)
  | .IfExp c a b _ => some (c, a, b)
  | _ => none
theorem asIf_ok {e : Expr} {x : Expr × Expr × Expr} (h : asIf e = some x) : ∃ p, e = .IfExp x.1 x.2.1 x.2.2 p := by
  unfold asIf at h
  split at h
  · cases h; exact ⟨_, rfl⟩
  · cases h
def asSub : Expr → Option (Expr × Expr)
  | .Subscript a b _ => some (a, b)
  | _ => none
theorem asSub_ok {e : Expr} {x : Expr × Expr} (h : asSub e = some x) : ∃ p, e = .Subscript x.1 x.2 p := by
  unfold asSub at h
  split at h
  · cases h; exact ⟨_, rfl⟩
  · cases h
def asSli : Expr → Option (Option Expr × Option Expr × Option Expr)
  | .Slice a b c _ => some (a, b, c)
  | _ => none
theorem asSli_ok {e : Expr} {x : Option Expr × Option Expr × Option Expr} (h : asSli e = some x) : ∃ p, e = .Slice x.1 x.2.1 x.2.2 p := by
  unfold asSli at h
  split at h
  · cases h; exact ⟨_, rfl⟩
  · cases h
/-- a call of a name, without keywords -/
def asCall : Expr → Option (Str × List Expr)
  | .Call f as ks _ => (match asName f with
    | some x => (match ks with
      | [] => some (x, as)
      | _ => none)
    | none => none)
  | _ => none
/-- keywords ks, each parameter's place among them -/
def kwB (ks : List Str) (is : List Nat) (ps : List Str) : Bool := !ps.isEmpty && (decide ks.Nodup && (decide (∀ k ∈ ks, k ∈ ps) && decide (is.map (fun i => ks[i]?) = ps.map some)))
/-- f(a, b), all of them names -/
def asIs (e : Expr) : Option (Str × Str × Str) := match asCall e with
  | some (x, [a, b]) => (match asName a with
    | some y => (match asName b with
      | some z => some (x, y, z)
      | none => none)
    | none => none)
  | _ => none
def errNm (tb : Tb) (d : Nat) (z : Str) : Bool := tb.ers.contains d && (match nth errs d with
  | some p => eqS p.1 z
  | none => false)
def errIs (tb : Tb) (d : Nat) (z : Str) : Bool := cond (Nat.blt 99 d) (match nth famL (d - 100) with
  | some p => eqS p.1 z
  | none => false) (errNm tb d z)
/-- one key, a text -/
def keyB (x : Str) (ks : List (Option Expr)) : Bool := match ks with
  | [some k] => (match asCon k with
    | some (.str y) => eqS x y
    | _ => false)
  | _ => false
/-- whole numbers, written out -/
def intsB : List Int → List Expr → Bool
  | [], fs => fs.isEmpty
  | i :: is, fs => (match fs with
    | e :: fs => (match asCon e with
      | some (.int j) => eqI i j
      | _ => false) && intsB is fs
    | [] => false)
def errF (c : Nat) : List Str := match nth errs c with
  | some p => p.2
  | none => []
def kwS : List Keyword → Option (List Str × List Expr)
  | [] => some ([], [])
  | k :: ks => match k.arg with
    | some n => (match kwS ks with
      | some (ns, es) => some (n :: ns, k.value :: es)
      | none => none)
    | none => none
def asCallK : Expr → Option (Str × List Str × List Expr)
  | .Call f as ks _ => (match asName f with
    | some x => (match as with
      | [] => (match kwS ks with
        | some (ns, es) => some (x, ns, es)
        | none => none)
      | _ => none)
    | none => none)
  | _ => none
theorem asCall_ok {e : Expr} {x : Str × List Expr} (h : asCall e = some x) : ∃ p q, e = .Call (.Name x.1 p) x.2 [] q := by
  cases e with
  | Call f as ks pos =>
    unfold asCall at h
    dsimp only at h
    cases hf : asName f with
    | none => rw [hf] at h; cases h
    | some y =>
      rw [hf] at h
      obtain ⟨p, rfl⟩ := asName_ok hf
      cases ks with
      | nil => cases h; exact ⟨_, _, rfl⟩
      | cons _ _ => cases h
  | _ => cases h
/-- x.n -/
def asAttr : Expr → Option (Str × Str)
  | .Attribute (.Name x _) n _ => some (x, n)
  | _ => none
theorem asIs_ok {e : Expr} {x y z : Str} (h : asIs e = some (x, y, z)) : ∃ p q r s, e = .Call (.Name x p) [.Name y q, .Name z r] [] s := by
  unfold asIs at h
  cases hc : asCall e with
  | none => rw [hc] at h; cases h
  | some w =>
    obtain ⟨x', es⟩ := w
    obtain ⟨p, s, rfl⟩ := asCall_ok hc
    rw [hc] at h
    cases es with
    | nil => cases h
    | cons a es =>
      cases es with
      | nil => cases h
      | cons b es =>
        cases es with
        | cons _ _ => cases h
        | nil =>
          dsimp only at h
          cases ha : asName a with
          | none => rw [ha] at h; cases h
          | some y' =>
            cases hb : asName b with
            | none => rw [ha, hb] at h; cases h
            | some z' =>
              rw [ha, hb] at h
              cases h
              obtain ⟨q, rfl⟩ := asName_ok ha
              obtain ⟨r, rfl⟩ := asName_ok hb
              exact ⟨p, q, r, s, rfl⟩
theorem asAttr_ok {e : Expr} {y : Str × Str} (h : asAttr e = some y) : ∃ p q, e = .Attribute (.Name y.1 p) y.2 q := by
  unfold asAttr at h
  split at h
  · cases h
    exact ⟨_, _, rfl⟩
  · cases h
/-- x(lambda: e) -/
def asHear : Expr → Option (Str × Arguments × Expr × Scope)
  | .Call (.Name x _) [.Lambda ps bd sp _] [] _ => some (x, ps, bd, sp)
  | _ => none
theorem asHear_ok {e : Expr} {y : Str × Arguments × Expr × Scope} (h : asHear e = some y) : ∃ p lp q, e = .Call (.Name y.1 p) [.Lambda y.2.1 y.2.2.1 y.2.2.2 lp] [] q := by
  unfold asHear at h
  split at h
  · cases h
    exact ⟨_, _, _, rfl⟩
  · cases h
/-- lambda: e -/
def asLam : Expr → Option (Arguments × Expr × Scope)
  | .Lambda ps bd sp _ => some (ps, bd, sp)
  | _ => none
theorem asLam_ok {e : Expr} {y : Arguments × Expr × Scope} (h : asLam e = some y) : ∃ lp, e = .Lambda y.1 y.2.1 y.2.2 lp := by
  unfold asLam at h
  split at h
  · cases h
    exact ⟨_, rfl⟩
  · cases h
/-- names of cells -/
def cellsB (sc : Scope) (xs : List Str) : Bool := xs.all (fun x => match sc.names.lookup x with
  | some .cell => true
  | some .free => true
  | _ => false) && decide xs.Nodup
/-- a def's scope, or a lambda's: no comprehension's -/
def topSc (sc : Scope) : Bool := (sc.names.lookup (".0" : Str)).isNone
/-- the names that are captured -/
def capsN (N : List Str) : List Nat → Option (List Str)
  | [] => some []
  | i :: r => (match nth N i with
    | some x => (capsN N r).map (x :: ·)
    | none => none)
/-- a lambda's names: captured ones, globals, at most the one with a default -/
def lamSc (sc sp : Scope) (xs : List Str) (ps : Arguments) : Bool := (match sp.kind with | .function => true | _ => false) && (!sp.isCoroutine && (!sp.isGenerator && (topSc sp && (sp.names.all (fun y => match y.2 with
  | .cell => false
  | .local => ps.args.any (fun a => eqS a.arg y.1) && !xs.any (fun x => eqS x y.1)
  | .free => xs.any (fun x => eqS x y.1) && (match sc.names.lookup y.1 with
    | some .cell => true
    | some .free => true
    | _ => false)
  | _ => true) && (xs.all (fun x => visB sc x && (okN x && (match sp.names.lookup x with
  | some .free => true
  | _ => false))) && decide xs.Nodup)))))
/-- its parameters: none, or one with a number for its default -/
def lamP (ps : Arguments) (sp : Scope) : Bool := ps.posonlyargs.isEmpty && (ps.vararg.isNone && (ps.kwonlyargs.isEmpty && (ps.kw_defaults.isEmpty && (ps.kwarg.isNone && (match ps.args, ps.defaults with
  | [], [] => true
  | [a], [.Constant (.int _) _ _] => (match sp.names.lookup a.arg with
    | some .local => true
    | _ => false)
  | [a], [] => (match sp.names.lookup a.arg with
    | some .local => true
    | _ => false)
  | _, _ => false)))))
/-- x.n(e) -/
def asMeth : Expr → Option (Expr × Str × Expr)
  | .Call (.Attribute (.Name x p) n ap) [e] [] cp => cond (ap.endLine == cp.line) (some (.Name x p, n, e)) none
  | _ => none
theorem asMeth_ok {e : Expr} {y : Expr × Str × Expr} (h : asMeth e = some y) : ∃ x p ap cp, e = .Call (.Attribute (.Name x p) y.2.1 ap) [y.2.2] [] cp ∧ y.1 = .Name x p ∧ (ap.endLine == cp.line) = true := by
  unfold asMeth at h
  split at h
  · rename_i x p n ap a cp
    cases hb : (ap.endLine == cp.line) with
    | false => rw [hb] at h; cases h
    | true =>
      rw [hb] at h
      cases h
      exact ⟨x, p, ap, cp, rfl, rfl, hb⟩
  · cases h
def asLc : Expr → Option (Expr × List Comprehension × Scope)
  | .ListComp e gs sc _ => some (e, gs, sc)
  | _ => none
theorem asLc_ok {e : Expr} {x : Expr × List Comprehension × Scope} (h : asLc e = some x) : ∃ p, e = .ListComp x.1 x.2.1 x.2.2 p := by
  unfold asLc at h
  split at h
  · cases h; exact ⟨_, rfl⟩
  · cases h
def asStar : Expr → Option Expr
  | .Starred e _ => some e
  | _ => none
theorem asStar_ok {e : Expr} {x : Expr} (h : asStar e = some x) : ∃ p, e = .Starred x p := by
  unfold asStar at h
  split at h
  · cases h; exact ⟨_, rfl⟩
  · cases h
def setB : Expr → Bool
  | .Set .. => true
  | _ => false
def tupB : Expr → Bool
  | .Tuple .. => true
  | _ => false
/-- a call of a built-in name with arguments -/
def calls (sc : Scope) (n : Str) (e : Expr) : Option (List Expr) := match asCall e with
  | some (x, as) => cond (eqS x n && gloB sc x) (some as) none
  | none => none
theorem calls_ok {sc : Scope} {n : Str} {e : Expr} {as : List Expr} (h : calls sc n e = some as) : ∃ p q, e = .Call (.Name n p) as [] q ∧ gloB sc n = true := by
  unfold calls at h
  cases hc : asCall e with
  | none => rw [hc] at h; cases h
  | some y =>
    rw [hc] at h
    obtain ⟨x, bs⟩ := y
    dsimp only at h
    cases hb : eqS x n && gloB sc x with
    | false => rw [hb] at h; cases h
    | true =>
      rw [hb] at h
      cases h
      rw [Bool.and_eq_true] at hb
      obtain ⟨p, q, e1⟩ := asCall_ok hc
      have e2 := eqS_iff.mp hb.1
      subst e2
      exact ⟨p, q, e1, hb.2⟩

mutual
def chkG (N : List Str) (sc : Scope) (t : Tg) (e : Expr) : Bool := match t with
  | .nm i => (match asName e with
    | some x => atB N i x && locB sc x
    | none => false)
  | .tp ts => (match asTup e with
    | some es => chkGs N sc ts es
    | none => false)
def chkGs (N : List Str) (sc : Scope) (ts : List Tg) (es : List Expr) : Bool := match ts with
  | [] => es.isEmpty
  | t :: ts => (match es with
    | [] => false
    | e :: es => !starB e && (chkG N sc t e && chkGs N sc ts es))
end
def oneB : Exs → Bool
  | .nil => true
  | .cons _ .nil => true
  | _ => false
/-- the row of slots of a comprehension's own names -/
def ownOf (N : List Str) (own : List Nat) : List (Str × Nat) := own.filterMap fun i => (nth N i).map fun x => (x, i)
section
variable (tb : Tb) (N : List Str)
mutual
def chkE (sc : Scope) (x : Ex) (e : Expr) : Bool := match x with
  | .bad => true
  | .var i => (match asName e with
    | some x => atB N i x && (visB sc x && okN x)
    | none => false)
  | .con w => (match asCon e with
    | some c => conB w c
    | none => false)
  | .glo k => (match asName e with
    | some x => atB tb.cnm k x && (gloB sc x && okN x)
    | none => false)
  | .tup es => (match asTup e with
    | some fs => chkL sc es fs
    | none => false)
  | .lst es => (match asLst e with
    | some fs => chkL sc es fs
    | none => false)
  | .tupS l ms es => cond l (match asLst e with
    | some fs => chkLS sc ms es fs
    | none => false) (match asTup e with
    | some fs => chkLS sc ms es fs
    | none => false)
  | .lc2 own own1 e1 g it g1 it1 => (match asLc e with
    | some (e', [⟨g', it', [], 0⟩, ⟨g1', it1', [], 0⟩], scope) => !topSc scope && blkC N sc scope (ownOf N own) && (own1.all (fun i => (ownOf N own).any fun p => Nat.beq p.2 i) && ((tIx g1).all (fun i => own1.elem i) && (chkE scope e1 e' && (chkG N scope g g' && (chkI sc g' it it' && (chkG N scope g1 g1' && chkI scope g1' it1 it1'))))))
    | _ => false)
  | .lamr k caps => (match asLam e with
    | some (ps, bd, sp) => tb.hk && (topSc sc && (match capsN N caps with
      | some xs => lamSc sc sp xs ps && (lamP ps sp && tb.ckl k xs ps sp bd)
      | none => false))
    | none => false)
  | .callC j cs es => (match asCall e with
    | some (x, fs) => atB tb.fnm j x && (gloB sc x && (okN x && (tb.hk && (topSc sc && ((match capsN N cs with
      | some xs => cellsB sc xs
      | none => false) && (!fs.isEmpty && chkL sc es fs))))))
    | none => false)
  | .isE i d => (match asIs e with
    | some (x, y, z) => eqS x "isinstance" && (gloB sc x && (atB N i y && (visB sc y && (okN y && (gloB sc z && (okN z && errIs tb d z))))))
    | none => false)
  | .callK j is es => (match asCallK e with
    | some (x, ks, fs) => atB tb.fnm j x && (gloB sc x && (okN x && (kwB ks is (tb.fpn j) && chkL sc es fs)))
    | none => false)
  | .mkE kw c is es => (match kw with
    | false => (match asCall e with
      | some (x, fs) => errNm tb c x && (gloB sc x && (okN x && chkL sc es fs))
      | none => false)
    | true => (match asCallK e with
      | some (x, ks, fs) => errNm tb c x && (gloB sc x && (okN x && (kwB ks is (errF c) && chkL sc es fs)))
      | none => false))
  | .dsp x is => (match asDct e with
    | some (ks, [v]) => keyB x ks && (match asTup v with
      | some fs => intsB is fs
      | none => false)
    | _ => false)
  | .dnew => (match asDct e with
    | some ([], []) => true
    | _ => false)
  | .op o a b => (match asBin e with
    | some (a', p, b') => opB o p && (chkE sc a a' && chkE sc b b')
    | none => (match asCmp e with
      | some (a', [p], [b']) => cmB o p && (!behindInMarks p b' && (chkE sc a a' && chkE sc b b'))
      | _ => false))
  | .chain o o' a b c => (match asCmp e with
    | some (a', [p, p'], [b', c']) => cmB o p && (cmB o' p' && (!behindInMarks p' c' && (chkE sc a a' && (chkE sc b b' && chkE sc c c'))))
    | _ => false)
  | .neg a => (match asUn e with
    | some (.USub, a') => chkE sc a a'
    | _ => false)
  | .not a => (match asUn e with
    | some (.Not, a') => chkE sc a a'
    | _ => false)
  | .and es => (match asBool e with
    | some (.And, f :: fs) => chkL sc es (f :: fs)
    | _ => false)
  | .or es => (match asBool e with
    | some (.Or, f :: fs) => chkL sc es (f :: fs)
    | _ => false)
  | .ite c a b => (match asIf e with
    | some (c', a', b') => chkE sc c c' && (chkE sc a a' && chkE sc b b')
    | none => false)
  | .sli a lo hi => (match asSub e with
    | some (a', s) => (match asSli s with
      | some (lo', hi', none) => chkE sc a a' && (chkO sc lo lo' && chkO sc hi hi')
      | _ => false)
    | none => false)
  | .idx a i => (match asSub e with
    | some (a', i') => !sliceB i' && (chkE sc a a' && chkE sc i i')
    | none => false)
  | .call j es => (match asCall e with
    | some (x, fs) => atB tb.fnm j x && (gloB sc x && (okN x && chkL sc es fs))
    | none => false)
  | .bi t es => (match calls sc (biN t) e with
    | some fs => (match biT t with
      | none => chkL sc es fs
      | some n => (match fs with
        | [f, u] => chkL sc es [f] && (match asName u with
          | some x => eqS x (tyN n) && gloB sc x
          | none => false)
        | _ => false))
    | none => false)
  | .mth m a es => (match asMeth e with
    | some (o, n, x) => eqS n "index" && ((match m with
      | .index => true
      | _ => false) && ((match a with
      | .glo _ => true
      | .var _ => true
      | _ => false) && (!starB x && (chkE sc a o && chkL sc es [x]))))
    | none => false)
  | .draw m l => (match calls sc "_law_draw" e with
    | some [m', l'] => !starB m' && (!starB l' && (chkE sc m m' && chkE sc l l'))
    | _ => false)
  | .conv tp it => (match calls sc (if tp = true then "tuple" else "list") e with
    | some [f] => (match calls sc "range" f with
      | some fs => chkR tp sc it fs
      | none => false)
    | _ => false)
  | .lc own e1 g it ifs => (match asLc e with
    | some (e', [⟨g', it', ifs', 0⟩], scope) => !topSc scope && blkC N sc scope (ownOf N own) && (chkE scope e1 e' && (chkG N scope g g' && (chkI sc g' it it' && (chkL scope ifs ifs' && oneB ifs))))
    | _ => false)
  | .fnv j => (match asName e with
    | some x => atB tb.fnm j x && (gloB sc x && okN x)
    | none => false)
  | .callv i es => (match asCall e with
    | some (x, fs) => atB N i x && (visB sc x && (okN x && chkL sc es fs))
    | none => false)
  | .fld i y => (match asAttr e with
    | some (x, n) => eqS n y && (atB N i x && (visB sc x && okN x))
    | none => false)
  | .hear j k caps => (match asHear e with
    | some (x, ps, bd, sp) => atB tb.fnm j x && (gloB sc x && (okN x && (tb.hk && (topSc sc && (match capsN N caps with
      | some xs => lamSc sc sp xs ps && (lamP ps sp && tb.ckl k xs ps sp bd)
      | none => false)))))
    | none => false)
def chkL (sc : Scope) (es : Exs) (fs : List Expr) : Bool := match es with
  | .nil => fs.isEmpty
  | .cons e es => (match fs with
    | [] => false
    | f :: fs => !starB f && (chkE sc e f && chkL sc es fs))
def chkLS (sc : Scope) (ms : List Bool) (es : Exs) (fs : List Expr) : Bool := match es with
  | .nil => fs.isEmpty
  | .cons e es => (match fs with
    | [] => false
    | f :: fs => cond (ms.headD false) (match asStar f with
      | some f => chkE sc e f
      | none => false) (!starB f && chkE sc e f) && chkLS sc ms.tail es fs)
def chkO (sc : Scope) (o : Option Ex) (p : Option Expr) : Bool := match o with
  | none => p.isNone
  | some e => (match p with
    | some f => chkE sc e f
    | none => false)
/-- the arguments of range -/
def chkR (tp : Bool) (sc : Scope) (it : It) (fs : List Expr) : Bool := match it with
  | .rng3 a b c => !tp && (match fs with
    | [a', b', c'] => !starB a' && (!starB b' && (!starB c' && (chkE sc a a' && (chkE sc b b' && chkE sc c c'))))
    | _ => false)
  | .rng1 a => (match fs with
    | [a'] => !starB a' && chkE sc a a'
    | _ => false)
  | .rng2 a b => (match fs with
    | [a', b'] => !starB a' && (!starB b' && (chkE sc a a' && chkE sc b b'))
    | _ => false)
  | _ => false
def chkI (sc : Scope) (tg : Expr) (it : It) (e : Expr) : Bool := !setB e && (match it with
  | .seq x => chkE sc x e
  | .txt x => chkE sc x e
  | .rng1 a => (match calls sc "range" e with
    | some [a'] => !starB a' && chkE sc a a'
    | _ => false)
  | .rng2 a b => (match calls sc "range" e with
    | some [a', b'] => !starB a' && (!starB b' && (chkE sc a a' && chkE sc b b'))
    | _ => false)
  | .rng3 a b c => (match calls sc "range" e with
    | some [a', b', c'] => !starB a' && (!starB b' && (!starB c' && (chkE sc a a' && (chkE sc b b' && chkE sc c c'))))
    | _ => false)
  | .enum x => tupB tg && (match calls sc "enumerate" e with
    | some [a'] => !starB a' && chkE sc x a'
    | _ => false)
  | .zip a b => tupB tg && (match calls sc "zip" e with
    | some [a', b'] => !starB a' && (!starB b' && (chkE sc a a' && chkE sc b b'))
    | _ => false)
  | .enumZip a b => tupB tg && (match calls sc "enumerate" e with
    | some [z] => (match calls sc "zip" z with
      | some [a', b'] => !starB a' && (!starB b' && (chkE sc a a' && chkE sc b b'))
      | _ => false)
    | _ => false))
end
end

/-! ### contexts -/
theorem lookup_free {sc : Scope} : ∀ {names : List (Str × NameKind)} {x : Str}, names.lookup x = some .free →
    (names.map fun (n, k) => if (k == NameKind.free && sc.kind == .function && sc.names.lookup n == some .cell) then (n, NameKind.cell) else (n, k)).lookup x = some .free ∨
    (names.map fun (n, k) => if (k == NameKind.free && sc.kind == .function && sc.names.lookup n == some .cell) then (n, NameKind.cell) else (n, k)).lookup x = some .cell
  | [], _, h => by simp at h
  | (n, k) :: r, x, h => by
    have ih := @lookup_free sc r x
    rw [List.map_cons]
    cases hx : x == n with
    | true =>
      simp only [List.lookup_cons, hx] at h
      cases h
      dsimp only
      split
      · exact .inr (by simp [List.lookup_cons, hx])
      · exact .inl (by simp [List.lookup_cons, hx])
    | false =>
      simp only [List.lookup_cons, hx] at h
      dsimp only
      split
      · rw [List.lookup_cons, hx]; exact ih h
      · rw [List.lookup_cons, hx]; exact ih h
/-- arguments at a call: known values, and things handed over, which no slot owns for the while -/
inductive ArgsR (f : Fm) (g : Gh) (H : Hp) (sl : Sl) (σ : St) : List R → List V → List Addr → Prop
  | nil : ArgsR f g H sl σ [] [] []
  | frz {w : W} {v : V} {rs : List R} {vs : List V} {as : List Addr} : RV f.K f.G g w v → ArgsR f g H sl σ rs vs as → ArgsR f g H sl σ ((w, false) :: rs) (v :: vs) as
  | own {w : W} {a : Addr} {rs : List R} {vs : List V} {as : List Addr} : OA f.K f.G g H w a → g.F a = none → a ∉ dAdr g.D → (f.H0 a = none ∨ a ∈ f.IO) → (∀ (i : Nat) u, sl[i]? = some (some (u, true)) → σ[i]? ≠ some (some (.ref a))) → a ∉ as →
      ArgsR f g H sl σ rs vs as → ArgsR f g H sl σ ((w, true) :: rs) (.ref a :: vs) (a :: as)
/-- what became of the things handed over -/
inductive TmR (f : Fm) (g : Gh) (H : Hp) : List Addr → List W → Prop
  | nil : TmR f g H [] []
  | cons {a : Addr} {w : W} {as : List Addr} {ws : List W} : OA f.K f.G g H w a → g.F a = none → a ∉ dAdr g.D → TmR f g H as ws → TmR f g H (a :: as) (w :: ws)
/-- what isinstance asks of an error's class -/
structure IsC (K : PySem.W.Frag) (C : Addr) : Prop where
  cl : (PySem.W.clsIn K C).isSome = true
  ga : PySem.W.findIn K (.ref C) "__getattribute__" = some (some (.builtin "BaseException.__getattribute__"))
  gt : PySem.W.findIn K (.ref C) "__getattr__" = some none
  sub : PySem.W.subIn K (.ref C) (.type "BaseException") = some true
  ha : PySem.W.findIn K (.ref C) "__class__" = some (some (.builtin "object.__class__"))
  hn : PySem.W.specialIn K (.builtin "object.__class__") "__get__" = some (some (.builtin "getset_descriptor.__get__"))
  tk : PySem.W.takesIn K (.builtin "object.__class__") = some true
  mr : PySem.W.mroIn K C (.type "object") = some true
def isB (K : PySem.W.Frag) (C : Addr) : Bool := (PySem.W.clsIn K C).isSome && (decide (PySem.W.findIn K (.ref C) "__getattribute__" = some (some (.builtin "BaseException.__getattribute__"))) && (decide (PySem.W.findIn K (.ref C) "__getattr__" = some none) && (decide (PySem.W.subIn K (.ref C) (.type "BaseException") = some true) &&
  (decide (PySem.W.findIn K (.ref C) "__class__" = some (some (.builtin "object.__class__"))) && (decide (PySem.W.specialIn K (.builtin "object.__class__") "__get__" = some (some (.builtin "getset_descriptor.__get__"))) && (decide (PySem.W.takesIn K (.builtin "object.__class__") = some true) && decide (PySem.W.mroIn K C (.type "object") = some true)))))))
theorem isB_ok {K : PySem.W.Frag} {C : Addr} (h : isB K C = true) : IsC K C := by
  simp only [isB, Bool.and_eq_true, decide_eq_true_eq] at h
  obtain ⟨h1, h2, h3, h4, h5, h6, h7, h8⟩ := h
  exact ⟨h1, h2, h3, h4, h5, h6, h7, h8⟩
/-- a constant tuple of the module is a plain one -/
def TupC (K : PySem.W.Frag) (w : W) (v : V) : Prop := ∀ ws, w = .tup ws → ∃ a o, v = .ref a ∧ K.lookup a = some o ∧ o.cls = .type "tuple" ∧ o.dict = none
/-- contexts of one program, one place -/
structure Sib (X X' : Cx) : Prop where
  prog : X'.prog = X.prog
  w : X'.w = X.w
  K : X'.K = X.K
  mg : X'.mg = X.mg
  base : X'.base = X.base
  A : X'.A = X.A
  calm : X'.calm = X.calm
theorem Sib.refl (X : Cx) : Sib X X := ⟨rfl, rfl, rfl, rfl, rfl, rfl, rfl⟩
theorem Sib.trans {X Y Z : Cx} (a : Sib X Y) (b : Sib Y Z) : Sib X Z := ⟨b.prog.trans a.prog, b.w.trans a.w, b.K.trans a.K, b.mg.trans a.mg, b.base.trans a.base, b.A.trans a.A, b.calm.trans a.calm⟩
/-- a def's call, from a place and a heap, with what it raises -/
def CallC (X : Cx) (fv : Value) (vs : List V) (H : Hp) (Q : VK) (E : XK) : Prop := ∀ (s : Shared) (us : List Value), Env0 X.prog X.w X.K X.mg X.base X.A X.stack s H → Vals vs us → codeAny (model X.prog X.w) X.A (.call fv ⟨us, []⟩) (CR (L2.CX X.prog X.w) X.stack X.prog X.w H s Q E) s
/-- a def's call, with what it raises -/
def CallE (X : Cx) (fv : Value) (vs : List V) (H : Hp) (Q : VK) (E : XK) : Prop := ∀ (pins : List (Addr × Obj)) (s : Shared) (σ : St) (us : List Value), Inv X pins σ H s → Vals vs us → wpAny (model X.prog X.w) X.A (call fv us) (EP X pins σ Q) (fun e s' => L2.CX X.prog X.w X.stack H s E e s') s
theorem CallC.e {X : Cx} {fv : Value} {vs : List V} {H : Hp} {Q : VK} {E : XK} (h : CallC X fv vs H Q E) : CallE X fv vs H Q E := fun pins s σ us I r =>
  wpAny_call (codeAny_mono (h s us I.env0 r) fun res s' q => by
    cases res with
    | error e => exact q
    | ok fl =>
      cases fl with
      | ret u => exact I.after q
      | next => exact q.elim
      | brk => exact q.elim
      | cont => exact q.elim)
/-- what a def raises, in the frame of its caller -/
def exK (XE : XP) (f : Fm) (g : Gh) (sl : Sl) (σ : St) : XK := fun cls d H' => ∃ c fs g' b', XE c fs b' ∧ XR f.K f.G g' c fs cls d ∧ g.le g' ∧ Rl f g' b' sl σ H'
theorem CallE.w {X : Cx} {fv : Value} {vs : List V} {H : Hp} {Q : VK} {XE : XP} {f : Fm} {g : Gh} {sl : Sl} {σ : St} (tk : Takes X (wOf XE f)) (h : CallE X fv vs H Q (exK XE f g sl σ)) : CallW X fv vs H Q := fun pins s σ' us I r =>
  wpAny_mono (h pins s σ' us I r) (fun _ _ q => q) fun e s' c => passes_call tk (fun cls d _ H' ⟨c, fs, g', b', x1, x2, _, x3⟩ => ⟨c, fs, g', b', x1, x2, x3.bare⟩) pins σ' H s e s' I c
theorem CallE.no {X : Cx} {fv : Value} {vs : List V} {H : Hp} {Q : VK} {f : Fm} {g : Gh} {sl : Sl} {σ : St} (h : CallE X fv vs H Q (exK T.noX f g sl σ)) : CallW X fv vs H Q := fun pins s σ' us I r =>
  wpAny_mono (h pins s σ' us I r) (fun _ _ q => q) fun e s' c => by
    obtain ⟨_, _, _, _, _, _, _, _, _, _, _, _, z⟩ := c
    obtain ⟨_, _, _, _, z, _⟩ := z
    exact z.elim
/-- what a call of the def number j gives -/
def GivesE (XE : XP) (cl : Cl) (j : Nat) (a : Addr) (X : Cx) (f : Fm) : Prop :=
  ∀ g b sl σ H (args : List R) (vs : List V) (as : List Addr) (Q : VK), Rl f g b sl σ H → ArgsR f g H sl σ args vs as →
    (cl j args).wb XE b (fun r b' => ∀ g' v H', g.le g' → Rl f g' b' sl σ H' → TmR f g' H' as r.2 → Vl f g' H' sl σ r.1 v → (r.1.2 = true → ∀ a ∈ as, v ≠ .ref a) → Q v H') → CallC X (.ref a) vs H Q (exK XE f g sl σ)
/-- a def's call with all its arguments by keywords -/
def CallKw (X : Cx) (fv : Value) (ps : List Str) (vs : List V) (H : Hp) (Q : VK) (E : XK) : Prop := ∀ (s : Shared) (us : List Value) (args : Args), Env0 X.prog X.w X.K X.mg X.base X.A X.stack s H → Vals vs us → KwOk ps args us → codeAny (model X.prog X.w) X.A (.call fv args) (CR (L2.CX X.prog X.w) X.stack X.prog X.w H s Q E) s
def GivesK (XE : XP) (cl : Cl) (j : Nat) (a : Addr) (X : Cx) (f : Fm) (ps : List Str) : Prop :=
  ∀ g b sl σ H (args : List R) (vs : List V) (as : List Addr) (Q : VK), Rl f g b sl σ H → ArgsR f g H sl σ args vs as →
    (cl j args).wb XE b (fun r b' => ∀ g' v H', g.le g' → Rl f g' b' sl σ H' → TmR f g' H' as r.2 → Vl f g' H' sl σ r.1 v → (r.1.2 = true → ∀ a ∈ as, v ≠ .ref a) → Q v H') → CallKw X (.ref a) ps vs H Q (exK XE f g sl σ)
/-- what a call of a lambda gives -/
def GivesL (XE : XP) (cl : Cl) (X : Cx) (f : Fm) : Prop :=
  ∀ g b sl σ H (j : Nat) (ws es : List W) (a : Addr) (vs : List V) (Q : VK), Rl f g b sl σ H → RV f.K f.G g (.clo j ws) (.ref a) → RVs f.K f.G g es vs →
    (cl j ((ws ++ es).map fun w => (w, false))).wb XE b (fun r b' => ∀ g' v H', g.le g' → Rl f g' b' sl σ H' → Vl f g' H' sl σ r.1 v → Q v H') → CallC X (.ref a) vs H Q (exK XE f g sl σ)
/-- the heap behind a new error of the class C at a, which has kept vs under xs -/
def ErrNew (H : Hp) (a C : Addr) (xs : List Str) (vs : List V) (H' : Hp) : Prop := (xs = [] ∧ H' = upd H a (errO a (.ref C) none)) ∨
  ∃ (d : Addr) (nm : List (Str × V)), H d = none ∧ d ≠ a ∧ H' = upd (upd H d (.xd nm)) a (errO a (.ref C) (some d)) ∧ ∀ (i : Nat) x v, xs[i]? = some x → vs[i]? = some v → nm.lookup x = some v
/-- how an error is made as a value -/
def MakesO (X : Cx) (G : Gx) (c : Nat) : Prop := ∃ (x : Str) (xs : List Str) (C : Addr), errs[c]? = some (x, xs) ∧ G.fn (clN + c) = some C ∧ X.mg x = some (.ref C) ∧ PySem.W.keepIn X.K (.ref C) = true ∧
  ∀ (pins : List (Addr × Obj)) (σ : St) (H : Hp) (s : Shared) (us : List Value) (kw : List (Str × Value)) (vals : List Value) (vs : List V) (Q : VK), Inv X pins σ H s → ((us = vals ∧ kw = []) ∨ (us = [] ∧ KwOk xs ⟨[], kw⟩ vals)) → Vals vs vals → vs.length = argsN c →
    (∀ a H', H a = none → ErrNew H a C xs vs H' → Q (.ref a) H') → wpAny (model X.prog X.w) X.A (call (.ref C) us kw) (EP X pins σ Q) X.xe s
/-- the cells of a frame, by slots -/
def envE (X : Cx) : Nat → Option (Str × Addr) := fun c => match X.N[c]? with
  | some y => (X.env.cells.lookup y).map fun a => (y, a)
  | none => none
/-- a place where lambdas are made -/
structure HearOk (X : Cx) (f : Fm) : Prop where
  ex : ∃ c P, X.env.code = .ref c ∧ LamX.TabB X.base X.mg c P ∧ (P, X.env.qual ++ "<lambda>") ∈ f.G.tabs ∧ ∀ p ∈ f.G.tabs, p.1 = P → p.2 = X.env.qual ++ "<lambda>"
  stk : X.stack = X.env :: X.outer
  fr : X.env.frame = some X.env.locals
  ex0 : X.ex = []
  h0 : f.H0 = X.H_0
  fnT : ∀ x, X.fn x = true
  en : f.g0.E = envE X
/-- what holds of the whole law: the module's facts, the defs' promises -/
structure Xok (XE : XP) (tb : Tb) (N : List Str) (cl : Cl) (io : Nat → List Bool) (cn : Nat → W) (f : Fm) (X : Cx) (sc : Scope) : Prop where
  bx : Bx X f
  hh : X.A.handled = none
  hN : X.N = N
  nd : N.Nodup
  vis : ∀ x, visB sc x = true → Vis X.env.scope x
  glo : ∀ x, gloB sc x = true → Gl X x
  loc : ∀ x, locB sc x = true → Loc X.env.scope x ∧ (X.fn x = true ∨ X.env.scope.names.lookup x = some .local)
  cf : ∀ x, (sc.names.lookup x = some .cell ∨ sc.names.lookup x = some .free) → (X.env.scope.names.lookup x = some .cell ∨ X.env.scope.names.lookup x = some .free)
  ll : ∀ x, sc.names.lookup x = some .local → X.env.scope.names.lookup x = some .local
  knd : X.env.scope.kind = .function
  tk : Takes X (wOf XE f)
  bi : ∀ x ∈ allBi, X.mg x = none
  con : ∀ (k : Nat) x, tb.cnm[k]? = some x → ∃ v u, X.mg x = some u ∧ RelV v u ∧ (∀ g : Gh, RV f.K f.G g (cn k) v) ∧ TupC X.K (cn k) v
  fn : ∀ (j : Nat) x, tb.fnm[j]? = some x → ∃ a, X.mg x = some (.ref a) ∧ PySem.W.keepIn X.K (.ref a) = true ∧ f.G.fn j = some a ∧ ∀ (XE' : XP) X' f', Sib X X' → f'.K = f.K → f'.G = f.G → GivesE XE' cl j a X' f'
  fnk : ∀ (j : Nat) x, tb.fnm[j]? = some x → tb.fpn j ≠ [] → ∃ a, X.mg x = some (.ref a) ∧ PySem.W.keepIn X.K (.ref a) = true ∧ ∀ (XE' : XP) X' f', Sib X X' → f'.K = f.K → f'.G = f.G → GivesK XE' cl j a X' f' (tb.fpn j)
  gfn : ∀ (j : Nat) a, f.G.fn j = some a → j < clN → ∃ x, tb.fnm[j]? = some x
  lam : ∀ (XE' : XP) X' f', Sib X X' → f'.K = f.K → f'.G = f.G → GivesL XE' cl X' f'
  xf : ∀ c C, f.G.fn (clN + c) = some C → XfC X.K C ∧ ∀ x xs y, errs[c]? = some (x, xs) → y ∈ xs → PySem.W.findIn X.K (.ref C) y = some none
  lmk : ∀ k xs ps sp bd, tb.ckl k xs ps sp bd = true → f.G.lam k ⟨xs, ps, bd, sp⟩
  hea : tb.hk = true → topSc sc = true → HearOk X f
  xis : (∀ c C, f.G.fn (clN + c) = some C → IsC X.K C) ∧ ∀ d x xs, tb.ers.contains d = true → errs[d]? = some (x, xs) → ∃ D, X.mg x = some (.ref D) ∧ ∀ c C, f.G.fn (clN + c) = some C → PySem.W.kitOne X.K (.ref C) (.ref D) = some (subE c d)
  xib : ∀ (k : Nat) (z : String) (v : Bool), famL[k]? = some (z, v) → ∀ c C, f.G.fn (clN + c) = some C → PySem.W.kitOne X.K (.ref C) (.type z) = some v
  mko : ∀ c, tb.ers.contains c = true → ∀ X', Sib X X' → MakesO X' f.G c
  drw : ∃ a, X.mg "_law_draw" = some (.ref a) ∧ PySem.W.keepIn X.K (.ref a) = true ∧
    ∀ X' f', Sib X X' → f'.K = f.K → f'.G = f.G → ∀ g b sl σ H v (n : Int) (Q : VK), Rl f' g (b + 1) sl σ H → RV f'.K f'.G g .orc v → 0 < n → n < 1073741824 →
      (∀ d, d < n.toNat → ∀ g' H', g.le g' → Rl f' g' b sl σ H' → Q (.int d) H') → CallW X' (.ref a) [v, .int n] H Q
section
variable {tb : Tb} {N : List Str} {cl : Cl} {io : Nat → List Bool} {cn : Nat → W} {f f' : Fm} {X : Cx} {sc : Scope}
theorem relS_eq (scope : Scope) (env : Env) : relabel scope env = relS scope env.scope := rfl
/-- within a comprehension -/
theorem Xok.blk (o : Xok XE tb N cl io cn f X sc) (hK : f'.K = f.K) (hG : f'.G = f.G) {scope : Scope} (hk : scope.kind = .function) (ht : topSc scope = false) (s : Shared) (H : Hp) (C : Addr) (l : List (Str × Addr)) (fp : List Addr) : Xok T.noX tb N cl io cn f' (X.blk s H scope (compEnvC scope l C X.env) fp) scope where
  bx := ⟨o.bx.sm, o.bx.hK.trans hK.symm, o.bx.hu, o.bx.hg, o.bx.calm⟩
  hh := o.hh
  hN := o.hN
  nd := o.nd
  vis := fun x h => by
    show Vis (relS scope X.env.scope) x
    unfold visB at h
    cases e : scope.names.lookup x with
    | none => rw [e] at h; cases h
    | some k =>
      rw [e] at h
      cases k <;> first
        | (cases h; done)
        | exact .inl (lookup_relS_keep (by decide) e)
        | exact .inr (.inl (lookup_relS_keep (by decide) e))
        | skip
      -- a free name stays free or becomes the def's cell
      rcases lookup_free e (sc := X.env.scope) with z | z
      · exact .inr (.inr z)
      · exact .inr (.inl z)
  glo := fun x h => by
    unfold gloB at h
    cases e : scope.names.lookup x with
    | none => rw [e] at h; cases h
    | some k =>
      rw [e] at h
      cases k <;> first
        | (cases h; done)
        | exact lookup_relS_keep (by decide) e
  loc := fun x h => by
    unfold locB at h
    cases e : scope.names.lookup x with
    | none => rw [e] at h; cases h
    | some k =>
      rw [e] at h
      cases k <;> first
        | (cases h; done)
        | (have z := lookup_relS_keep (sc := X.env.scope) (by decide) e; exact ⟨.inl z, .inr z⟩)
        | (have z := lookup_relS_keep (sc := X.env.scope) (by decide) e; exact ⟨.inr z, .inl (by show (scope.names.lookup x == some NameKind.cell) = true; rw [e]; rfl)⟩)
  cf := fun x h => by
    rcases h with e | e
    · exact .inl (lookup_relS_keep (by decide) e)
    · exact (lookup_free e (sc := X.env.scope)).symm
  ll := fun x e => lookup_relS_keep (by decide) e
  knd := hk
  tk := takes_no
  bi := o.bi
  con := fun k x h => by
    obtain ⟨v, u, h1, h2, h3, h4⟩ := o.con k x h
    exact ⟨v, u, h1, h2, fun g => by rw [hK, hG]; exact h3 g, h4⟩
  fn := fun j x h => by
    obtain ⟨a, h1, h2, h4, h3⟩ := o.fn j x h
    exact ⟨a, h1, h2, by rw [hG]; exact h4, fun XE' X' f'' s k g => h3 XE' X' f'' ⟨s.prog, s.w, s.K, s.mg, s.base, s.A, s.calm⟩ (k.trans hK) (g.trans hG)⟩
  fnk := fun j x h hp => by
    obtain ⟨a, h1, h2, h3⟩ := o.fnk j x h hp
    exact ⟨a, h1, h2, fun XE' X' f'' s k g => h3 XE' X' f'' ⟨s.prog, s.w, s.K, s.mg, s.base, s.A, s.calm⟩ (k.trans hK) (g.trans hG)⟩
  gfn := fun j a h => o.gfn j a (by rw [← hG]; exact h)
  lam := fun XE' X' f'' s k g => o.lam XE' X' f'' ⟨s.prog, s.w, s.K, s.mg, s.base, s.A, s.calm⟩ (k.trans hK) (g.trans hG)
  lmk := fun k xs ps sp bd h => by rw [hG]; exact o.lmk k xs ps sp bd h
  xf := fun c C h => o.xf c C (by rw [← hG]; exact h)
  xis := by rw [hG]; exact o.xis
  xib := fun k z v e c C h => o.xib k z v e c C (by rw [← hG]; exact h)
  mko := fun c hc X' s => by rw [hG]; exact o.mko c hc X' ⟨s.prog, s.w, s.K, s.mg, s.base, s.A, s.calm⟩
  hea := fun _ h => by rw [ht] at h; cases h
  drw := by
    obtain ⟨a, h1, h2, h3⟩ := o.drw
    exact ⟨a, h1, h2, fun X' f'' s k g => h3 X' f'' ⟨s.prog, s.w, s.K, s.mg, s.base, s.A, s.calm⟩ (k.trans hK) (g.trans hG)⟩
end
end Ev
end
end
section
set_option Elab.async false
set_option linter.all false
set_option maxRecDepth 100000
set_option maxHeartbeats 2000000
/-! EvExp: the evaluator's expressions are right. -/
noncomputable section
namespace Ev
open PySem L2
set_option autoImplicit false
variable {XE : XP}

section
variable {f : Fm} {g g' : Gh} {b : Nat} {sl : Sl} {σ : St} {H H' : Hp} {v : V}
theorem boolOf_wb {w : W} {P : Bool → Nat → Prop} (h : (boolOf w).wb XE b P) : ∃ t, w = .bl t ∧ P t b := by
  cases w <;> first
    | exact ⟨_, rfl, h⟩
    | exact h.elim
theorem rd_wb {i : Nat} {P : R → Nat → Prop} (h : (rd sl i).wb XE b P) : ∃ r, sl[i]? = some (some r) ∧ P r b := by
  unfold rd at h
  rw [nth_eq] at h
  cases e : sl[i]? with
  | none => rw [e] at h; exact h.elim
  | some o =>
    rw [e] at h
    cases o with
    | none => exact h.elim
    | some r => exact ⟨r, rfl, h⟩
theorem own_wb {i : Nat} {P : W → Nat → Prop} (h : (own sl i).wb XE b P) : ∃ w, sl[i]? = some (some (w, true)) ∧ P w b := by
  obtain ⟨⟨w, fr⟩, e, h⟩ := rd_wb (T.wb_bind.mp h)
  obtain ⟨c, h⟩ := T.wb_guard h
  have c : fr = true := c
  subst c
  exact ⟨w, e, h⟩
/-- an operand's handle -/
def HV (f : Fm) (g : Gh) (σ : St) (h : Hd) (v : V) : Prop := match h with
  | .val w => RV f.K f.G g w v
  | .slot i => σ[i]? = some (some v)
theorem HV.le {h : Hd} (l : g.le g') (z : HV f g σ h v) : HV f g' σ h v := by
  cases h with
  | val w => exact RV.le l z
  | slot i => exact z
theorem HV.get {h : Hd} (R : Rl f g b sl σ H) (z : HV f g σ h v) {P : W → Nat → Prop} (k : (h.get sl).wb XE b P) : ∃ w, P w b ∧ PV f g H w v := by
  cases h with
  | val w => exact ⟨w, k, .inl z⟩
  | slot i =>
    obtain ⟨⟨w, fr⟩, e, k⟩ := rd_wb (T.wb_bind.mp k)
    refine ⟨w, k, ?_⟩
    have z : σ[i]? = some (some v) := z
    cases fr with
    | false =>
      obtain ⟨u, h1, h2⟩ := R.frz i w e
      rw [z] at h1
      cases h1
      exact .inl h2
    | true =>
      obtain ⟨a, h1, h2, _⟩ := R.own i w e
      rw [z] at h1
      cases h1
      exact .inr ⟨a, rfl, h2⟩
inductive HVs (f : Fm) (g : Gh) (σ : St) : List Hd → List V → Prop
  | nil : HVs f g σ [] []
  | cons {h : Hd} {v : V} {hs : List Hd} {vs : List V} : HV f g σ h v → HVs f g σ hs vs → HVs f g σ (h :: hs) (v :: vs)
theorem HVs.get : ∀ {hs : List Hd} {vs : List V}, Rl f g b sl σ H → HVs f g σ hs vs → ∀ {P : List W → Nat → Prop}, (getAll hs sl).wb XE b P → ∃ ws, P ws b ∧ PVs f g H ws vs
  | _, _, _, .nil, _, k => ⟨[], k, .nil⟩
  | _, _, R, .cons a r, _, k => by
    obtain ⟨w, k, p⟩ := HV.get R a (T.wb_bind.mp k)
    obtain ⟨ws, k, ps⟩ := HVs.get R r (T.wb_bind.mp k)
    exact ⟨w :: ws, k, .cons p ps⟩
end

section
variable {tb : Tb} {N : List Str} {cl : Cl} {io : Nat → List Bool} {cn : Nat → W} {f : Fm}
/-- a value of an expression is right -/
structure SE (tb : Tb) (N : List Str) (cl : Cl) (io : Nat → List Bool) (cn : Nat → W) (f : Fm) (x : Ex) : Prop where
  run : ∀ {XE : XP} {X : Cx} {sc : Scope} {e : Expr}, Xok XE tb N cl io cn f X sc → chkE tb N sc x e = true → ∀ {sl : Sl} {σ : St} {H : Hp} {g : Gh} {b : Nat} {Q : VK}, Rl f g b sl σ H →
    (evE cl io cn x sl).wb XE b (fun r b' => ∀ g' v H', g.le g' → Rl f g' b' r.2 σ H' → Vl f g' H' r.2 σ r.1 v → Q v H') → tW X e σ H Q
/-- .. as a test -/
structure ST (tb : Tb) (N : List Str) (cl : Cl) (io : Nat → List Bool) (cn : Nat → W) (f : Fm) (x : Ex) : Prop where
  run : ∀ {XE : XP} {X : Cx} {sc : Scope} {e : Expr}, Xok XE tb N cl io cn f X sc → chkE tb N sc x e = true → ∀ {sl : Sl} {σ : St} {H : Hp} {g : Gh} {b : Nat} {Q : Bool → Hp → Prop}, Rl f g b sl σ H →
    (evE cl io cn x sl).wb XE b (fun r b' => ∃ t, r.1.1 = .bl t ∧ ∀ g' H', g.le g' → Rl f g' b' r.2 σ H' → Q t H') → tWT X e σ H Q
def AllX (P : Ex → Prop) : Exs → Prop
  | .nil => True
  | .cons e es => P e ∧ AllX P es
variable {X : Cx} {sc : Scope} {e : Expr} {sl : Sl} {σ : St} {H : Hp} {g : Gh} {b : Nat} {Q : VK}
/-- a result, made known -/
theorem SE.kn {x : Ex} (S : SE tb N cl io cn f x) (o : Xok XE tb N cl io cn f X sc) (c : chkE tb N sc x e = true) (R : Rl f g b sl σ H)
    (h : (evE cl io cn x sl).wb XE b (fun r b' => ∀ g' v H', g.le g' → Rl f g' b' r.2 σ H' → RV f.K f.G g' r.1.1 v → Q v H')) : tW X e σ H Q := by
  refine S.run o c R (T.wb_mono (fun r b' k g' v H' l R' w => ?_) h)
  obtain ⟨g2, l2, R2, rv⟩ := R'.freeze w
  exact k g2 v H' (l.trans l2) R2 rv
/-- a value that is a bool -/
theorem SE.bool {x : Ex} (S : SE tb N cl io cn f x) (o : Xok XE tb N cl io cn f X sc) (c : chkE tb N sc x e = true) (R : Rl f g b sl σ H) {P : Bool → Hp → Prop}
    (h : (evE cl io cn x sl).wb XE b (fun r b' => ∃ t, r.1.1 = .bl t ∧ ∀ g' H', g.le g' → Rl f g' b' r.2 σ H' → P t H')) : tW X e σ H fun y H1 => ∃ t, y = .bl t ∧ P t H1 := by
  refine S.kn o c R (T.wb_mono (fun r b' k g' v H' l R' rv => ?_) h)
  obtain ⟨t, e1, k⟩ := k
  rw [e1] at rv
  cases rv
  exact ⟨t, rfl, k g' H' l R'⟩
/-- an int -/
theorem SE.int {x : Ex} (S : SE tb N cl io cn f x) (o : Xok XE tb N cl io cn f X sc) (c : chkE tb N sc x e = true) (R : Rl f g b sl σ H) {P : Int → Hp → Prop}
    (h : (evE cl io cn x sl).wb XE b (fun r b' => ∃ i, r.1.1 = .int i ∧ ∀ g' H', g.le g' → Rl f g' b' r.2 σ H' → P i H')) : tW X e σ H fun y H1 => ∃ i, y = .int i ∧ P i H1 := by
  refine S.kn o c R (T.wb_mono (fun r b' k g' v H' l R' rv => ?_) h)
  obtain ⟨t, e1, k⟩ := k
  rw [e1] at rv
  cases rv
  exact ⟨t, rfl, k g' H' l R'⟩
/-- an operand -/
theorem SE.hd {x : Ex} (S : SE tb N cl io cn f x) (o : Xok XE tb N cl io cn f X sc) (c : chkE tb N sc x e = true) (R : Rl f g b sl σ H)
    (h : (Ev.hd (isV x, evE cl io cn x) sl).wb XE b (fun p b' => ∀ g' v H', g.le g' → Rl f g' b' p.2 σ H' → HV f g' σ p.1 v → Q v H')) : tW X e σ H Q := by
  have gen : isV x = none → tW X e σ H Q := fun hv => by
    unfold Ev.hd at h
    rw [hv] at h
    refine S.kn o c R (T.wb_mono (fun r b' k => ?_) (T.wb_bind.mp h))
    exact k
  cases x with
  | var i =>
    unfold Ev.hd at h
    obtain ⟨⟨w, fr⟩, e1, h⟩ := rd_wb (T.wb_bind.mp (show ((rd sl i).bind fun r => .ok (cond r.2 (Hd.slot i) (.val r.1), sl)).wb XE b _ from h))
    unfold chkE at c
    cases hn : asName e with
    | none => rw [hn] at c; cases c
    | some y =>
      rw [hn] at c
      obtain ⟨p, rfl⟩ := asName_ok hn
      simp only [Bool.and_eq_true, okN, Bool.not_eq_true'] at c
      obtain ⟨c1, c2, c3, c4, _⟩ := c
      have hN : X.N[i]? = some y := by rw [o.hN]; exact atB_ok c1
      cases fr with
      | true =>
        obtain ⟨a, s1, _⟩ := R.own i w e1
        exact w_var hN (o.vis y c2) c3 c4 s1 (h g _ H (Gh.le.refl g) R s1)
      | false =>
        obtain ⟨v, s1, rv⟩ := R.frz i w e1
        exact w_var hN (o.vis y c2) c3 c4 s1 (h g _ H (Gh.le.refl g) R rv)
  | _ => exact gen rfl
/-- rows of expressions -/
theorem lA_ok : ∀ {es : Exs} {fs : List Expr}, AllX (SE tb N cl io cn f) es → Xok XE tb N cl io cn f X sc → chkL tb N sc es fs = true → ∀ {sl : Sl} {H : Hp} {g : Gh} {b : Nat} {Q : List V → Hp → Prop}, Rl f g b sl σ H →
    (lA (evL cl io cn es) sl).wb XE b (fun p b' => ∀ g' vs H', g.le g' → Rl f g' b' p.2 σ H' → RVs f.K f.G g' p.1 vs → Q vs H') → tWA X fs σ H Q
  | .nil, fs, _, o, c, sl, H, g, b, Q, R, h => by
    have c : fs.isEmpty = true := c
    rw [List.isEmpty_iff] at c
    subst c
    exact w_nil (h g [] H (Gh.le.refl g) R .nil)
  | .cons x es, fs, S, o, c, sl, H, g, b, Q, R, h => by
    cases fs with
    | nil => cases c
    | cons e fs =>
      have c : (!starB e && (chkE tb N sc x e && chkL tb N sc es fs)) = true := c
      simp only [Bool.and_eq_true, Bool.not_eq_true'] at c
      refine w_cons c.1 (S.1.kn o c.2.1 R (T.wb_mono (fun r b' k g' v H' l R' rv => ?_) (T.wb_bind.mp h)))
      refine lA_ok S.2 o c.2.2 R' (T.wb_mono (fun p b2 k2 g2 vs H2 l2 R2 rvs => ?_) (T.wb_bind.mp k))
      exact k2 g2 (v :: vs) H2 (l.trans l2) R2 (.cons (rv.le l2) rvs)
theorem seq_rv {w : W} {v : V} {H : Hp} {g : Gh} {P : List W → Nat → Prop} (e : Same g.F H) (rv : RV f.K f.G g w v) (h : (seqOf w).wb XE b P) : ∃ ws a vs, P ws b ∧ v = .ref a ∧ (SqT f.K H a vs ∨ SqL f.K H a vs) ∧ RVs f.K f.G g ws vs := by
  unfold seqOf at h
  cases rv with
  | tup hq rvs => exact ⟨_, _, _, h, rfl, .inl (SqT.le e hq), rvs⟩
  | lst hq rvs => exact ⟨_, _, _, h, rfl, .inr (.inl (.inl (e _ _ hq))), rvs⟩
  | _ => exact h.elim
theorem lAS_ok : ∀ {ms : List Bool} {es : Exs} {fs : List Expr}, AllX (SE tb N cl io cn f) es → Xok XE tb N cl io cn f X sc → chkLS tb N sc ms es fs = true → ∀ {sl : Sl} {H : Hp} {g : Gh} {b : Nat} {Q : List V → Hp → Prop}, Rl f g b sl σ H →
    (lAS ms (evL cl io cn es) sl).wb XE b (fun p b' => ∀ g' vs H', g.le g' → Rl f g' b' p.2 σ H' → RVs f.K f.G g' p.1 vs → Q vs H') → tWA X fs σ H Q
  | ms, .nil, fs, _, o, c, sl, H, g, b, Q, R, h => by
    have c : fs.isEmpty = true := c
    rw [List.isEmpty_iff] at c
    subst c
    exact w_nil (h g [] H (Gh.le.refl g) R .nil)
  | ms, .cons x es, fs, S, o, c, sl, H, g, b, Q, R, h => by
    cases fs with
    | nil => cases c
    | cons e fs =>
      have c : (cond (ms.headD false) (match asStar e with
        | some f => chkE tb N sc x f
        | none => false) (!starB e && chkE tb N sc x e) && chkLS tb N sc ms.tail es fs) = true := c
      have h : ((evE cl io cn x sl).bind fun p => cond (ms.headD false) ((seqOf p.1.1).bind fun ws => (lAS ms.tail (evL cl io cn es) p.2).bind fun q => .ok (ws ++ q.1, q.2)) ((lAS ms.tail (evL cl io cn es) p.2).bind fun q => .ok (p.1.1 :: q.1, q.2))).wb XE b _ := h
      rw [Bool.and_eq_true] at c
      obtain ⟨c1, c2⟩ := c
      cases hm : ms.headD false with
      | true =>
        rw [hm] at c1 h
        cases he : asStar e with
        | none => rw [he] at c1; cases c1
        | some e1 =>
          rw [he] at c1
          obtain ⟨p1, rfl⟩ := asStar_ok he
          refine w_star (S.1.kn o c1 R (T.wb_mono (fun r b' k g' v H' l R' rv => ?_) (T.wb_bind.mp h)))
          obtain ⟨ws, a, vs0, k, rfl, sq, rvs0⟩ := seq_rv R'.sub rv (T.wb_bind.mp k)
          refine ⟨a, vs0, rfl, by rw [o.bx.hK]; exact sq, ?_⟩
          refine lAS_ok S.2 o c2 R' (T.wb_mono (fun p b2 k2 g2 vs H2 l2 R2 rvs => ?_) (T.wb_bind.mp k))
          exact k2 g2 (vs0 ++ vs) H2 (l.trans l2) R2 ((RVs.le l2 rvs0).append rvs)
      | false =>
        rw [hm] at c1 h
        have c1 : (!starB e && chkE tb N sc x e) = true := c1
        simp only [Bool.and_eq_true, Bool.not_eq_true'] at c1
        refine w_cons c1.1 (S.1.kn o c1.2 R (T.wb_mono (fun r b' k g' v H' l R' rv => ?_) (T.wb_bind.mp h)))
        refine lAS_ok S.2 o c2 R' (T.wb_mono (fun p b2 k2 g2 vs H2 l2 R2 rvs => ?_) (T.wb_bind.mp k))
        exact k2 g2 (v :: vs) H2 (l.trans l2) R2 (.cons (rv.le l2) rvs)
theorem lH_ok : ∀ {es : Exs} {fs : List Expr}, AllX (SE tb N cl io cn f) es → Xok XE tb N cl io cn f X sc → chkL tb N sc es fs = true → ∀ {sl : Sl} {H : Hp} {g : Gh} {b : Nat} {Q : List V → Hp → Prop}, Rl f g b sl σ H →
    (lH (evL cl io cn es) sl).wb XE b (fun p b' => ∀ g' vs H', g.le g' → Rl f g' b' p.2 σ H' → HVs f g' σ p.1 vs → Q vs H') → tWA X fs σ H Q
  | .nil, fs, _, o, c, sl, H, g, b, Q, R, h => by
    have c : fs.isEmpty = true := c
    rw [List.isEmpty_iff] at c
    subst c
    exact w_nil (h g [] H (Gh.le.refl g) R .nil)
  | .cons x es, fs, S, o, c, sl, H, g, b, Q, R, h => by
    cases fs with
    | nil => cases c
    | cons e fs =>
      have c : (!starB e && (chkE tb N sc x e && chkL tb N sc es fs)) = true := c
      simp only [Bool.and_eq_true, Bool.not_eq_true'] at c
      refine w_cons c.1 (S.1.hd o c.2.1 R (T.wb_mono (fun r b' k g' v H' l R' rv => ?_) (T.wb_bind.mp h)))
      refine lH_ok S.2 o c.2.2 R' (T.wb_mono (fun p b2 k2 g2 vs H2 l2 R2 rvs => ?_) (T.wb_bind.mp k))
      exact k2 g2 (v :: vs) H2 (l.trans l2) R2 (.cons (rv.le l2) rvs)
theorem chkL_star : ∀ {es : Exs} {fs : List Expr}, chkL tb N sc es fs = true → fs.all (fun e => !starB e) = true
  | .nil, fs, c => by
    have c : fs.isEmpty = true := c
    rw [List.isEmpty_iff] at c
    subst c
    rfl
  | .cons x es, fs, c => by
    cases fs with
    | nil => rfl
    | cons e fs =>
      have c : (!starB e && (chkE tb N sc x e && chkL tb N sc es fs)) = true := c
      rw [Bool.and_eq_true, Bool.and_eq_true] at c
      rw [List.all_cons, c.1, chkL_star c.2.2]
      rfl

/-! ### each form -/
abbrev SX (tb : Tb) (N : List Str) (cl : Cl) (io : Nat → List Bool) (cn : Nat → W) (f : Fm) (x : Ex) : Prop := SE tb N cl io cn f x ∧ ST tb N cl io cn f x
theorem AllX.mono {P P' : Ex → Prop} (h : ∀ x, P x → P' x) : ∀ {es : Exs}, AllX P es → AllX P' es
  | .nil, _ => trivial
  | .cons _ _, a => ⟨h _ a.1, AllX.mono h a.2⟩
/-- a form whose truth is its value's -/
theorem ST.of {x : Ex} (S : SE tb N cl io cn f x) (hp : ∀ {sc : Scope} {e : Expr}, chkE tb N sc x e = true → plainT e = true) : ST tb N cl io cn f x :=
  ⟨fun {XE X sc e} o c {sl σ H g b Q} R h => w_valT (hp c) (S.bool o c R h)⟩
theorem se_bad : SX tb N cl io cn f .bad := ⟨⟨fun {XE X sc e} o c {sl σ H g b Q} R h => h.elim⟩, ⟨fun {XE X sc e} o c {sl σ H g b Q} R h => h.elim⟩⟩
theorem se_var (i : Nat) : SE tb N cl io cn f (.var i) := ⟨fun {XE X sc e} o c {sl σ H g b Q} R h => by
  obtain ⟨⟨w, fr⟩, e1, h⟩ := rd_wb (T.wb_bind.mp h)
  unfold chkE at c
  cases hn : asName e with
  | none => rw [hn] at c; cases c
  | some y =>
    rw [hn] at c
    obtain ⟨p, rfl⟩ := asName_ok hn
    simp only [Bool.and_eq_true, okN, Bool.not_eq_true'] at c
    obtain ⟨c1, c2, c3, c4, _⟩ := c
    obtain ⟨g', v, l, s1, rv, R'⟩ := R.read e1
    rw [← sett_eq] at R'
    exact w_var (by rw [o.hN]; exact atB_ok c1) (o.vis y c2) c3 c4 s1 (h g' v H l R' rv)⟩
theorem se_con (w : W) : SE tb N cl io cn f (.con w) := ⟨fun {XE X sc e} o c {sl σ H g b Q} R h => by
  unfold chkE at c
  cases hn : asCon e with
  | none => rw [hn] at c; cases c
  | some k =>
    rw [hn] at c
    obtain ⟨p, q, rfl⟩ := asCon_ok hn
    have c : conB w k = true := c
    unfold conB at c
    cases w with
    | non =>
      cases k <;> first
        | (cases c; done)
        | exact of_pe pe_non (h g _ H (Gh.le.refl g) R .non)
    | bl t =>
      cases k <;> first
        | (cases c; done)
        | (have e1 := eq_of_beq (show (t == _) = true from c)
           subst e1
           exact of_pe pe_bl (h g _ H (Gh.le.refl g) R (.bl _)))
    | int i =>
      cases k <;> first
        | (cases c; done)
        | (have e1 : eqI i _ = true := c
           rw [eqI_dec] at e1
           have e1 := of_decide_eq_true e1
           subst e1
           exact of_pe pe_int (h g _ H (Gh.le.refl g) R (.int _)))
    | str z =>
      cases k <;> first
        | (cases c; done)
        | (have e1 := eqS_iff.mp (show eqS z _ = true from c)
           subst e1
           exact of_pe pe_str (h g _ H (Gh.le.refl g) R (.str _)))
    | _ => cases c⟩
theorem se_glo (k : Nat) : SE tb N cl io cn f (.glo k) := ⟨fun {XE X sc e} o c {sl σ H g b Q} R h => by
  unfold chkE at c
  cases hn : asName e with
  | none => rw [hn] at c; cases c
  | some y =>
    rw [hn] at c
    obtain ⟨p, rfl⟩ := asName_ok hn
    simp only [Bool.and_eq_true, okN, Bool.not_eq_true'] at c
    obtain ⟨c1, c2, c3, c4, _⟩ := c
    obtain ⟨v, u, h1, h2, h3, _⟩ := o.con k y (atB_ok c1)
    exact of_pe (pe_glob (o.glo y c2) h1 h2 c3) (h g v H (Gh.le.refl g) R (h3 g))⟩
theorem se_tup {es : Exs} (S : AllX (SE tb N cl io cn f) es) : SE tb N cl io cn f (.tup es) := ⟨fun {XE X sc e} o c {sl σ H g b Q} R h => by
  unfold chkE at c
  cases hn : asTup e with
  | none => rw [hn] at c; cases c
  | some fs =>
    rw [hn] at c
    obtain ⟨p, q, rfl⟩ := asTup_ok hn
    refine w_tup (lA_ok S o c R (T.wb_mono (fun r b' k g' vs H' l R' rvs => ?_) (T.wb_bind.mp h)))
    obtain ⟨k1, k⟩ := T.wb_guard k
    refine ⟨by rw [← rvs.len]; exact Nat.le_of_ble_eq_true k1, fun p hp => ?_⟩
    obtain ⟨g2, l2, R2, rv⟩ := R'.newT hp rvs
    exact k g2 _ _ (l.trans l2) R2 rv⟩
theorem se_lst {es : Exs} (S : AllX (SE tb N cl io cn f) es) : SE tb N cl io cn f (.lst es) := ⟨fun {XE X sc e} o c {sl σ H g b Q} R h => by
  unfold chkE at c
  cases hn : asLst e with
  | none => rw [hn] at c; cases c
  | some fs =>
    rw [hn] at c
    obtain ⟨p, rfl⟩ := asLst_ok hn
    refine w_lst (lA_ok S o c R (T.wb_mono (fun r b' k g' vs H' l R' rvs => ?_) (T.wb_bind.mp h)))
    obtain ⟨k1, k⟩ := T.wb_guard k
    refine ⟨by rw [← rvs.len]; exact Nat.le_of_ble_eq_true k1, fun p hp => ?_⟩
    obtain ⟨R2, rv⟩ := R'.newL hp rvs
    exact k g' _ _ l R2 rv⟩
theorem se_tupS {l : Bool} {ms : List Bool} {es : Exs} (S : AllX (SE tb N cl io cn f) es) : SE tb N cl io cn f (.tupS l ms es) := ⟨fun {XE X sc e} o c {sl σ H g b Q} R h => by
  unfold chkE at c
  have h : ((lAS ms (evL cl io cn es) sl).bind fun p => T.guard (Nat.ble p.1.length sizeLine) (cond l (T.ok ((W.lst p.1, true), p.2)) (T.ok ((W.tup p.1, false), p.2)))).wb XE b _ := h
  cases l with
  | true =>
    have c : (match asLst e with
      | some fs => chkLS tb N sc ms es fs
      | none => false) = true := c
    cases hn : asLst e with
    | none => rw [hn] at c; cases c
    | some fs =>
      rw [hn] at c
      obtain ⟨p, rfl⟩ := asLst_ok hn
      refine w_lst (lAS_ok S o c R (T.wb_mono (fun r b' k g' vs H' l R' rvs => ?_) (T.wb_bind.mp h)))
      obtain ⟨k1, k⟩ := T.wb_guard k
      refine ⟨by rw [← rvs.len]; exact Nat.le_of_ble_eq_true k1, fun p hp => ?_⟩
      obtain ⟨R2, rv⟩ := R'.newL hp rvs
      exact k g' _ _ l R2 rv
  | false =>
    have c : (match asTup e with
      | some fs => chkLS tb N sc ms es fs
      | none => false) = true := c
    cases hn : asTup e with
    | none => rw [hn] at c; cases c
    | some fs =>
      rw [hn] at c
      obtain ⟨p, q, rfl⟩ := asTup_ok hn
      refine w_tup (lAS_ok S o c R (T.wb_mono (fun r b' k g' vs H' l R' rvs => ?_) (T.wb_bind.mp h)))
      obtain ⟨k1, k⟩ := T.wb_guard k
      refine ⟨by rw [← rvs.len]; exact Nat.le_of_ble_eq_true k1, fun p hp => ?_⟩
      obtain ⟨g2, l2, R2, rv⟩ := R'.newT hp rvs
      exact k g2 _ _ (l.trans l2) R2 rv⟩
theorem ints_rv {K : PySem.W.Frag} {G : Gx} {g : Gh} : ∀ is : List Int, RVs K G g (is.map W.int) (is.map V.int)
  | [] => .nil
  | i :: is => .cons (.int i) (ints_rv is)
theorem se_dnew : SE tb N cl io cn f .dnew := ⟨fun {XE X sc e} o c {sl σ H g b Q} R h => by
  unfold chkE at c
  cases hn : asDct e with
  | none => rw [hn] at c; cases c
  | some y =>
    rw [hn] at c
    obtain ⟨p, rfl⟩ := asDct_ok hn
    obtain ⟨ks, vs⟩ := y
    cases ks with
    | cons _ _ => cases c
    | nil =>
      cases vs with
      | cons _ _ => cases c
      | nil =>
        refine w_dnew fun p hp => ?_
        obtain ⟨R2, rv⟩ := R.newD hp (ws := []) (vs := []) .nil
        exact h g _ _ (Gh.le.refl g) R2 rv⟩
theorem ints_w : ∀ {is : List Int} {fs : List Expr}, intsB is fs = true → ∀ {H : Hp} {Q : List V → Hp → Prop}, Q (is.map V.int) H → tWA X fs σ H Q
  | [], fs, c, H, Q, q => by
    have c : fs.isEmpty = true := c
    rw [List.isEmpty_iff] at c
    subst c
    exact w_nil q
  | i :: is, [], c, H, Q, q => by cases c
  | i :: is, e :: fs, c, H, Q, q => by
    unfold intsB at c
    dsimp only at c
    rw [Bool.and_eq_true] at c
    obtain ⟨c1, c2⟩ := c
    cases hn : asCon e with
    | none => rw [hn] at c1; cases c1
    | some k =>
      rw [hn] at c1
      obtain ⟨p, r, rfl⟩ := asCon_ok hn
      cases k <;> first
        | (cases c1; done)
        | skip
      rename_i j
      have c1 : eqI i j = true := c1
      rw [eqI_dec] at c1
      have c1 := of_decide_eq_true c1
      subst c1
      exact w_cons rfl (of_pe pe_int (ints_w c2 q))
theorem se_dsp {x : Str} {is : List Int} : SE tb N cl io cn f (.dsp x is) := ⟨fun {XE X sc e} o c {sl σ H g b Q} R h => by
  unfold chkE at c
  cases hn : asDct e with
  | none => rw [hn] at c; cases c
  | some y =>
    rw [hn] at c
    obtain ⟨p, rfl⟩ := asDct_ok hn
    obtain ⟨ks, vs⟩ := y
    cases vs with
    | nil => cases c
    | cons v vs =>
      cases vs with
      | cons _ _ => cases c
      | nil =>
        dsimp only at c
        rw [Bool.and_eq_true] at c
        obtain ⟨c1, c2⟩ := c
        unfold keyB at c1
        cases ks with
        | nil => cases c1
        | cons k ks =>
          cases k with
          | none => cases c1
          | some k =>
            cases ks with
            | cons _ _ => cases c1
            | nil =>
              dsimp only at c1
              cases hk : asCon k with
              | none => rw [hk] at c1; cases c1
              | some kc =>
                rw [hk] at c1
                obtain ⟨p1, p2, rfl⟩ := asCon_ok hk
                cases kc <;> first
                  | (cases c1; done)
                  | skip
                rename_i y
                have c1 := eqS_iff.mp c1
                subst c1
                cases ht : asTup v with
                | none => rw [ht] at c2; cases c2
                | some fs =>
                  rw [ht] at c2
                  obtain ⟨q1, q2, rfl⟩ := asTup_ok ht
                  obtain ⟨k1, k⟩ := T.wb_guard (show (kDsp x is sl).wb XE b _ from h)
                  refine of_pe (pe_disp (pps_cons pe_w pe_w pps_nil) rfl rfl (by simp) (by simp)) fun p hp => ?_
                  refine of_pe pe_str ?_
                  refine w_tup (ints_w c2 ⟨by rw [List.length_map]; exact Nat.le_of_ble_eq_true k1, fun q hq => ?_⟩)
                  have qp : q ≠ p := fun z => by
                    rw [z, upd_same] at hq
                    cases hq
                  rw [upd_ne qp] at hq
                  refine ⟨by rw [upd_ne (Ne.symm qp), upd_same], [(.inr x, .ref q)], rfl, by simp, ?_⟩
                  obtain ⟨g2, l2, R2, rv⟩ := R.newT hq (vs := is.map V.int) (ws := is.map W.int) (ints_rv is)
                  obtain ⟨R3, rv3⟩ := R2.newD (p := p) (by rw [upd_ne (Ne.symm qp)]; exact hp) (ws := [(.inr x, .tup (is.map W.int))]) (vs := [(.inr x, .ref q)]) (.cons rv .nil)
                  have e : upd (upd (upd H p (.dK [])) q (.tup (is.map V.int))) p (.dK (mergeK [] [(.inr x, .ref q)])) = upd (upd H q (.tup (is.map V.int))) p (.dK [(.inr x, .ref q)]) := funext fun a => by
                    by_cases ha : a = p
                    · subst ha
                      rw [upd_same, upd_same]
                      rfl
                    · rw [upd_ne ha, upd_ne ha]
                      by_cases hq' : a = q
                      · subst hq'
                        rw [upd_same, upd_same]
                      · rw [upd_ne hq', upd_ne hq', upd_ne ha]
                  rw [e]
                  exact k g2 _ _ l2 R3 rv3⟩
/-- two operands, then an operation by values -/
theorem two_ok {x y : Ex} {e1 e2 : Expr} (Sx : SE tb N cl io cn f x) (Sy : SE tb N cl io cn f y) (o : Xok XE tb N cl io cn f X sc) (c1 : chkE tb N sc x e1 = true) (c2 : chkE tb N sc y e2 = true) (R : Rl f g b sl σ H)
    {P : V → V → Hp → Prop} {α : Type} {K : W → W → Sl → T α} {Post : α → Nat → Prop}
    (h : ((Ev.hd (isV x, evE cl io cn x) sl).bind fun p => (Ev.hd (isV y, evE cl io cn y) p.2).bind fun q => (p.1.get q.2).bind fun u => (q.1.get q.2).bind fun w => K u w q.2).wb XE b Post)
    (k : ∀ u w sl' g' H' b' v1 v2, g.le g' → Rl f g' b' sl' σ H' → PV f g' H' u v1 → PV f g' H' w v2 → (K u w sl').wb XE b' Post → P v1 v2 H') :
    tW X e1 σ H fun v1 H1 => tW X e2 σ H1 fun v2 H2 => P v1 v2 H2 := by
  refine Sx.hd o c1 R (T.wb_mono (fun p b1 k1 g1 v1 H1 l1 R1 hv1 => ?_) (T.wb_bind.mp h))
  refine Sy.hd o c2 R1 (T.wb_mono (fun q b2 k2 g2 v2 H2 l2 R2 hv2 => ?_) (T.wb_bind.mp k1))
  obtain ⟨u, k3, pu⟩ := (hv1.le l2).get R2 (T.wb_bind.mp k2)
  obtain ⟨w, k4, pw⟩ := hv2.get R2 (T.wb_bind.mp k3)
  exact k u w q.2 g2 H2 b2 v1 v2 (l1.trans l2) R2 pu pw k4
theorem se_op {p : Op2} {x y : Ex} (Sx : SE tb N cl io cn f x) (Sy : SE tb N cl io cn f y) : SX tb N cl io cn f (.op p x y) := by
  have main : ∀ {XE : XP} {X : Cx} {sc : Scope} {e1 e2 : Expr} {sl : Sl} {σ : St} {H : Hp} {g : Gh} {b : Nat} {Q : VK}, Xok XE tb N cl io cn f X sc → chkE tb N sc x e1 = true → chkE tb N sc y e2 = true → Rl f g b sl σ H →
      (evE cl io cn (.op p x y) sl).wb XE b (fun r b' => ∀ g' v H', g.le g' → Rl f g' b' r.2 σ H' → Vl f g' H' r.2 σ r.1 v → Q v H') →
      tW X e1 σ H fun v1 H1 => tW X e2 σ H1 fun v2 H2 => OpW X (opF p) v1 v2 H2 Q := fun {XE X sc e1 e2 sl σ H g b Q} o c1 c2 R h => by
    refine two_ok (K := fun u w s => (op2 p u w).bind fun r => .ok (r, s)) Sx Sy o c1 c2 R h fun u w sl' g' H' b' v1 v2 l R' pu pw k => ?_
    refine op2_ok p o.bx.u64 o.bx.hK R' pu pw (T.wb_mono (fun r b3 k3 => ?_) (T.wb_bind.mp k))
    exact fun g3 v H3 l3 R3 vl => k3 g3 v H3 (l.trans l3) R3 vl
  refine ⟨⟨fun {XE X sc e} o c {sl σ H g b Q} R h => ?_⟩, ⟨fun {XE X sc e} o c {sl σ H g b Q} R h => ?_⟩⟩
  · unfold chkE at c
    cases hb : asBin e with
    | some t =>
      rw [hb] at c
      obtain ⟨pp, rfl⟩ := asBin_ok hb
      obtain ⟨a', q, b'⟩ := t
      have c : (opB p q && (chkE tb N sc x a' && chkE tb N sc y b')) = true := c
      simp only [Bool.and_eq_true] at c
      refine w_bin ?_
      rw [← opB_ok c.1]
      exact main o c.2.1 c.2.2 R h
    | none =>
      rw [hb] at c
      dsimp only at c
      split at c
      · rename_i hc
        obtain ⟨pp, rfl⟩ := asCmp_ok hc
        simp only [Bool.and_eq_true, Bool.not_eq_true'] at c
        refine w_cmp c.2.1 ?_
        rw [← cmB_ok c.1]
        exact main o c.2.2.1 c.2.2.2 R h
      · cases c
  · have hb2 : (evE cl io cn (.op p x y) sl).wb XE b (fun r b' => ∀ g' v H', g.le g' → Rl f g' b' r.2 σ H' → Vl f g' H' r.2 σ r.1 v → ∃ k, v = .bl k ∧ Q k H') := by
      refine T.wb_mono (fun r b' k g' v H' l R' vl => ?_) h
      obtain ⟨t, e1, k⟩ := k
      obtain ⟨⟨w, fr⟩, sl'⟩ := r
      have e1 : w = .bl t := e1
      subst e1
      cases fr with
      | false => cases vl; exact ⟨t, rfl, k g' H' l R'⟩
      | true =>
        obtain ⟨a, _, z, _⟩ := vl
        exact z.elim
    unfold chkE at c
    cases hb : asBin e with
    | some t =>
      rw [hb] at c
      obtain ⟨pp, rfl⟩ := asBin_ok hb
      obtain ⟨a', q, b'⟩ := t
      have c : (opB p q && (chkE tb N sc x a' && chkE tb N sc y b')) = true := c
      simp only [Bool.and_eq_true] at c
      refine w_valT rfl (w_bin ?_)
      rw [← opB_ok c.1]
      exact main o c.2.1 c.2.2 R hb2
    | none =>
      rw [hb] at c
      dsimp only at c
      split at c
      · rename_i hc
        obtain ⟨pp, rfl⟩ := asCmp_ok hc
        simp only [Bool.and_eq_true, Bool.not_eq_true'] at c
        refine w_cmpT c.2.1 ?_
        rw [← cmB_ok c.1]
        exact main o c.2.2.1 c.2.2.2 R hb2
      · cases c
theorem se_neg {x : Ex} (S : SE tb N cl io cn f x) : SE tb N cl io cn f (.neg x) := ⟨fun {XE X sc e} o c {sl σ H g b Q} R h => by
  unfold chkE at c
  split at c
  · rename_i hc
    obtain ⟨pp, rfl⟩ := asUn_ok hc
    refine w_neg (S.int o c R (T.wb_mono (fun r b' k => ?_) (T.wb_bind.mp h)))
    obtain ⟨⟨w, fr⟩, sl'⟩ := r
    cases w <;> first
      | exact k.elim
      | exact ⟨_, rfl, fun g' H' l R' => k g' _ H' l R' (.int _)⟩
  · cases c⟩
theorem se_not {x : Ex} (S : SX tb N cl io cn f x) : SX tb N cl io cn f (.not x) := by
  refine ⟨⟨fun {XE X sc e} o c {sl σ H g b Q} R h => ?_⟩, ⟨fun {XE X sc e} o c {sl σ H g b Q} R h => ?_⟩⟩
  · unfold chkE at c
    split at c
    · rename_i hc
      obtain ⟨pp, rfl⟩ := asUn_ok hc
      refine w_not (S.1.bool o c R (T.wb_mono (fun r b' k => ?_) (T.wb_bind.mp h)))
      obtain ⟨t, e1, k⟩ := boolOf_wb (T.wb_bind.mp k)
      exact ⟨t, e1, fun g' H' l R' => k g' _ H' l R' (.bl _)⟩
    · cases c
  · unfold chkE at c
    split at c
    · rename_i hc
      obtain ⟨pp, rfl⟩ := asUn_ok hc
      refine w_notT (S.2.run o c R (T.wb_mono (fun r b' k => ?_) (T.wb_bind.mp h)))
      obtain ⟨t, e1, k⟩ := boolOf_wb (T.wb_bind.mp k)
      obtain ⟨t2, e2, k⟩ := k
      have e2 : W.bl (!t) = .bl t2 := e2
      cases e2
      exact ⟨t, e1, fun g' H' l R' => k g' H' l R'⟩
    · cases c
/-- and, or: rows -/
theorem and_ok : ∀ {es : Exs} {fs : List Expr} {e : Expr} {pos : Pos}, AllX (SX tb N cl io cn f) es → Xok XE tb N cl io cn f X sc → chkL tb N sc es (e :: fs) = true → ∀ {sl : Sl} {H : Hp} {g : Gh} {b : Nat}, Rl f g b sl σ H → (∀ {Q : VK},
    (lAnd (evL cl io cn es) sl).wb XE b (fun p b' => ∀ g' H', g.le g' → Rl f g' b' p.2 σ H' → Q (.bl p.1) H') → tW X (.BoolOp .And (e :: fs) pos) σ H Q) ∧ (∀ {Q : Bool → Hp → Prop},
    (lAnd (evL cl io cn es) sl).wb XE b (fun p b' => ∀ g' H', g.le g' → Rl f g' b' p.2 σ H' → Q p.1 H') → tWW X (.BoolOp .And (e :: fs) pos) σ H Q)
  | .nil, _, _, _, _, _, c, _, _, _, _, _ => by cases c
  | .cons x es, fs, e, pos, S, o, c, sl, H, g, b, R => by
    have c : (!starB e && (chkE tb N sc x e && chkL tb N sc es fs)) = true := c
    simp only [Bool.and_eq_true, Bool.not_eq_true'] at c
    refine ⟨fun {Q} h => ?_, fun {Q} h => ?_⟩
    · cases fs with
      | nil =>
        have e0 : es = .nil := by
          cases es with
          | nil => rfl
          | cons _ _ => cases c.2.2
        subst e0
        refine w_one (tW.mono (S.1.1.bool o c.2.1 R (P := fun t H1 => Q (.bl t) H1) (T.wb_mono (fun r b' k => ?_) (T.wb_bind.mp h))) fun v H' ⟨t, e1, q⟩ => by subst e1; exact q)
        obtain ⟨t, e1, k⟩ := boolOf_wb (T.wb_bind.mp k)
        refine ⟨t, e1, fun g' H' l R' => ?_⟩
        cases t with
        | true => exact k g' H' l R'
        | false => exact k g' H' l R'
      | cons e2 fs =>
        refine w_and (S.1.1.bool o c.2.1 R (P := fun t H1 => if t = true then tW X (.BoolOp .And (e2 :: fs) pos) σ H1 Q else Q (.bl false) H1) (T.wb_mono (fun r b' k => ?_) (T.wb_bind.mp h)))
        obtain ⟨t, e1, k⟩ := boolOf_wb (T.wb_bind.mp k)
        refine ⟨t, e1, fun g' H' l R' => ?_⟩
        cases t with
        | true =>
          rw [if_pos rfl]
          exact (and_ok S.2 o c.2.2 R').1 (T.wb_mono (fun p b2 k2 g2 H2 l2 R2 => k2 g2 H2 (l.trans l2) R2) k)
        | false =>
          rw [if_neg (by decide)]
          exact k g' H' l R'
    · cases fs with
      | nil =>
        have e0 : es = .nil := by
          cases es with
          | nil => rfl
          | cons _ _ => cases c.2.2
        subst e0
        refine w_oneW1 (S.1.2.run o c.2.1 R (T.wb_mono (fun r b' k => ?_) (T.wb_bind.mp h)))
        obtain ⟨t, e1, k⟩ := boolOf_wb (T.wb_bind.mp k)
        refine ⟨t, e1, fun g' H' l R' => ?_⟩
        cases t with
        | true => exact k g' H' l R'
        | false => exact k g' H' l R'
      | cons e2 fs =>
        refine w_andW (S.1.2.run o c.2.1 R (T.wb_mono (fun r b' k => ?_) (T.wb_bind.mp h)))
        obtain ⟨t, e1, k⟩ := boolOf_wb (T.wb_bind.mp k)
        refine ⟨t, e1, fun g' H' l R' => ?_⟩
        cases t with
        | true =>
          rw [if_pos rfl]
          exact (and_ok S.2 o c.2.2 R').2 (T.wb_mono (fun p b2 k2 g2 H2 l2 R2 => k2 g2 H2 (l.trans l2) R2) k)
        | false =>
          rw [if_neg (by decide)]
          exact k g' H' l R'
theorem or_ok : ∀ {es : Exs} {fs : List Expr} {e : Expr} {pos : Pos}, AllX (SX tb N cl io cn f) es → Xok XE tb N cl io cn f X sc → chkL tb N sc es (e :: fs) = true → ∀ {sl : Sl} {H : Hp} {g : Gh} {b : Nat}, Rl f g b sl σ H → (∀ {Q : VK},
    (lOr (evL cl io cn es) sl).wb XE b (fun p b' => ∀ g' H', g.le g' → Rl f g' b' p.2 σ H' → Q (.bl p.1) H') → tW X (.BoolOp .Or (e :: fs) pos) σ H Q) ∧ (∀ {Q : Bool → Hp → Prop},
    (lOr (evL cl io cn es) sl).wb XE b (fun p b' => ∀ g' H', g.le g' → Rl f g' b' p.2 σ H' → Q p.1 H') → tWW X (.BoolOp .Or (e :: fs) pos) σ H Q)
  | .nil, _, _, _, _, _, c, _, _, _, _, _ => by cases c
  | .cons x es, fs, e, pos, S, o, c, sl, H, g, b, R => by
    have c : (!starB e && (chkE tb N sc x e && chkL tb N sc es fs)) = true := c
    simp only [Bool.and_eq_true, Bool.not_eq_true'] at c
    refine ⟨fun {Q} h => ?_, fun {Q} h => ?_⟩
    · cases fs with
      | nil =>
        have e0 : es = .nil := by
          cases es with
          | nil => rfl
          | cons _ _ => cases c.2.2
        subst e0
        refine w_one (tW.mono (S.1.1.bool o c.2.1 R (P := fun t H1 => Q (.bl t) H1) (T.wb_mono (fun r b' k => ?_) (T.wb_bind.mp h))) fun v H' ⟨t, e1, q⟩ => by subst e1; exact q)
        obtain ⟨t, e1, k⟩ := boolOf_wb (T.wb_bind.mp k)
        refine ⟨t, e1, fun g' H' l R' => ?_⟩
        cases t with
        | true => exact k g' H' l R'
        | false => exact k g' H' l R'
      | cons e2 fs =>
        refine w_or (S.1.1.bool o c.2.1 R (P := fun t H1 => if t = true then Q (.bl true) H1 else tW X (.BoolOp .Or (e2 :: fs) pos) σ H1 Q) (T.wb_mono (fun r b' k => ?_) (T.wb_bind.mp h)))
        obtain ⟨t, e1, k⟩ := boolOf_wb (T.wb_bind.mp k)
        refine ⟨t, e1, fun g' H' l R' => ?_⟩
        cases t with
        | false =>
          rw [if_neg (by decide)]
          exact (or_ok S.2 o c.2.2 R').1 (T.wb_mono (fun p b2 k2 g2 H2 l2 R2 => k2 g2 H2 (l.trans l2) R2) k)
        | true =>
          rw [if_pos rfl]
          exact k g' H' l R'
    · cases fs with
      | nil =>
        have e0 : es = .nil := by
          cases es with
          | nil => rfl
          | cons _ _ => cases c.2.2
        subst e0
        refine w_oneW2 (S.1.2.run o c.2.1 R (T.wb_mono (fun r b' k => ?_) (T.wb_bind.mp h)))
        obtain ⟨t, e1, k⟩ := boolOf_wb (T.wb_bind.mp k)
        refine ⟨t, e1, fun g' H' l R' => ?_⟩
        cases t with
        | true => exact k g' H' l R'
        | false => exact k g' H' l R'
      | cons e2 fs =>
        refine w_orW (S.1.2.run o c.2.1 R (T.wb_mono (fun r b' k => ?_) (T.wb_bind.mp h)))
        obtain ⟨t, e1, k⟩ := boolOf_wb (T.wb_bind.mp k)
        refine ⟨t, e1, fun g' H' l R' => ?_⟩
        cases t with
        | false =>
          rw [if_neg (by decide)]
          exact (or_ok S.2 o c.2.2 R').2 (T.wb_mono (fun p b2 k2 g2 H2 l2 R2 => k2 g2 H2 (l.trans l2) R2) k)
        | true =>
          rw [if_pos rfl]
          exact k g' H' l R'
theorem se_and {es : Exs} (S : AllX (SX tb N cl io cn f) es) : SX tb N cl io cn f (.and es) := by
  refine ⟨⟨fun {XE X sc e} o c {sl σ H g b Q} R h => ?_⟩, ⟨fun {XE X sc e} o c {sl σ H g b Q} R h => ?_⟩⟩
  · unfold chkE at c
    split at c
    · rename_i hc
      obtain ⟨pp, rfl⟩ := asBool_ok hc
      exact (and_ok S o c R).1 (T.wb_mono (fun p b' k g' H' l R' => k g' _ H' l R' (.bl _)) (T.wb_bind.mp h))
    · cases c
  · unfold chkE at c
    split at c
    · rename_i hc
      obtain ⟨pp, rfl⟩ := asBool_ok hc
      refine tWW.t ((and_ok S o c R).2 (T.wb_mono (fun p b' k g' H' l R' => ?_) (T.wb_bind.mp h)))
      obtain ⟨t, e1, k⟩ := k
      have e1 : W.bl p.1 = .bl t := e1
      cases e1
      exact k g' H' l R'
    · cases c
theorem se_or {es : Exs} (S : AllX (SX tb N cl io cn f) es) : SX tb N cl io cn f (.or es) := by
  refine ⟨⟨fun {XE X sc e} o c {sl σ H g b Q} R h => ?_⟩, ⟨fun {XE X sc e} o c {sl σ H g b Q} R h => ?_⟩⟩
  · unfold chkE at c
    split at c
    · rename_i hc
      obtain ⟨pp, rfl⟩ := asBool_ok hc
      exact (or_ok S o c R).1 (T.wb_mono (fun p b' k g' H' l R' => k g' _ H' l R' (.bl _)) (T.wb_bind.mp h))
    · cases c
  · unfold chkE at c
    split at c
    · rename_i hc
      obtain ⟨pp, rfl⟩ := asBool_ok hc
      refine tWW.t ((or_ok S o c R).2 (T.wb_mono (fun p b' k g' H' l R' => ?_) (T.wb_bind.mp h)))
      obtain ⟨t, e1, k⟩ := k
      have e1 : W.bl p.1 = .bl t := e1
      cases e1
      exact k g' H' l R'
    · cases c
/-! ### chains, choices, subscripts -/
theorem bl_of {r : R} {v : V} {t : Bool} (e : r.1 = .bl t) (vl : Vl f g H sl σ r v) : v = .bl t := by
  obtain ⟨w, fr⟩ := r
  have e : w = .bl t := e
  subst e
  cases fr with
  | false => cases vl; rfl
  | true =>
    obtain ⟨a, _, z, _⟩ := vl
    exact z.elim
theorem se_chain {p q : Op2} {x y z : Ex} (Sx : SE tb N cl io cn f x) (Sy : SE tb N cl io cn f y) (Sz : SE tb N cl io cn f z) : SX tb N cl io cn f (.chain p q x y z) := by
  have main : ∀ {XE : XP} {X : Cx} {sc : Scope} {e1 e2 e3 : Expr} {sl : Sl} {σ : St} {H : Hp} {g : Gh} {b : Nat} {Q : VK}, Xok XE tb N cl io cn f X sc → chkE tb N sc x e1 = true → chkE tb N sc y e2 = true → chkE tb N sc z e3 = true → Rl f g b sl σ H →
      (evE cl io cn (.chain p q x y z) sl).wb XE b (fun r b' => ∀ g' v H', g.le g' → Rl f g' b' r.2 σ H' → Vl f g' H' r.2 σ r.1 v → Q v H') →
      tW X e1 σ H fun v1 H1 => tW X e2 σ H1 fun v2 H2 => OpW X (opF p) v1 v2 H2 fun u H3 => ∃ k, u = .bl k ∧ (if k = true then tW X e3 σ H3 fun v3 H4 => OpW X (opF q) v2 v3 H4 Q else Q (.bl false) H3) := fun {XE X sc e1 e2 e3 sl σ H g b Q} o c1 c2 c3 R h => by
    refine Sx.hd o c1 R (T.wb_mono (fun p1 b1 k1 g1 v1 H1 l1 R1 hv1 => ?_) (T.wb_bind.mp (show (kChain p q _ _ _ sl).wb XE b _ from h)))
    refine Sy.hd o c2 R1 (T.wb_mono (fun q1 b2 k2 g2 v2 H2 l2 R2 hv2 => ?_) (T.wb_bind.mp k1))
    obtain ⟨u, k3, pu⟩ := (hv1.le l2).get R2 (T.wb_bind.mp k2)
    obtain ⟨w, k4, pw⟩ := hv2.get R2 (T.wb_bind.mp k3)
    refine op2_ok p o.bx.u64 o.bx.hK R2 pu pw (T.wb_mono (fun r b3 k5 g3 v3 H3 l3 R3 vl3 => ?_) (T.wb_bind.mp k4))
    obtain ⟨t, e1, k6⟩ := boolOf_wb (T.wb_bind.mp k5)
    have ev := bl_of e1 vl3
    subst ev
    refine ⟨t, rfl, ?_⟩
    cases t with
    | false =>
      rw [if_neg (by decide)]
      exact k6 g3 _ H3 ((l1.trans l2).trans l3) R3 (.bl _)
    | true =>
      rw [if_pos rfl]
      refine Sz.hd o c3 R3 (T.wb_mono (fun u1 b4 k7 g4 v4 H4 l4 R4 hv4 => ?_) (T.wb_bind.mp k6))
      obtain ⟨w2, k8, pw2⟩ := ((hv2.le l3).le l4).get R4 (T.wb_bind.mp k7)
      obtain ⟨w3, k9, pw3⟩ := hv4.get R4 (T.wb_bind.mp k8)
      refine op2_ok q o.bx.u64 o.bx.hK R4 pw2 pw3 (T.wb_mono (fun r b5 k10 g5 v5 H5 l5 R5 vl5 => ?_) (T.wb_bind.mp k9))
      exact k10 g5 v5 H5 (((l1.trans l2).trans l3).trans (l4.trans l5)) R5 vl5
  refine ⟨⟨fun {XE X sc e} o c {sl σ H g b Q} R h => ?_⟩, ⟨fun {XE X sc e} o c {sl σ H g b Q} R h => ?_⟩⟩
  · unfold chkE at c
    split at c
    · rename_i hc
      obtain ⟨pp, rfl⟩ := asCmp_ok hc
      simp only [Bool.and_eq_true, Bool.not_eq_true'] at c
      refine w_chain c.2.2.1 ?_
      rw [← cmB_ok c.1, ← cmB_ok c.2.1]
      exact main o c.2.2.2.1 c.2.2.2.2.1 c.2.2.2.2.2 R h
    · cases c
  · have hb2 : (evE cl io cn (.chain p q x y z) sl).wb XE b (fun r b' => ∀ g' v H', g.le g' → Rl f g' b' r.2 σ H' → Vl f g' H' r.2 σ r.1 v → ∃ k, v = .bl k ∧ Q k H') := by
      refine T.wb_mono (fun r b' k g' v H' l R' vl => ?_) h
      obtain ⟨t, e1, k⟩ := k
      exact ⟨t, bl_of e1 vl, k g' H' l R'⟩
    unfold chkE at c
    split at c
    · rename_i hc
      obtain ⟨pp, rfl⟩ := asCmp_ok hc
      simp only [Bool.and_eq_true, Bool.not_eq_true'] at c
      refine w_chainT c.2.2.1 ?_
      rw [← cmB_ok c.1, ← cmB_ok c.2.1]
      exact main o c.2.2.2.1 c.2.2.2.2.1 c.2.2.2.2.2 R hb2
    · cases c
theorem se_ite {x y z : Ex} (Sx : ST tb N cl io cn f x) (Sy : SE tb N cl io cn f y) (Sz : SE tb N cl io cn f z) : SE tb N cl io cn f (.ite x y z) := ⟨fun {XE X sc e} o c {sl σ H g b Q} R h => by
  unfold chkE at c
  split at c
  · rename_i hc
    obtain ⟨pp, rfl⟩ := asIf_ok hc
    simp only [Bool.and_eq_true] at c
    refine w_ite (Sx.run o c.1 R (T.wb_mono (fun r b' k => ?_) (T.wb_bind.mp (show (kIte _ _ _ sl).wb XE b _ from h))))
    obtain ⟨t, e1, k⟩ := boolOf_wb (T.wb_bind.mp k)
    refine ⟨t, e1, fun g' H' l R' => ?_⟩
    cases t with
    | true =>
      rw [if_pos rfl]
      exact Sy.run o c.2.1 R' (T.wb_mono (fun r b2 k2 g2 v H2 l2 R2 vl => k2 g2 v H2 (l.trans l2) R2 vl) k)
    | false =>
      rw [if_neg (by decide)]
      exact Sz.run o c.2.2 R' (T.wb_mono (fun r b2 k2 g2 v H2 l2 R2 vl => k2 g2 v H2 (l.trans l2) R2 vl) k)
  · cases c⟩
theorem se_idx {x y : Ex} (Sx : SE tb N cl io cn f x) (Sy : SE tb N cl io cn f y) : SE tb N cl io cn f (.idx x y) := ⟨fun {XE X sc e} o c {sl σ H g b Q} R h => by
  unfold chkE at c
  split at c
  · rename_i hc
    obtain ⟨pp, rfl⟩ := asSub_ok hc
    simp only [Bool.and_eq_true, Bool.not_eq_true'] at c
    refine w_idx (plainIx c.1) (two_ok (K := fun u w s => (idxW u w).bind fun w => .ok ((w, false), s)) Sx Sy o c.2.1 c.2.2 R h fun u w sl' g' H' b' v1 v2 l R' pu pw k => ?_)
    exact idx_ok o.bx.u64 o.bx.hK R' pu pw (T.wb_bind.mp k) fun w v k rv => k g' v H' l R' rv
  · cases c⟩
def AllO (P : Ex → Prop) : Option Ex → Prop
  | none => True
  | some x => P x
theorem part_ok {x : Option Ex} {e : Option Expr} (S : AllO (SE tb N cl io cn f) x) (o : Xok XE tb N cl io cn f X sc) (c : chkO tb N sc x e = true) (R : Rl f g b sl σ H) {P : Option Int → Hp → Prop}
    (h : (oInt (evO cl io cn x) sl).wb XE b (fun q b' => ∀ g' H', g.le g' → Rl f g' b' q.2 σ H' → P q.1 H')) : tWO X e σ H P := by
  cases x with
  | none =>
    have c : e.isNone = true := c
    cases e with
    | some _ => cases c
    | none => exact h g H (Gh.le.refl g) R
  | some x =>
    cases e with
    | none => cases c
    | some e =>
      have S : SE tb N cl io cn f x := S
      refine S.int (P := fun i H1 => _) o c R (T.wb_mono (fun r b' k => ?_) (T.wb_bind.mp h))
      obtain ⟨⟨w, fr⟩, sl'⟩ := r
      cases w <;> first
        | exact k.elim
        | skip
      obtain ⟨k1, k⟩ := T.wb_guard k
      simp only [fits62, Bool.and_eq_true, decide_eq_true_eq] at k1
      exact ⟨_, rfl, fun g' H' l R' => k g' H' l R'⟩
theorem se_sli {x : Ex} {lo hi : Option Ex} (Sx : SE tb N cl io cn f x) (Sl : AllO (SE tb N cl io cn f) lo) (Sh : AllO (SE tb N cl io cn f) hi) : SE tb N cl io cn f (.sli x lo hi) := ⟨fun {XE X sc e} o c {sl σ H g b Q} R h => by
  unfold chkE at c
  split at c
  · rename_i hc
    obtain ⟨pp, rfl⟩ := asSub_ok hc
    split at c
    · rename_i hs
      obtain ⟨pq, rfl⟩ := asSli_ok hs
      simp only [Bool.and_eq_true] at c
      refine w_sli (Sx.hd o c.1 R (T.wb_mono (fun p b1 k1 g1 v1 H1 l1 R1 hv1 => ?_) (T.wb_bind.mp (show (kSli _ _ _ sl).wb XE b _ from h))))
      refine part_ok Sl o c.2.1 R1 (T.wb_mono (fun q b2 k2 g2 H2 l2 R2 => ?_) (T.wb_bind.mp k1))
      refine part_ok Sh o c.2.2 R2 (T.wb_mono (fun r b3 k3 g3 H3 l3 R3 => ?_) (T.wb_bind.mp k2))
      obtain ⟨u, k4, pu⟩ := ((hv1.le l2).le l3).get R3 (T.wb_bind.mp k3)
      exact sli_ok o.bx.hK R3 pu (T.wb_mono (fun w b4 k5 g4 v H4 l4 R4 vl => k5 g4 v H4 (((l1.trans l2).trans l3).trans l4) R4 vl) (T.wb_bind.mp k4))
    · cases c
  · cases c⟩
end
end Ev
end
end
section
set_option Elab.async false
set_option linter.all false
set_option maxRecDepth 100000
set_option maxHeartbeats 2000000
/-! EvExp2: built-ins, draws, calls, ranges as rows. -/
noncomputable section
namespace Ev
open PySem L2
set_option autoImplicit false
variable {XE : XP}
section
variable {tb : Tb} {N : List Str} {cl : Cl} {io : Nat → List Bool} {cn : Nat → W} {f : Fm}
variable {X : Cx} {sc : Scope} {e : Expr} {sl : Sl} {σ : St} {H : Hp} {g : Gh} {b : Nat} {Q : VK}

theorem biBoot (t : Bi) : bootBuiltins (biN t) = some (biV t) := by
  cases t <;> first
    | exact PyProof.Rows.boot_len
    | exact PyProof.Rows.boot_int
    | exact PyProof.Rows.boot_repr
    | exact PyProof.Rows.boot_tuple
    | exact PyProof.Rows.boot_list
    | exact PyProof.Rows.boot_sum
    | exact PyProof.Rows.boot_sorted
    | exact PyProof.Rows.boot_dict
    | exact PyProof.Rows.boot_min
    | exact PyProof.Rows.boot_max
    | exact PyProof.Rows.boot_abs
    | exact PyProof.Rows.boot_all
    | exact PyProof.Rows.boot_any
    | exact PyProof.Rows.boot_isinstance
    | exact PySem.boot_len
theorem biBad (t : Bi) : biN t ≠ "__name__" ∧ (biN t == ("__debug__" : Str)) = false ∧ biN t ∈ allBi := by
  cases t <;> exact ⟨by decide +kernel, by decide +kernel, by decide +kernel⟩
/-- a call of a built-in by its name -/
theorem w_callBi (t : Bi) {es : List Expr} {p pos : Pos} (hg : Gl X (biN t)) (hm : X.mg (biN t) = none) (hs : (e :: es).all (fun e => !starB e) = true)
    (h : tWA X (e :: es) σ H fun vs H1 => CallW X (biV t) vs H1 Q) : tW X (.Call (.Name (biN t) p) (e :: es) [] pos) σ H Q := by
  obtain ⟨n1, n2, _⟩ := biBad t
  have hb := biBoot t
  cases t <;> first
    | exact w_callB hg hm hb n1 n2 hs h
    | exact w_callTy hg hm hb n1 n2 hs h
theorem tyBoot {t : Bi} {n : String} (h : biT t = some n) : bootBuiltins (tyN n) = some (.type n) ∧ tyN n ≠ "__name__" ∧ (tyN n == ("__debug__" : Str)) = false ∧ tyN n ∈ allBi := by
  cases t <;> first
    | (cases h; done)
    | (cases h; refine ⟨?_, by decide +kernel, by decide +kernel, by decide +kernel⟩; first
        | exact PyProof.Rows.boot_int
        | exact PyProof.Rows.boot_bool
        | exact PyProof.Rows.boot_str
        | exact PyProof.Rows.boot_tuple
        | exact PyProof.Rows.boot_list
        | exact PyProof.Rows.boot_dict)
theorem se_bi {t : Bi} {es : Exs} (S : AllX (SE tb N cl io cn f) es) : SX tb N cl io cn f (.bi t es) := by
  have go : SE tb N cl io cn f (.bi t es) := ⟨fun {XE X sc e} o c {sl σ H g b Q} R h => by
    unfold chkE at c
    cases hc : calls sc (biN t) e with
    | none => rw [hc] at c; cases c
    | some fs =>
      rw [hc] at c
      obtain ⟨p, q, rfl, hg⟩ := calls_ok hc
      have hm := o.bi _ (biBad t).2.2
      have h : (kBi t (evL cl io cn es) sl).wb XE b _ := h
      cases ht : biT t with
      | none =>
        rw [ht] at c
        have c : chkL tb N sc es fs = true := c
        cases fs with
        | nil =>
          cases es with
          | cons _ _ => cases c
          | nil => exact (show T.wb XE ((biW t []).bind fun r => T.ok (r, sl)) b _ from h).elim
        | cons f1 fs =>
          refine w_callBi t (o.glo _ hg) hm (chkL_star c) (lH_ok S o c R (T.wb_mono (fun r b' k g' vs H' l R' hvs => ?_) (T.wb_bind.mp h)))
          obtain ⟨ws, k2, ps⟩ := hvs.get R' (T.wb_bind.mp k)
          have r2 := bi_ok (X := X) (Q := Q) o.bx o.hh R' ps t (T.wb_mono (fun r2 b2 k3 g2 v H2 l2 R2 vl => k3 g2 v H2 (l.trans l2) R2 vl) (T.wb_bind.mp k2))
          rw [show biX t = [] by unfold biX; rw [ht], List.append_nil] at r2
          exact r2
      | some n =>
        rw [ht] at c
        dsimp only at c
        split at c
        · rename_i f1 u
          rw [Bool.and_eq_true] at c
          obtain ⟨c1, c2⟩ := c
          cases hn : asName u with
          | none => rw [hn] at c2; cases c2
          | some y =>
            rw [hn] at c2
            obtain ⟨p2, rfl⟩ := asName_ok hn
            have c2 : (eqS y (tyN n) && gloB sc y) = true := c2
            rw [Bool.and_eq_true] at c2
            obtain ⟨c2, c3⟩ := c2
            have e2 := eqS_iff.mp c2
            subst e2
            obtain ⟨q1, q2, q3, q4⟩ := tyBoot ht
            have hs := chkL_star c1
            rw [List.all_cons, Bool.and_eq_true] at hs
            have c1' := c1
            cases es with
            | nil => cases c1
            | cons x xs =>
              cases xs with
              | cons _ _ =>
                have c1 : (!starB f1 && (chkE tb N sc x f1 && chkL tb N sc _ [])) = true := c1
                simp only [Bool.and_eq_true] at c1
                cases c1.2.2
              | nil =>
                have c1 : (!starB f1 && (chkE tb N sc x f1 && chkL tb N sc .nil [])) = true := c1
                simp only [Bool.and_eq_true, Bool.not_eq_true'] at c1
                refine w_callBi t (o.glo _ hg) hm (by rw [List.all_cons, hs.1]; rfl) ?_
                refine w_cons c1.1 (S.1.hd o c1.2.1 R (T.wb_mono (fun r b' k g' v H' l R' hv => ?_) (T.wb_bind.mp (T.wb_bind.mp h))))
                refine w_cons rfl (of_pe (pe_bltn (v := .ty n) (o.glo _ c3) (o.bi _ q4) q1 rfl q2 q3) (w_nil ?_))
                have k : T.wb XE ((getAll [r.1] r.2).bind fun ws => (biW t ws).bind fun x => T.ok (x, r.2)) b' _ := k
                obtain ⟨ws, k2, ps⟩ := HVs.get (hs := [r.1]) R' (.cons hv .nil) (T.wb_bind.mp k)
                have r2 := bi_ok (X := X) (Q := Q) o.bx o.hh R' ps t (T.wb_mono (fun r2 b2 k3 g2 v H2 l2 R2 vl => k3 g2 v H2 (l.trans l2) R2 vl) (T.wb_bind.mp k2))
                rw [show biX t = [.ty n] by unfold biX; rw [ht]] at r2
                exact r2
        · cases c⟩
  refine ⟨go, ST.of go fun {sc e} c => ?_⟩
  unfold chkE at c
  cases hc : calls sc (biN t) e with
  | none => rw [hc] at c; cases c
  | some fs =>
    obtain ⟨p, q, rfl, hg⟩ := calls_ok hc
    rfl
theorem rng_rvs : ∀ (n : Nat) (a : Int), RVs f.K f.G g (rngL a n) ((List.range n).map fun i => V.int (a + (i : Nat)))
  | 0, _ => .nil
  | n + 1, a => by
    rw [List.range_succ_eq_map, List.map_cons, List.map_map]
    have h := rng_rvs n (a + 1)
    have e1 : (List.range n).map ((fun i : Nat => V.int (a + (i : Nat))) ∘ Nat.succ) = (List.range n).map fun i => V.int (a + 1 + (i : Nat)) := by
      refine List.map_congr_left fun i _ => ?_
      show V.int (a + ((i + 1 : Nat) : Int)) = V.int (a + 1 + (i : Nat))
      congr 1
      omega
    rw [e1]
    have e0 : V.int (a + ((0 : Nat) : Int)) = V.int a := by congr 1; omega
    rw [e0]
    exact .cons (.int a) h
theorem rng_len : ∀ (n : Nat) (a : Int), (rngL a n).length = n
  | 0, _ => rfl
  | n + 1, a => congrArg (· + 1) (rng_len n (a + 1))
theorem fits_ok {i : Int} (h : fits62 i = true) : -(2 ^ 62) ≤ i ∧ i < 2 ^ 62 := by
  simp only [fits62, Bool.and_eq_true, decide_eq_true_eq] at h
  exact h
def AllI (P : Ex → Prop) : It → Prop
  | .seq e => P e
  | .txt e => P e
  | .rng1 a => P a
  | .rng2 a b => P a ∧ P b
  | .rng3 a b c => P a ∧ P b ∧ P c
  | .enum e => P e
  | .zip a b => P a ∧ P b
  | .enumZip a b => P a ∧ P b
theorem int2_wb {x y : W} {F : Int → Int → T (List W × Sl)} {P : List W × Sl → Nat → Prop} (h : (int2 x y F).wb XE b P) : ∃ i j, x = .int i ∧ y = .int j ∧ (F i j).wb XE b P := by
  cases x <;> first
    | exact h.elim
    | (cases y <;> first
        | exact h.elim
        | exact ⟨_, _, rfl, rfl, h⟩)
/-! ### list(range(a, b, -1)) -/
def dnV (a : Int) : Nat → List V
  | 0 => []
  | n + 1 => .int a :: dnV (a - 1) n
theorem dn_rvs {K : PySem.W.Frag} {G : Gx} {g : Gh} : ∀ (n : Nat) (a : Int), RVs K G g (dnL a n) (dnV a n)
  | 0, _ => .nil
  | n + 1, a => .cons (.int a) (dn_rvs n (a - 1))
theorem dnV_eq : ∀ (n : Nat) (a : Int), (List.range n).map (fun k : Nat => V.int (a + (k : Int) * (-1))) = dnV a n
  | 0, _ => rfl
  | n + 1, a => by
    rw [List.range_succ_eq_map, List.map_cons, List.map_map, dnV, ← dnV_eq n (a - 1)]
    congr 1
    · congr 1
      simp
    · refine List.map_congr_left fun k _ => ?_
      show V.int (a + ((k + 1 : Nat) : Int) * (-1)) = V.int (a - 1 + (k : Int) * (-1))
      congr 1
      omega
theorem dnV_len : ∀ (n : Nat) (a : Int), (dnV a n).length = n
  | 0, _ => rfl
  | n + 1, a => congrArg (· + 1) (dnV_len n (a - 1))
theorem dnL_len' : ∀ (n : Nat) (a : Int), (dnL a n).length = n
  | 0, _ => rfl
  | n + 1, a => congrArg (· + 1) (dnL_len' n (a - 1))
open PySem.Spec PyProof.Rows in
theorem w_rg3 {σ : L2.St} {a c d : Expr} {p1 p2 pos1 pos : Pos} (hc : X.calm = true) (hr : Gl X "range") (hrm : X.mg "range" = none) (hs : starB a = false) (hs2 : starB c = false) (hs3 : starB d = false) (hg : Gl X "list") (hm : X.mg "list" = none)
    (h : tWA X [a, c, d] σ H fun vs H1 => ∃ i j : Int, vs = [.int i, .int j, .int (-1)] ∧ (-(2 ^ 62) ≤ i ∧ i < 2 ^ 62 ∧ -(2 ^ 62) ≤ j ∧ j < 2 ^ 62 ∧ (i - j).toNat ≤ 2 ^ 24) ∧ ∀ q, H1 q = none → Q (.ref q) (upd H1 q (.lst (dnV i (i - j).toNat)))) :
    tW X (.Call (.Name "list" p2) [.Call (.Name "range" p1) [a, c, d] [] pos1] [] pos) σ H Q := by
  intro pins s I
  refine Call_ (ld_blt I hg hm boot_list (PyProof.Rows.callWith_type1 (args_cons (Call_ (ld_blt I hr hrm boot_range (PyProof.Rows.callWith_type1 (thn (h pos1 pins s I) fun us s1 ⟨vs, H1, I1, r1, q1⟩ => ?_) (star_cons hs) (star_any (by rw [List.all_cons, List.all_cons, hs2, hs3]; rfl))))) rfl) rfl))
  obtain ⟨i, j, e, ⟨b1, b2, b3, b4, b5⟩, q⟩ := q1
  subst e
  cases r1 with
  | cons r rr =>
    cases rr with
    | cons r' rr =>
      cases rr with
      | cons r'' rr =>
        cases rr
        obtain ⟨t, rfl⟩ := r
        obtain ⟨t', rfl⟩ := r'
        obtain ⟨t'', rfl⟩ := r''
        refine call_range_3 (by decide) (args_nil ?_) (.inl (PyProof.noPylong_small (by decide)))
        have I2 := I1.kept (t' := s1.toks) (h' := s1.heap.push { cls := .type "range", data := .fields #[.int i t, .int j t', .int (-1) t''] }) fun b o e => Heap.get?_push_of_some _ e
        refine call_list_range (n := (i - j).toNat) (I2.ok.hd hc) (IsRange.new ..) (PySem.W.small_down b1 b2 b3 b4) (PySem.W.rangeSize_downNat i j) b5 fun h' tk acc c' hk e' hi => ?_
        refine ⟨L2.V.ref _, _, I2.laid hk (Nat.le_refl _) (show ObjOk X.prog X.w _ _ _ (.lst (dnV i (i - j).toNat)) from ⟨?_, acc.toList, c', ?_, ?_⟩), rfl, q _ (I2.hok.fresh (Nat.le_refl _))⟩
        · rw [dnV_len, sizeLine_eq]; omega
        · have e : acc.toList.length = (i - j).toNat := by rw [Array.length_toList]; exact hi.1
          rw [← dnV_eq, ← e]
          refine vals_of_get acc.toList _ fun k u hk => ?_
          obtain ⟨t, rfl⟩ := hi.2 k u (by rw [← hk, Array.getElem?_toList])
          exact ⟨t, rfl⟩
        · rw [Array.toArray_toList]; exact e'
theorem se_conv {tp : Bool} {it : It} (S : AllI (SE tb N cl io cn f) it) : SE tb N cl io cn f (.conv tp it) := ⟨fun {XE X sc e} o c {sl σ H g b Q} R h => by
  unfold chkE at c
  have hl : ("list" : Str) ∈ allBi := by decide +kernel
  have ht : ("tuple" : Str) ∈ allBi := by decide +kernel
  have hr : ("range" : Str) ∈ allBi := by decide +kernel
  have hn : (if tp = true then ("tuple" : Str) else "list") ∈ allBi := by cases tp <;> assumption
  have fin : ∀ {g' : Gh} {b' : Nat} {sl' : Sl} {H' : Hp} {i j : Int}, g.le g' → Rl f g' b' sl' σ H' →
      (T.guard (Nat.ble (rngL i (j - i).toNat).length sizeLine) (cond tp (T.ok ((W.tup (rngL i (j - i).toNat), false), sl')) (T.ok ((W.lst (rngL i (j - i).toNat), true), sl')))).wb XE b' (fun r b' => ∀ g' v H', g.le g' → Rl f g' b' r.2 σ H' → Vl f g' H' r.2 σ r.1 v → Q v H') →
      (j - i).toNat ≤ sizeLine ∧ ∀ q, H' q = none → Q (.ref q) (upd H' q (if tp = true then .tup (rgV i j) else .lst (rgV i j))) := fun {g' b' sl' H' i j} l R' k => by
    obtain ⟨k1, k⟩ := T.wb_guard k
    have k1 := Nat.le_of_ble_eq_true k1
    rw [rng_len] at k1
    refine ⟨k1, fun q hq => ?_⟩
    have rv : RVs f.K f.G g' (rngL i (j - i).toNat) (rgV i j) := rng_rvs _ _
    cases tp with
    | true =>
      obtain ⟨g2, l2, R2, rv⟩ := R'.newT hq rv
      exact k g2 _ _ (l.trans l2) R2 rv
    | false =>
      obtain ⟨R2, rv⟩ := R'.newL hq rv
      exact k g' _ _ l R2 rv
  split at c
  · rename_i f1 hc
    obtain ⟨p, q, rfl, hg⟩ := calls_ok hc
    cases hc2 : calls sc "range" f1 with
    | none => rw [hc2] at c; cases c
    | some fs =>
      rw [hc2] at c
      obtain ⟨p2, q2, rfl, hg2⟩ := calls_ok hc2
      have h : (kConv tp (evI cl io cn it) sl).wb XE b _ := h
      cases it with
      | rng1 a =>
        unfold chkR at c
        dsimp only at c
        split at c
        · simp only [Bool.and_eq_true, Bool.not_eq_true'] at c
          have S : SE tb N cl io cn f a := S
          refine w_rg1 o.bx.calm (o.glo _ hg2) (o.bi _ hr) c.1 (o.glo _ hg) (o.bi _ hn) (S.int (P := fun n H1 => _) o c.2 R (T.wb_mono (fun r b' k => ?_) (T.wb_bind.mp (T.wb_bind.mp h))))
          obtain ⟨⟨w, fr⟩, sl'⟩ := r
          cases w <;> first
            | exact k.elim
            | skip
          rename_i j
          obtain ⟨k1, k⟩ := T.wb_guard k
          refine ⟨j, rfl, fun g' H' l R' => ?_⟩
          obtain ⟨z1, z2⟩ := fits_ok k1
          have k : (T.guard (Nat.ble (rngL 0 j.toNat).length sizeLine) (cond tp (T.ok ((W.tup (rngL 0 j.toNat), false), sl')) (T.ok ((W.lst (rngL 0 j.toNat), true), sl')))).wb XE b' _ := k
          have ej : j.toNat = (j - 0).toNat := by rw [Int.sub_zero]
          rw [ej] at k
          obtain ⟨y1, y2⟩ := fin l R' k
          exact ⟨⟨by decide, by decide, z1, z2, by rw [sizeLine_eq] at y1; omega⟩, y2⟩
        · cases c
      | rng2 a a2 =>
        unfold chkR at c
        dsimp only at c
        split at c
        · simp only [Bool.and_eq_true, Bool.not_eq_true'] at c
          have S : SE tb N cl io cn f a ∧ SE tb N cl io cn f a2 := S
          refine w_rg2 o.bx.calm (o.glo _ hg2) (o.bi _ hr) c.1 c.2.1 (o.glo _ hg) (o.bi _ hn) (S.1.kn o c.2.2.1 R (T.wb_mono (fun r b' k g1 v1 H1 l1 R1 rv1 => ?_) (T.wb_bind.mp (T.wb_bind.mp h))))
          refine S.2.kn o c.2.2.2 R1 (T.wb_mono (fun r2 b2 k2 g2 v2 H2 l2 R2 rv2 => ?_) (T.wb_bind.mp k))
          obtain ⟨i, j, e1, e2, k3⟩ := int2_wb k2
          rw [e1] at rv1
          rw [e2] at rv2
          cases rv1
          cases rv2
          obtain ⟨k4, k5⟩ := T.wb_guard k3
          rw [Bool.and_eq_true] at k4
          obtain ⟨z1, z2⟩ := fits_ok k4.1
          obtain ⟨z3, z4⟩ := fits_ok k4.2
          obtain ⟨y1, y2⟩ := fin (l1.trans l2) R2 k5
          exact ⟨i, j, rfl, rfl, ⟨z1, z2, z3, z4, by rw [sizeLine_eq] at y1; omega⟩, y2⟩
        · cases c
      | rng3 a a2 a3 =>
        unfold chkR at c
        cases tp with
        | true => cases c
        | false =>
          dsimp only at c
          split at c
          · simp only [Bool.and_eq_true, Bool.not_eq_true', Bool.true_and, Bool.not_false] at c
            have S : SE tb N cl io cn f a ∧ SE tb N cl io cn f a2 ∧ SE tb N cl io cn f a3 := S
            refine w_rg3 o.bx.calm (o.glo _ hg2) (o.bi _ hr) c.1 c.2.1 c.2.2.1 (o.glo _ hg) (o.bi _ hl) (w_cons c.1 (S.1.kn o c.2.2.2.1 R (T.wb_mono (fun r b' k g1 v1 H1 l1 R1 rv1 => ?_) (T.wb_bind.mp (T.wb_bind.mp h)))))
            refine w_cons c.2.1 (S.2.1.kn o c.2.2.2.2.1 R1 (T.wb_mono (fun r2 b2 k2 g2 v2 H2 l2 R2 rv2 => ?_) (T.wb_bind.mp k)))
            refine w_cons c.2.2.1 (S.2.2.kn o c.2.2.2.2.2 R2 (T.wb_mono (fun r3 b3 k3 g3 v3 H3 l3 R3 rv3 => w_nil ?_) (T.wb_bind.mp k2)))
            obtain ⟨i, j, e1, e2, k4⟩ := int2_wb k3
            rw [e1] at rv1
            rw [e2] at rv2
            cases rv1
            cases rv2
            obtain ⟨⟨w3, fr3⟩, sl3⟩ := r3
            cases w3 <;> first
              | exact k4.elim
              | skip
            rename_i m
            obtain ⟨k5, k6⟩ := T.wb_guard k4
            rw [Bool.and_eq_true, Bool.and_eq_true] at k5
            obtain ⟨z1, z2⟩ := fits_ok k5.1.1
            obtain ⟨z3, z4⟩ := fits_ok k5.1.2
            have e3 := k5.2
            rw [eqI_dec] at e3
            have e3 := of_decide_eq_true e3
            subst e3
            cases rv3
            obtain ⟨k7, k8⟩ := T.wb_guard k6
            have k7 := Nat.le_of_ble_eq_true k7
            rw [dnL_len'] at k7
            refine ⟨i, j, rfl, ⟨z1, z2, z3, z4, by rw [sizeLine_eq] at k7; omega⟩, fun q hq => ?_⟩
            obtain ⟨R4, rv4⟩ := R3.newL hq (dn_rvs (K := f.K) (G := f.G) (g := g3) (i - j).toNat i)
            exact k8 g3 _ _ ((l1.trans l2).trans l3) R4 rv4
          · cases c
      | _ => cases c
  · cases c⟩
theorem se_draw {m l : Ex} (Sm : SE tb N cl io cn f m) (Sl : SE tb N cl io cn f l) : SE tb N cl io cn f (.draw m l) := ⟨fun {XE X sc e} o c {sl σ H g b Q} R h => by
  unfold chkE at c
  split at c
  · rename_i m' l' hc
    obtain ⟨p, q, rfl, hg⟩ := calls_ok hc
    simp only [Bool.and_eq_true, Bool.not_eq_true'] at c
    obtain ⟨fa, hm, hk, hd⟩ := o.drw
    refine w_callF (o.glo _ hg) hm hk (by decide +kernel) (by rw [List.all_cons, List.all_cons, c.1, c.2.1]; rfl) ?_
    refine w_cons c.1 (Sm.kn o c.2.2.1 R (T.wb_mono (fun r b' k g1 v1 H1 l1 R1 rv1 => ?_) (T.wb_bind.mp (show (kDraw _ _ sl).wb XE b _ from h))))
    refine w_cons c.2.1 (Sl.kn o c.2.2.2 R1 (T.wb_mono (fun r2 b2 k2 g2 v2 H2 l2 R2 rv2 => w_nil ?_) (T.wb_bind.mp k)))
    obtain ⟨⟨w, fr⟩, sl1⟩ := r
    obtain ⟨⟨w2, fr2⟩, sl2⟩ := r2
    cases w <;> first
      | exact k2.elim
      | skip
    cases w2 <;> first
      | exact k2.elim
      | skip
    rename_i n
    obtain ⟨k3, k4⟩ := T.wb_guard k2
    simp only [Bool.and_eq_true, decide_eq_true_eq] at k3
    have rv2 : RV f.K f.G g2 (.int n) v2 := rv2
    cases rv2
    cases b2 with
    | zero => exact k4.elim
    | succ b2 => exact hd X f (Sib.refl X) rfl rfl g2 b2 sl2 σ H2 v1 n Q R2 (rv1.le l2) k3.1 k3.2 fun d hlt g3 H3 l3 R3 => k4 d hlt g3 _ H3 ((l1.trans l2).trans l3) R3 (.int _)
  · cases c⟩

/-! ### calls of defs -/
inductive ARs (f : Fm) (g : Gh) (σ : St) : List (Nat ⊕ W) → List V → Prop
  | nil : ARs f g σ [] []
  | slot {i : Nat} {v : V} {ys : List (Nat ⊕ W)} {vs : List V} : σ[i]? = some (some v) → ARs f g σ ys vs → ARs f g σ (.inl i :: ys) (v :: vs)
  | val {w : W} {v : V} {ys : List (Nat ⊕ W)} {vs : List V} : RV f.K f.G g w v → ARs f g σ ys vs → ARs f g σ (.inr w :: ys) (v :: vs)
theorem lArgs_ok : ∀ {es : Exs} {fs : List Expr} {bs : List Bool}, AllX (SE tb N cl io cn f) es → Xok XE tb N cl io cn f X sc → chkL tb N sc es fs = true → ∀ {sl : Sl} {H : Hp} {g : Gh} {b : Nat} {Q : List V → Hp → Prop}, Rl f g b sl σ H →
    (lArgs bs (evL cl io cn es) sl).wb XE b (fun p b' => ∀ g' vs H', g.le g' → Rl f g' b' p.2 σ H' → ARs f g' σ p.1 vs → Q vs H') → tWA X fs σ H Q
  | .nil, fs, bs, _, o, c, sl, H, g, b, Q, R, h => by
    have c : fs.isEmpty = true := c
    rw [List.isEmpty_iff] at c
    subst c
    refine w_nil ?_
    cases bs <;> exact h g [] H (Gh.le.refl g) R .nil
  | .cons x es, fs, bs, S, o, c, sl, H, g, b, Q, R, h => by
    cases fs with
    | nil => cases c
    | cons e fs =>
      have c : (!starB e && (chkE tb N sc x e && chkL tb N sc es fs)) = true := c
      simp only [Bool.and_eq_true, Bool.not_eq_true'] at c
      have h : T.wb XE (lArgs bs ((isV x, evE cl io cn x) :: evL cl io cn es) sl) b _ := h
      unfold lArgs at h
      cases hb : bs.headD false with
      | false =>
        rw [hb] at h
        refine w_cons c.1 (S.1.kn o c.2.1 R (T.wb_mono (fun r b' k g' v H' l R' rv => ?_) (T.wb_bind.mp h)))
        refine lArgs_ok S.2 o c.2.2 R' (T.wb_mono (fun p b2 k2 g2 vs H2 l2 R2 rvs => ?_) (T.wb_bind.mp k))
        exact k2 g2 (v :: vs) H2 (l.trans l2) R2 (.val (rv.le l2) rvs)
      | true =>
        rw [hb] at h
        cases hx : isV x with
        | none =>
          rw [hx] at h
          exact h.elim
        | some i =>
          rw [hx] at h
          have ex : x = .var i := by
            cases x <;> first
              | (cases hx; done)
              | (cases hx; rfl)
          subst ex
          obtain ⟨w, ew, h⟩ := own_wb (T.wb_bind.mp h)
          obtain ⟨a, s1, _⟩ := R.own i w ew
          have c2 := c.2.1
          unfold chkE at c2
          cases hn : asName e with
          | none => rw [hn] at c2; cases c2
          | some y =>
            rw [hn] at c2
            obtain ⟨p, rfl⟩ := asName_ok hn
            simp only [Bool.and_eq_true, okN, Bool.not_eq_true'] at c2
            obtain ⟨c3, c4, c5, c6, _⟩ := c2
            refine w_cons c.1 (w_var (by rw [o.hN]; exact atB_ok c3) (o.vis y c4) c5 c6 s1 ?_)
            refine lArgs_ok S.2 o c.2.2 R (T.wb_mono (fun p b2 k2 g2 vs H2 l2 R2 rvs => ?_) (T.wb_bind.mp h))
            exact k2 g2 (.ref a :: vs) H2 l2 R2 (.slot s1 rvs)
inductive IsA (σ : St) : List Nat → List Addr → Prop
  | nil : IsA σ [] []
  | cons {i : Nat} {a : Addr} {is : List Nat} {as : List Addr} : σ[i]? = some (some (.ref a)) → IsA σ is as → IsA σ (i :: is) (a :: as)
def NoOwn (sl : Sl) (σ : St) (as : List Addr) : Prop := ∀ a ∈ as, ∀ (i : Nat) u, sl[i]? = some (some (u, true)) → σ[i]? ≠ some (some (.ref a))
theorem ioTake_ok : ∀ {ys : List (Nat ⊕ W)} {vs : List V} {sl : Sl} {P : (List R × List Nat) × Sl → Nat → Prop}, ARs f g σ ys vs → Rl f g b sl σ H → (ioTake ys sl).wb XE b P →
    ∃ args is as sl', P ((args, is), sl') b ∧ Rl f g b sl' σ H ∧ ArgsR f g H sl' σ args vs as ∧ IsA σ is as ∧ as.Nodup ∧ (∀ a ∈ as, f.H0 a = none ∨ a ∈ f.IO) ∧ NoOwn sl' σ as ∧
      (∀ a ∈ as, ∃ (i : Nat) (u : W), sl[i]? = some (some (u, true)) ∧ σ[i]? = some (some (.ref a))) ∧ (∀ (i : Nat) (u : W), sl'[i]? = some (some (u, true)) → sl[i]? = some (some (u, true)))
  | _, _, sl, _, .nil, R, h => ⟨[], [], [], sl, h, R, .nil, .nil, .nil, fun _ h => (List.not_mem_nil h).elim, fun _ h => (List.not_mem_nil h).elim, fun _ h => (List.not_mem_nil h).elim, fun _ _ h => h⟩
  | _, _, sl, _, .val rv rs, R, h => by
    obtain ⟨args, is, as, sl', h, R', a1, a2, a3, a4, a5, a6, a7⟩ := ioTake_ok rs R (T.wb_bind.mp h)
    exact ⟨_ :: args, is, as, sl', h, R', .frz rv a1, a2, a3, a4, a5, a6, a7⟩
  | _, _, sl, _, .slot (i := i) (v := v) hv rs, R, h => by
    obtain ⟨w, ew, h⟩ := own_wb (T.wb_bind.mp h)
    obtain ⟨a, s1, o1, o2, o3, o4⟩ := R.own i w ew
    rw [hv] at s1
    cases s1
    rw [sett_eq] at h
    have R1 : Rl f g b (sl.set i none) σ H := R.setN
    obtain ⟨args, is, as, sl', h, R', a1, a2, a3, a4, a5, a6, a7⟩ := ioTake_ok rs R1 (T.wb_bind.mp h)
    have not1 : ∀ (k : Nat) u, (sl.set i none)[k]? = some (some (u, true)) → σ[k]? ≠ some (some (.ref a)) := fun k u q z => by
      rcases sl_set q with ⟨_, q'⟩ | ⟨e1, q'⟩
      · cases q'
      · exact e1 (R.inj i k w u a ew q' hv z)
    have na : a ∉ as := fun hm => by
      obtain ⟨k, u, q1, q2⟩ := a6 a hm
      exact not1 k u q1 q2
    have sub : ∀ (k : Nat) (u : W), (sl.set i none)[k]? = some (some (u, true)) → sl[k]? = some (some (u, true)) := fun k u q => by
      rcases sl_set q with ⟨_, q'⟩ | ⟨e1, q'⟩
      · cases q'
      · exact q'
    refine ⟨(w, true) :: args, i :: is, a :: as, sl', h, R', .own o1 o2 o3 o4 (fun k u q => not1 k u (a7 k u q)) na a1, .cons hv a2, List.nodup_cons.mpr ⟨na, a3⟩, ?_, ?_, ?_, fun k u q => sub k u (a7 k u q)⟩
    · intro c hc
      rcases List.mem_cons.mp hc with e | e
      · subst e; exact o4
      · exact a4 c e
    · intro c hc
      rcases List.mem_cons.mp hc with e | e
      · subst e; exact fun k u q => not1 k u (a7 k u q)
      · exact a5 c e
    · intro c hc
      rcases List.mem_cons.mp hc with e | e
      · subst e; exact ⟨i, w, ew, hv⟩
      · obtain ⟨k, u, q1, q2⟩ := a6 c e
        exact ⟨k, u, sub k u q1, q2⟩
theorem set_same {σ : St} {i : Nat} {v : V} (h : σ[i]? = some (some v)) : σ.set i (some v) = σ := by
  refine List.ext_getElem? fun j => ?_
  by_cases hj : i = j
  · subst hj
    rw [List.getElem?_set_self (List.getElem?_eq_some_iff.mp h).1, h]
  · rw [List.getElem?_set_ne hj]
theorem putBack_ok : ∀ {is : List Nat} {as : List Addr} {ws : List W} {sl : Sl} {P : Sl → Nat → Prop}, IsA σ is as → TmR f g H as ws → Rl f g b sl σ H → as.Nodup → (∀ a ∈ as, f.H0 a = none ∨ a ∈ f.IO) → NoOwn sl σ as →
    (putBack is ws sl).wb XE b P → ∃ sl', P sl' b ∧ Rl f g b sl' σ H ∧ (∀ (i : Nat) (u : W), sl'[i]? = some (some (u, true)) → sl[i]? = some (some (u, true)) ∨ ∃ a ∈ as, σ[i]? = some (some (.ref a)))
  | _, _, _, sl, _, .nil, .nil, R, _, _, _, h => ⟨sl, h, R, fun _ _ q => .inl q⟩
  | _, _, _, sl, P, .cons (i := i) (a := a) (as := as) s1 r1, .cons (w := w) (ws := ws) oa hF hD r2, R, nd, h0, no, h => by
    have R1 : Rl f g b (sl.set i (some (w, true))) σ H := by
      have := R.setO (i := i) oa hF hD (h0 a (List.mem_cons_self ..)) fun j u _ q => no a (List.mem_cons_self ..) j u q
      rw [set_same s1] at this
      exact this
    rw [List.nodup_cons] at nd
    have h : (putBack _ ws (sett sl i (some (w, true)))).wb XE b P := h
    rw [sett_eq] at h
    obtain ⟨sl', h, R', q⟩ := putBack_ok r1 r2 R1 nd.2 (fun c hc => h0 c (List.mem_cons_of_mem _ hc)) (fun c hc k u q z => by
      rcases sl_set q with ⟨e, _⟩ | ⟨e, q⟩
      · subst e
        rw [s1] at z
        cases z
        exact nd.1 hc
      · exact no c (List.mem_cons_of_mem _ hc) k u q z) h
    refine ⟨sl', h, R', fun k u z => ?_⟩
    rcases q k u z with y | ⟨c, hc, y⟩
    · rcases sl_set y with ⟨e, _⟩ | ⟨e, y⟩
      · subst e
        exact .inr ⟨a, List.mem_cons_self .., s1⟩
      · exact .inl y
    · exact .inr ⟨c, List.mem_cons_of_mem _ hc, y⟩
theorem se_call {j : Nat} {es : Exs} (S : AllX (SE tb N cl io cn f) es) : SX tb N cl io cn f (.call j es) := by
  have go : SE tb N cl io cn f (.call j es) := ⟨fun {XE X sc e} o c {sl σ H g b Q} R h => by
    unfold chkE at c
    cases hc : asCall e with
    | none => rw [hc] at c; cases c
    | some y =>
      rw [hc] at c
      obtain ⟨x, fs⟩ := y
      obtain ⟨p, q, rfl⟩ := asCall_ok hc
      simp only [Bool.and_eq_true, okN, Bool.not_eq_true'] at c
      obtain ⟨c1, c2, ⟨c3, _⟩, c4⟩ := c
      obtain ⟨fa, hm, hk, _, hf⟩ := o.fn j x (atB_ok c1)
      have h : (kCall cl io j (evL cl io cn es) sl).wb XE b _ := h
      have inner : ∀ {vs : List V} {ys : List (Nat ⊕ W)} {sl1 : Sl} {b' : Nat} {g' : Gh} {H' : Hp}, g.le g' → Rl f g' b' sl1 σ H' → ARs f g' σ ys vs →
          T.wb XE ((ioTake ys sl1).bind fun t => (cl j t.1.1).bind fun r => (putBack t.1.2 r.2 t.2).bind fun sl => T.ok (r.1, sl)) b' (fun r b' => ∀ g' v H', g.le g' → Rl f g' b' r.2 σ H' → Vl f g' H' r.2 σ r.1 v → Q v H') → CallW X (.ref fa) vs H' Q := fun {vs ys sl1 b' g' H'} l R' ar k => by
        obtain ⟨args, is, as, sl2, k, R2, a1, a2, a3, a4, a5, a6, a7⟩ := ioTake_ok ar R' (T.wb_bind.mp k)
        refine CallE.w o.tk (CallC.e (hf XE X f (Sib.refl X) rfl rfl g' b' sl2 σ H' args vs as Q R2 a1 (T.wb_mono (fun r b3 k3 g3 v H3 l3 R3 tm vl nv => ?_) (T.wb_bind.mp k))))
        obtain ⟨sl4, k4, R4, q4⟩ := putBack_ok a2 tm R3 a3 a4 a5 (T.wb_bind.mp k3)
        refine k4 g3 v H3 (l.trans l3) R4 ?_
        obtain ⟨⟨w, fr⟩, ws⟩ := r
        cases fr with
        | false => exact vl
        | true =>
          obtain ⟨a, e1, z1, z2, z3, z4, z5⟩ := vl
          refine ⟨a, e1, z1, z2, z3, z4, fun k u y => ?_⟩
          rcases q4 k u y with y | ⟨c, hc, y⟩
          · exact z5 k u y
          · intro z
            have z : σ[k]? = some (some (.ref a)) := z
            rw [y] at z
            cases z
            exact nv rfl _ hc e1
      cases fs with
      | nil =>
        cases es with
        | cons _ _ => cases c4
        | nil =>
          refine w_callF0 (o.glo x c2) hm hk c3 ?_
          have h2 := T.wb_bind.mp h
          refine inner (Gh.le.refl g) R .nil (ys := []) (sl1 := sl) (b' := b) ?_
          cases e1 : io j <;> (rw [e1] at h2; exact h2)
      | cons f1 fs =>
        refine w_callF (o.glo x c2) hm hk c3 (chkL_star c4) ?_
        refine lArgs_ok S o c4 R (T.wb_mono (fun r b' k g' vs H' l R' ar => ?_) (T.wb_bind.mp h))
        exact inner l R' ar k⟩
  refine ⟨go, ST.of go fun {sc e} c => ?_⟩
  unfold chkE at c
  cases hc : asCall e with
  | none => rw [hc] at c; cases c
  | some y =>
    obtain ⟨p, q, rfl⟩ := asCall_ok hc
    rfl
end
end Ev
end
end
section
set_option Elab.async false
set_option linter.all false
set_option maxRecDepth 100000
set_option maxHeartbeats 2000000
/-! EvIt: targets, what a loop walks. -/
noncomputable section
namespace Ev
open PySem L2
set_option autoImplicit false
variable {XE : XP}
section
variable {f : Fm} {g g' : Gh} {b b' : Nat} {sl sl' : Sl} {σ σ' : St} {H H' : Hp}
theorem Rl.sig (R : Rl f g b sl σ H) (hl : σ'.length = σ.length) (h : ∀ (i : Nat) r, sl[i]? = some (some r) → σ'[i]? = σ[i]?) : Rl f g b sl σ' H :=
  { R with
    len := R.len.trans hl.symm
    frz := fun i w e => by rw [h i _ e]; exact R.frz i w e
    own := fun i w e => by rw [h i _ e]; exact R.own i w e
    inj := fun i j w w' a h1 h2 h3 h4 => by
      rw [h i _ h1] at h3
      rw [h j _ h2] at h4
      exact R.inj i j w w' a h1 h2 h3 h4 }
def NoSlot (sl : Sl) (σ : St) (a : Addr) : Prop := ∀ (i : Nat) w, sl[i]? = some (some (w, true)) → σ[i]? ≠ some (some (.ref a))
/-- a thing that no slot owns changes -/
theorem Rl.chg {a : Addr} {o : HO} (R : Rl f g b sl σ H) (hF : g.F a = none) (hD : a ∉ dAdr g.D) (h0 : f.H0 a = none ∨ a ∈ f.IO) (hs : NoSlot sl σ a) (sf : Soft (H a)) : Rl f g b sl σ (upd H a o) :=

  { R with
    tab := tabs_chg R.tab sf
    sub := fun c u e => by
      rw [upd_ne (ne_of_none e hF)]
      exact R.sub c u e
    kee := fun c u e1 e2 e3 => by
      have hca : c ≠ a := fun z => by
        subst z
        rcases h0 with z | z
        · rw [z] at e1; cases e1
        · exact e2 z
      rw [upd_ne hca]
      exact R.kee c u e1 e2 e3
    orc := fun d hd => (R.orc d hd).le (Nat.le_refl _) fun c hc x hx => by
      have hca : c ≠ a := fun z => by
        subst z
        rw [hd] at hD
        exact hD hc
      rw [upd_ne hca]
      exact hx
    ioS := fun c hc => by
      by_cases hca : c = a
      · subst hca
        exact ⟨o, upd_same⟩
      · rw [upd_ne hca]
        exact R.ioS c hc
    own := fun i w h => by
      obtain ⟨c, h1, h2, h3⟩ := R.own i w h
      have hca : c ≠ a := fun z => by
        subst z
        exact hs i w h h1
      exact ⟨c, h1, h2.le (Gh.le.refl g) fun u hu => by rw [upd_ne hca]; exact hu, h3⟩ }
/-- one more thing is kept -/
def Fm.hold (f : Fm) (g : Gh) (a : Addr) (o : HO) : Fm := ⟨f.K, f.G, upd f.H0 a o, g, f.IO, f.nod⟩
structure Held (f : Fm) (g : Gh) (sl : Sl) (σ : St) (H : Hp) (a : Addr) (o : HO) : Prop where
  at_ : H a = some o
  hF : g.F a = none
  hD : a ∉ dAdr g.D
  hI : a ∉ f.IO
  h0 : f.H0 a = none
  hs : NoSlot sl σ a
  sf : Soft (some o)
theorem Rl.enter {a : Addr} {o : HO} (R : Rl f g b sl σ H) (h : Held f g sl σ H a o) : Rl (f.hold g a o) g b sl σ H :=
  { R with
    le0 := Gh.le.refl g
    kee := fun c u e1 e2 e3 => by
      by_cases hca : c = a
      · subst hca
        have e1 : upd f.H0 c o c = some u := e1
        rw [upd_same] at e1
        cases e1
        exact .inl h.at_
      · have e1 : upd f.H0 a o c = some u := e1
        rw [upd_ne hca] at e1
        exact R.kee c u e1 e2 e3
    new := fun c u e => .inl e
    d0 := fun c hc => .inl hc
    own := fun i w e => by
      obtain ⟨c, h1, h2, h3, h4, h5⟩ := R.own i w e
      refine ⟨c, h1, h2, h3, h4, ?_⟩
      rcases h5 with z | z
      · left
        show upd f.H0 a o c = none
        have hca : c ≠ a := fun y => by
          subst y
          exact h.hs i w e h1
        rw [upd_ne hca]
        exact z
      · exact .inr z }
theorem hold_ne {a c : Addr} {o : HO} (e : (f.hold g a o).H0 c = none) : c ≠ a ∧ f.H0 c = none := by
  have e : upd f.H0 a o c = none := e
  by_cases hca : c = a
  · subst hca
    rw [upd_same] at e
    cases e
  · rw [upd_ne hca] at e
    exact ⟨hca, e⟩
theorem Rl.leave {a : Addr} {o : HO} (R : Rl f g b sl σ H) (h : Held f g sl σ H a o) (R' : Rl (f.hold g a o) g' b' sl' σ' H') : Rl f g' b' sl' σ' H' ∧ Held f g' sl' σ' H' a o := by
  have hD : a ∉ dAdr g'.D := fun z => by
    rcases R'.d0 a z with y | y
    · exact h.hD y
    · exact (hold_ne y).1 rfl
  refine ⟨{ R' with
    le0 := R.le0.trans R'.le0
    kee := fun c u e1 e2 e3 => by
      have hca : c ≠ a := fun z => by
        subst z
        rw [h.h0] at e1
        cases e1
      exact R'.kee c u (by show upd f.H0 a o c = some u; rw [upd_ne hca]; exact e1) e2 e3
    new := fun c u e => by
      rcases R'.new c u e with z | z | z | z
      · exact R.new c u z
      · exact .inr (.inl (hold_ne z).2)
      · exact .inr (.inr (.inl z))
      · exact .inr (.inr (.inr z))
    d0 := fun c hc => by
      rcases R'.d0 c hc with z | z
      · exact R.d0 c z
      · exact .inr (hold_ne z).2
    own := fun i w e => by
      obtain ⟨c, h1, h2, h3, h4, h5⟩ := R'.own i w e
      refine ⟨c, h1, h2, h3, h4, ?_⟩
      rcases h5 with z | z
      · exact .inl (hold_ne z).2
      · exact .inr z }, ?_⟩
  refine ⟨(R'.kee a o (by show upd f.H0 a o a = some o; exact upd_same) h.hI hD).same (h.sf o rfl).1, ?_, hD, h.hI, h.h0, fun i w e z => ?_, h.sf⟩
  · cases e : g'.F a with
    | none => rfl
    | some u =>
      rcases R'.new a u e with z | z | z | ⟨φ, z⟩
      · have z : g.F a = some u := z
        rw [h.hF] at z
        cases z
      · exact ((hold_ne z).1 rfl).elim
      · exact (h.hI z).elim
      · have y := R'.sub a u e
        rw [(R'.kee a o (by show upd f.H0 a o a = some o; exact upd_same) h.hI hD).same (h.sf o rfl).1, z] at y
        exact ((h.sf o rfl).2 φ (Option.some.inj y)).elim
  · obtain ⟨c, h1, h2, h3, h4, h5⟩ := R'.own i w e
    rw [z] at h1
    cases h1
    rcases h5 with y | y
    · exact (hold_ne y).1 rfl
    · exact h.hI y
end

/-! ### targets -/
mutual
def gOf (K : PySem.W.Frag) : Tg → TG
  | .nm i => gName i
  | .tp ts => gTup K ts.length (gsOf K ts)
def gsOf (K : PySem.W.Frag) : List Tg → TGs
  | [] => gNil
  | t :: ts => gCons (gOf K t) (gsOf K ts)
end
theorem each_cons {e : Expr} {es : List Expr} {env : Env} (h : starB e = false) : assignEach (e :: es) env = (false, assign e env) :: assignEach es env := by
  cases e <;> first
    | rfl
    | cases h
section
variable {tb : Tb} {N : List Str} {cl : Cl} {io : Nat → List Bool} {cn : Nat → W} {f : Fm} {X : Cx} {sc : Scope}
theorem chkGs_each {env : Env} : ∀ {ts : List Tg} {es : List Expr}, chkGs N sc ts es = true → (assignEach es env).length = ts.length ∧ (assignEach es env).findIdx? (·.1) = none
  | [], es, c => by
    unfold chkGs at c
    rw [List.isEmpty_iff] at c
    subst c
    exact ⟨rfl, rfl⟩
  | t :: ts, es, c => by
    unfold chkGs at c
    cases es with
    | nil => cases c
    | cons e es =>
      dsimp only at c
      simp only [Bool.and_eq_true, Bool.not_eq_true'] at c
      obtain ⟨h1, h2⟩ := chkGs_each (env := env) c.2.2
      rw [each_cons c.1]
      refine ⟨congrArg (· + 1) h1, ?_⟩
      rw [List.findIdx?_cons]
      simp only [h2]
      rfl
mutual
theorem pg_of (o : Xok XE tb N cl io cn f X sc) : ∀ {t : Tg} {e : Expr}, chkG N sc t e = true → PG X e (gOf X.K t)
  | .nm i, e, c => by
    unfold chkG at c
    cases hn : asName e with
    | none => rw [hn] at c; cases c
    | some x =>
      rw [hn] at c
      obtain ⟨p, rfl⟩ := asName_ok hn
      have c : (atB N i x && locB sc x) = true := c
      rw [Bool.and_eq_true] at c
      obtain ⟨l1, l2⟩ := o.loc x c.2
      exact pg_name (by rw [o.hN]; exact o.nd) (by rw [o.hN]; exact atB_ok c.1) l1 l2
  | .tp ts, e, c => by
    unfold chkG at c
    cases hn : asTup e with
    | none => rw [hn] at c; cases c
    | some es =>
      rw [hn] at c
      obtain ⟨p, q, rfl⟩ := asTup_ok hn
      have c : chkGs N sc ts es = true := c
      obtain ⟨h1, h2⟩ := chkGs_each (env := X.env) c
      exact pg_tup o.bx.calm (pgs_of o c) h1 h2
theorem pgs_of (o : Xok XE tb N cl io cn f X sc) : ∀ {ts : List Tg} {es : List Expr}, chkGs N sc ts es = true → PGs X es (gsOf X.K ts)
  | [], es, c => by
    unfold chkGs at c
    rw [List.isEmpty_iff] at c
    subst c
    exact pgs_nil
  | t :: ts, es, c => by
    unfold chkGs at c
    cases es with
    | nil => cases c
    | cons e es =>
      dsimp only at c
      simp only [Bool.and_eq_true, Bool.not_eq_true'] at c
      exact pgs_cons (pg_of o c.2.1) (pgs_of o c.2.2) (by rw [each_cons c.1]; rfl)
end
end
section
variable {f : Fm} {g g' : Gh} {b b' : Nat} {σ σ' : St} {H H' : Hp}
def SameOut (l : List Nat) (σ σ' : St) : Prop := σ'.length = σ.length ∧ ∀ i, i ∉ l → σ'[i]? = σ[i]?
theorem SameOut.refl (l : List Nat) (σ : St) : SameOut l σ σ := ⟨rfl, fun _ _ => rfl⟩
theorem SameOut.trans {l : List Nat} {σ1 σ2 σ3 : St} (a : SameOut l σ1 σ2) (c : SameOut l σ2 σ3) : SameOut l σ1 σ3 := ⟨c.1.trans a.1, fun i h => (c.2 i h).trans (a.2 i h)⟩
theorem SameOut.mono {l l' : List Nat} {σ1 σ2 : St} (a : SameOut l σ1 σ2) (h : ∀ i, i ∈ l → i ∈ l') : SameOut l' σ1 σ2 := ⟨a.1, fun i hi => a.2 i fun z => hi (h i z)⟩
mutual
theorem setG_ex : ∀ {t : Tg} {w : W} {fr : Bool} {sl : Sl} {P : Sl → Nat → Prop}, (setG t w fr sl).wb XE b P → ∃ sl', P sl' b
  | .nm i, w, fr, sl, P, h => ⟨_, h⟩
  | .tp ts, w, fr, sl, P, h => by
    cases w with
    | tup ws => exact setGs_ex h
    | _ => exact h.elim
theorem setGs_ex : ∀ {ts : List Tg} {ws : List W} {sl : Sl} {P : Sl → Nat → Prop}, (setGs ts ws sl).wb XE b P → ∃ sl', P sl' b
  | [], [], _, _, h => ⟨_, h⟩
  | [], _ :: _, _, _, h => h.elim
  | _ :: _, [], _, _, h => h.elim
  | t :: ts, w :: ws, sl, P, h => by
    obtain ⟨sl', h⟩ := setG_ex (T.wb_bind.mp h)
    exact setGs_ex h
end
theorem setGs_len : ∀ {ts : List Tg} {ws : List W} {sl : Sl} {P : Sl → Nat → Prop}, (setGs ts ws sl).wb XE b P → ws.length = ts.length
  | [], [], _, _, _ => rfl
  | [], _ :: _, _, _, h => h.elim
  | _ :: _, [], _, _, h => h.elim
  | t :: ts, w :: ws, sl, P, h => by
    obtain ⟨sl', h⟩ := setG_ex (T.wb_bind.mp h)
    exact congrArg (· + 1) (setGs_len h)
mutual
theorem setG_ok : ∀ {t : Tg} {w : W} {fr : Bool} {v : V} {sl : Sl} {σ : St} {P : Sl → Nat → Prop} {Q : St → Hp → Prop}, Rl f g b sl σ H → Vl f g H sl σ (w, fr) v → (setG t w fr sl).wb XE b P →
    (∀ sl' σ', P sl' b → Rl f g b sl' σ' H → SameOut (tIx t) σ σ' → Q σ' H) → gOf f.K t v σ H Q
  | .nm i, w, fr, v, sl, σ, P, Q, R, vl, h, k => by
    have so : ∀ u, SameOut (tIx (.nm i)) σ (σ.set i u) := fun u => ⟨List.length_set, fun j hj => List.getElem?_set_ne fun e => hj (by rw [← e]; exact List.mem_cons_self ..)⟩
    have h : P (sett sl i (some (w, fr))) b := h
    rw [sett_eq] at h
    cases fr with
    | false => exact k _ _ h (R.setF vl) (so _)
    | true =>
      obtain ⟨a, rfl, ho, hF, hD, h0, hs⟩ := vl
      exact k _ _ h (R.setO ho hF hD (.inl h0) fun j u _ q => hs j u q) (so _)
  | .tp ts, w, fr, v, sl, σ, P, Q, R, vl, h, k => by
    cases w with
    | tup ws =>
      have rv : RV f.K f.G g (.tup ws) v := by
        cases fr with
        | false => exact vl
        | true =>
          obtain ⟨a, _, ho, _⟩ := vl
          exact ho.elim
      cases rv with
      | tup q r =>
        rename_i a vs
        have hl : vs.length = ts.length := by
          rw [← r.len]
          exact setGs_len h
        exact ⟨a, vs, rfl, SqT.le R.sub q, hl, setGs_ok R r h k⟩
    | _ => exact h.elim
theorem setGs_ok : ∀ {ts : List Tg} {ws : List W} {vs : List V} {sl : Sl} {σ : St} {P : Sl → Nat → Prop} {Q : St → Hp → Prop}, Rl f g b sl σ H → RVs f.K f.G g ws vs → (setGs ts ws sl).wb XE b P →
    (∀ sl' σ', P sl' b → Rl f g b sl' σ' H → SameOut (tIxs ts) σ σ' → Q σ' H) → gsOf f.K ts vs σ H Q
  | [], ws, vs, sl, σ, P, Q, R, r, h, k => by
    cases r with
    | nil => exact ⟨rfl, k _ _ h R (SameOut.refl _ _)⟩
    | cons _ _ => exact h.elim
  | t :: ts, ws, vs, sl, σ, P, Q, R, r, h, k => by
    cases r with
    | nil => exact h.elim
    | cons r rs =>
      refine ⟨_, _, rfl, setG_ok (fr := false) R r (T.wb_bind.mp h) fun sl1 σ1 h1 R1 so => setGs_ok R1 rs h1 fun sl2 σ2 h2 R2 so2 => k sl2 σ2 h2 R2 ?_⟩
      exact (so.mono fun i hi => List.mem_append_left _ hi).trans (so2.mono fun i hi => List.mem_append_right _ hi)
end

/-! ### walks -/
/-- what is walked yields ws -/
structure Wk (K : PySem.W.Frag) (G : Gx) (g : Gh) (J : L2.It) (ws : List W) : Prop where
  go : ∀ (i : Nat) w, ws[i]? = some w → ∀ f g' b sl σ H, f.K = K → f.G = G → g.le g' → Rl f g' b sl σ H → J.go i H ∧ ∀ x H', J.yld i H x H' → ∃ g'', g'.le g'' ∧ Rl f g'' b sl σ H' ∧ RV K G g'' w x
  stop : ∀ f g' b sl σ H, f.K = K → f.G = G → g.le g' → Rl f g' b sl σ H → J.stop ws.length H
def tWI (X : Cx) (tg e : Expr) : TI := fun σ H R => ∀ (pins : List (Addr × Obj)) (s : Shared), Inv X pins σ H s → wpAny (model X.prog X.w) X.A (eval e X.env) (fun v s1 => wpAny (model X.prog X.w) X.A (pyIter v) (PIE X pins σ tg R) X.xe s1) X.xe s
section
variable {X : Cx} {tg e : Expr} {J : L2.It} {R : L2.It → Hp → Prop}
theorem pi_w : PI X tg e (tWI X tg e) := ⟨fun pins s _ _ _ I h => h pins s I⟩
theorem of_pi {t : TI} (h : PI X tg e t) (q : t σ H R) : tWI X tg e σ H R := fun pins s I => h.run pins s σ H R I q
/-- an iterable by its value -/
def ItW (X : Cx) (tg : Expr) (x : V) (H : Hp) (R : L2.It → Hp → Prop) : Prop :=
  ∀ (pins : List (Addr × Obj)) (s : Shared) (σ : St) (u : Value), Inv X pins σ H s → RelV x u → wpAny (model X.prog X.w) X.A (pyIter u) (PIE X pins σ tg R) X.xe s
theorem wi_val (h : tW X e σ H fun x H1 => ItW X tg x H1 R) : tWI X tg e σ H R := fun pins s I => thn (h pins s I) fun u s1 ⟨x, H1, I1, r, q⟩ => q pins s1 σ u I1 r
theorem it_list {a : Addr} {xs : List V} (h : SqL X.K H a xs) (q : R (Itl X.K a) H) : ItW X tg (.ref a) H R := fun pins s1 σ u I1 r => by
  cases r
  obtain ⟨its, rv, p, hz⟩ := I1.list h
  exact wpAny_pyIter_list p.isList (pi_one (tk := s1.toks) I1 _ (turn_list a _) ⟨_, Heap.get?_push_size _ rfl, rfl, rfl⟩ q)
theorem it_tup {a : Addr} {xs : List V} (h : SqT X.K H a xs) (q : R (Itt X.K a) H) : ItW X tg (.ref a) H R := fun pins s1 σ u I1 r => by
  cases r
  obtain ⟨its, rv, p, hz⟩ := I1.tuple h
  exact wpAny_pyIter_tuple (show s1.heap.IsTuple a its.toArray from p) (pi_one (tk := s1.toks) I1 _ (turn_tuple a _) ⟨_, Heap.get?_push_size _ rfl, rfl, rfl⟩ q)
theorem it_str {x : Str} (q : R (Its x) H) : ItW X tg (.str x) H R := fun pins s1 σ u I1 r => by
  obtain ⟨t, rfl⟩ := r
  cases ha : x.cps.all (· < 128)
  · exact wpAny_pyIter_wide ha (pi_one (tk := s1.toks) I1 _ (turn_str _ x t "str_iterator" (.inr rfl)) ⟨_, Heap.get?_push_size _ rfl, rfl, rfl⟩ q)
  · exact wpAny_pyIter_ascii ha (pi_one (tk := s1.toks) I1 _ (turn_str _ x t "str_ascii_iterator" (.inl rfl)) ⟨_, Heap.get?_push_size _ rfl, rfl, rfl⟩ q)
end
section
variable {K : PySem.W.Frag} {G : Gx}
/-- a row that is known -/
theorem wk_list {a : Addr} {vs : List V} {ws : List W} (h : g.F a = some (.lst vs)) (r : RVs K G g ws vs) : Wk K G g (Itl K a) ws where
  go := fun i w e f g' b sl σ H hK hG l R => by
    obtain ⟨v, e1, rv⟩ := r.get e
    have hH : SqL K H a vs := .inl (.inl (R.sub a _ (l.1 a _ h)))
    refine ⟨⟨vs, v, hH, e1⟩, fun x H' ⟨e2, y⟩ => ?_⟩
    have y := y vs hH
    rw [e1] at y
    cases y
    subst e2
    exact ⟨g', Gh.le.refl g', R, rv.le l⟩
  stop := fun f g' b sl σ H hK hG l R => ⟨vs, .inl (.inl (R.sub a _ (l.1 a _ h))), by rw [r.len]; exact Nat.le_refl _⟩
theorem wk_tup {a : Addr} {vs : List V} {ws : List W} (h : SqT K g.F a vs) (r : RVs K G g ws vs) : Wk K G g (Itt K a) ws where
  go := fun i w e f g' b sl σ H hK hG l R => by
    obtain ⟨v, e1, rv⟩ := r.get e
    have hH : SqT K H a vs := SqT.le R.sub (SqT.le l.1 h)
    refine ⟨⟨vs, v, hH, e1⟩, fun x H' ⟨e2, y⟩ => ?_⟩
    have y := y vs hH
    rw [e1] at y
    cases y
    subst e2
    exact ⟨g', Gh.le.refl g', R, rv.le l⟩
  stop := fun f g' b sl σ H hK hG l R => ⟨vs, SqT.le R.sub (SqT.le l.1 h), by rw [r.len]; exact Nat.le_refl _⟩
theorem wk_str {x : Str} : Wk K G g (Its x) (x.cps.toList.map fun c => .str ⟨#[c]⟩) where
  go := fun i w e f g' b sl σ H hK hG l R => by
    rw [List.getElem?_map] at e
    cases hc : x.cps.toList[i]? with
    | none => rw [hc] at e; cases e
    | some c =>
      rw [hc] at e
      have e : W.str ⟨#[c]⟩ = w := Option.some.inj e
      subst e
      rw [Array.getElem?_toList] at hc
      refine ⟨(Array.getElem?_eq_some_iff.mp hc).1, fun v H' ⟨e2, d, e3, e4⟩ => ?_⟩
      rw [hc] at e3
      cases e3
      subst e2 e4
      exact ⟨g', Gh.le.refl g', R, .str _⟩
  stop := fun f g' b sl σ H hK hG l R => by
    show x.cps.size ≤ _
    rw [List.length_map]
    exact Nat.le_of_eq (Array.length_toList).symm
theorem rng_get : ∀ {n : Nat} {a : Int} {i : Nat} {w : W}, (rngL a n)[i]? = some w → i < n ∧ w = .int (a + i)
  | 0, _, i, _, h => by simp [rngL] at h
  | n + 1, a, 0, w, h => by
    simp [rngL] at h
    subst h
    exact ⟨Nat.succ_pos _, by simp⟩
  | n + 1, a, i + 1, w, h => by
    have h : (rngL (a + 1) n)[i]? = some w := by simpa [rngL] using h
    obtain ⟨h1, h2⟩ := rng_get h
    refine ⟨Nat.succ_lt_succ h1, ?_⟩
    rw [h2]
    congr 1
    omega
theorem dn_get : ∀ {n : Nat} {a : Int} {i : Nat} {w : W}, (dnL a n)[i]? = some w → i < n ∧ w = .int (a + (i : Nat) * (-1))
  | 0, _, i, _, h => by simp [dnL] at h
  | n + 1, a, 0, w, h => by
    simp [dnL] at h
    subst h
    exact ⟨Nat.succ_pos _, by simp⟩
  | n + 1, a, i + 1, w, h => by
    have h : (dnL (a - 1) n)[i]? = some w := by simpa [dnL] using h
    obtain ⟨h1, h2⟩ := dn_get h
    refine ⟨Nat.succ_lt_succ h1, ?_⟩
    rw [h2]
    congr 1
    omega
theorem dn_len : ∀ (n : Nat) (a : Int), (dnL a n).length = n
  | 0, _ => rfl
  | n + 1, a => congrArg (· + 1) (dn_len n (a - 1))
theorem wk_rng {a : Int} {n : Nat} : Wk K G g (Itr a n) (rngL a n) where
  go := fun i w e f g' b sl σ H hK hG l R => by
    obtain ⟨h1, h2⟩ := rng_get e
    subst h2
    refine ⟨h1, fun v H' ⟨e2, e4⟩ => ?_⟩
    subst e2 e4
    exact ⟨g', Gh.le.refl g', R, .int _⟩
  stop := fun f g' b sl σ H hK hG l R => by
    show n ≤ _
    rw [rng_len]
    exact Nat.le_refl _
theorem wk_dn {a : Int} {n : Nat} : Wk K G g (Itc a (-1) n) (dnL a n) where
  go := fun i w e f g' b sl σ H hK hG l R => by
    obtain ⟨h1, h2⟩ := dn_get e
    subst h2
    refine ⟨h1, fun v H' ⟨e2, e4⟩ => ?_⟩
    subst e2 e4
    exact ⟨g', Gh.le.refl g', R, .int _⟩
  stop := fun f g' b sl σ H hK hG l R => by
    show n ≤ _
    rw [dn_len]
    exact Nat.le_refl _
theorem enum_get : ∀ {ws : List W} {k i : Nat} {w : W}, (enumL k ws)[i]? = some w → ∃ x, ws[i]? = some x ∧ w = .tup [.int (k + i : Nat), x]
  | [], _, i, _, h => by simp [enumL] at h
  | y :: ws, k, 0, w, h => by
    simp [enumL] at h
    exact ⟨y, rfl, h.symm⟩
  | y :: ws, k, i + 1, w, h => by
    have h : (enumL (k + 1) ws)[i]? = some w := by simpa [enumL] using h
    obtain ⟨x, h1, h2⟩ := enum_get h
    refine ⟨x, by simpa using h1, ?_⟩
    rw [h2]
    have : k + 1 + i = k + (i + 1) := by omega
    rw [this]
theorem enum_len : ∀ (ws : List W) (k : Nat), (enumL k ws).length = ws.length
  | [], _ => rfl
  | _ :: ws, k => congrArg (· + 1) (enum_len ws (k + 1))
theorem zip_get : ∀ {xs ys : List W} {i : Nat} {w : W}, (zipL xs ys)[i]? = some w → ∃ x y, xs[i]? = some x ∧ ys[i]? = some y ∧ w = .tup [x, y]
  | [], _, i, _, h => by simp [zipL] at h
  | _ :: _, [], i, _, h => by simp [zipL] at h
  | x :: xs, y :: ys, 0, w, h => by
    simp [zipL] at h
    exact ⟨x, y, rfl, rfl, h.symm⟩
  | x :: xs, y :: ys, i + 1, w, h => by
    have h : (zipL xs ys)[i]? = some w := by simpa [zipL] using h
    obtain ⟨p, q, h1, h2, h3⟩ := zip_get h
    exact ⟨p, q, by simpa using h1, by simpa using h2, h3⟩
theorem zip_len : ∀ (xs ys : List W), xs.length ≤ (zipL xs ys).length ∨ ys.length ≤ (zipL xs ys).length
  | [], _ => .inl (Nat.zero_le _)
  | _ :: _, [] => .inr (Nat.zero_le _)
  | x :: xs, y :: ys => by
    rcases zip_len xs ys with h | h
    · exact .inl (Nat.succ_le_succ h)
    · exact .inr (Nat.succ_le_succ h)
/-- new pairs, one after another -/
theorem wk_pairs {g'' : Gh} {f : Fm} {sl : Sl} {σ : St} {T : Addr} {x y : V} {wx wy : W} (hK : f.K = K) (hG : f.G = G) (R : Rl f g' b sl σ H) (hT : H T = none) (rx : RV K G g' wx x) (ry : RV K G g' wy y) :
    ∃ g'', g'.le g'' ∧ Rl f g'' b sl σ (upd H T (.tup [x, y])) ∧ RV K G g'' (.tup [wx, wy]) (.ref T) := by
  subst hK hG
  exact R.newT hT (.cons rx (.cons ry .nil))
theorem wk_enumL {a : Addr} {vs : List V} {ws : List W} (h : g.F a = some (.lst vs)) (r : RVs K G g ws vs) : Wk K G g (Ite K a) (enumL 0 ws) where
  go := fun i w e f g' b sl σ H hK hG l R => by
    obtain ⟨x, e0, e3⟩ := enum_get e
    rw [Nat.zero_add] at e3
    subst e3
    obtain ⟨v, e1, rv⟩ := r.get e0
    have hH : SqL K H a vs := .inl (.inl (R.sub a _ (l.1 a _ h)))
    refine ⟨⟨vs, v, hH, e1⟩, fun x H' ⟨T, u, e2, hT, e4, y⟩ => ?_⟩
    have y := y vs hH
    rw [e1] at y
    cases y
    subst e2 e4
    exact wk_pairs (g'' := g') hK hG R hT (.int _) (rv.le l)
  stop := fun f g' b sl σ H hK hG l R => ⟨vs, .inl (.inl (R.sub a _ (l.1 a _ h))), by rw [enum_len, r.len]; exact Nat.le_refl _⟩
theorem wk_zipL {a c : Addr} {vs us : List V} {ws xs : List W} (h : g.F a = some (.lst vs)) (r : RVs K G g ws vs) (h2 : g.F c = some (.lst us)) (r2 : RVs K G g xs us) : Wk K G g (Itz K a c) (zipL ws xs) where
  go := fun i w e f g' b sl σ H hK hG l R => by
    obtain ⟨x, y, e0, e0', e3⟩ := zip_get e
    subst e3
    obtain ⟨v, e1, rv⟩ := r.get e0
    obtain ⟨u, e1', rv'⟩ := r2.get e0'
    have hH : SqL K H a vs := .inl (.inl (R.sub a _ (l.1 a _ h)))
    have hH' : SqL K H c us := .inl (.inl (R.sub c _ (l.1 c _ h2)))
    refine ⟨⟨vs, us, v, u, hH, hH', e1, e1'⟩, fun x H' ⟨T, p, q, e2, hT, e4, y, z⟩ => ?_⟩
    have y := y vs hH
    have z := z us hH'
    rw [e1] at y
    rw [e1'] at z
    cases y
    cases z
    subst e2 e4
    exact wk_pairs (g'' := g') hK hG R hT (rv.le l) (rv'.le l)
  stop := fun f g' b sl σ H hK hG l R => ⟨vs, us, .inl (.inl (R.sub a _ (l.1 a _ h))), .inl (.inl (R.sub c _ (l.1 c _ h2))), by rw [← r.len, ← r2.len]; exact zip_len ws xs⟩
theorem wk_zipT {a c : Addr} {vs us : List V} {ws xs : List W} (h : SqT K g.F a vs) (r : RVs K G g ws vs) (h2 : SqT K g.F c us) (r2 : RVs K G g xs us) : Wk K G g (RZ.ItzT K a c) (zipL ws xs) where
  go := fun i w e f g' b sl σ H hK hG l R => by
    obtain ⟨x, y, e0, e0', e3⟩ := zip_get e
    subst e3
    obtain ⟨v, e1, rv⟩ := r.get e0
    obtain ⟨u, e1', rv'⟩ := r2.get e0'
    have hH : SqT K H a vs := SqT.le R.sub (SqT.le l.1 h)
    have hH' : SqT K H c us := SqT.le R.sub (SqT.le l.1 h2)
    refine ⟨⟨vs, us, v, u, hH, hH', e1, e1'⟩, fun x H' ⟨T, p, q, e2, hT, e4, y, z⟩ => ?_⟩
    have y := y vs hH
    have z := z us hH'
    rw [e1] at y
    rw [e1'] at z
    cases y
    cases z
    subst e2 e4
    exact wk_pairs (g'' := g') hK hG R hT (rv.le l) (rv'.le l)
  stop := fun f g' b sl σ H hK hG l R => ⟨vs, us, SqT.le R.sub (SqT.le l.1 h), SqT.le R.sub (SqT.le l.1 h2), by rw [← r.len, ← r2.len]; exact zip_len ws xs⟩
end
end
end Ev
end
end
section
set_option Elab.async false
set_option linter.all false
set_option maxRecDepth 100000
set_option maxHeartbeats 2000000
/-! EvZm: zip of a tuple and a list. -/
noncomputable section
namespace Ev
open PySem L2 PySem.Spec PyProof.Rows
set_option autoImplicit false
/-- the tuple at a and the list at b as they stand at each turn, the items in new pairs -/
def ItzM (K : PySem.W.Frag) (a b : Addr) : L2.It :=
  ⟨fun i H => ∃ (xs ys : List V) (x y : V), SqT K H a xs ∧ SqL K H b ys ∧ xs[i]? = some x ∧ ys[i]? = some y,
    fun i H v H' => ∃ T x y, v = .ref T ∧ H T = none ∧ H' = upd H T (.tup [x, y]) ∧ (∀ xs, SqT K H a xs → xs[i]? = some x) ∧ ∀ ys, SqL K H b ys → ys[i]? = some y,
    fun i H => ∃ xs ys : List V, SqT K H a xs ∧ SqL K H b ys ∧ (xs.length ≤ i ∨ ys.length ≤ i)⟩
section
variable {P : Program} {w : World} {K : PySem.W.Frag} {elts : List Expr} {kk : Nat} {tpos : Pos} {a b z TI TO i1 i2 : Addr}
def ZmAt (a b z TI TO i1 i2 : Addr) (i : Nat) (h : Heap) : Prop := IsZip h z TI TO .none ∧ IsTupOf2 h TI (.ref i1) (.ref i2) ∧ (∃ x y, IsTupOf2 h TO x y) ∧ h.IsTupleIter i1 a i ∧ h.IsListIter i2 b i
/-- an iterator that is at its end, or past it -/
theorem past_tuple {prog : Program} {w : World} {A : Around} (hh : A.handled = none) (it t : Addr) {items : Array Value} {i : Nat} (he : items[i]? = none) :
    Draws prog w A it [it, t] i (fun _ _ => False) (fun k h => k = i ∧ h.IsTupleIter it t k ∧ h.IsTuple t items) where
  live := fun _ _ st => let ⟨o, ho, _⟩ := st.2.1; ⟨o, ho⟩
  frame := fun _ _ _ st hk => ⟨st.1, st.2.1.at fun o e => hk it (by simp) o e, st.2.2.at fun o e => hk t (by simp) o e⟩
  item := fun k s Q E hi st _ => absurd st.1 (Nat.ne_of_lt hi)
  done := fun s Q E st hE => wpAny_nextOf_tuple_end hh st.2.1 st.2.2 he hE
theorem past_list {prog : Program} {w : World} {A : Around} (hh : A.handled = none) (it t : Addr) {items : Array Value} {i : Nat} (he : items[i]? = none) :
    Draws prog w A it [it, t] i (fun _ _ => False) (fun k h => k = i ∧ h.IsListIter it t k ∧ h.IsList t items) where
  live := fun _ _ st => let ⟨o, ho, _⟩ := st.2.1; ⟨o, ho⟩
  frame := fun _ _ _ st hk => ⟨st.1, st.2.1.at fun o e => hk it (by simp) o e, st.2.2.at fun o e => hk t (by simp) o e⟩
  item := fun k s Q E hi st _ => absurd st.1 (Nat.ne_of_lt hi)
  done := fun s Q E st hE => wpAny_nextOf_list_end hh st.2.1 st.2.2 he hE
/-- either way: it stands at i, not past n; it ends there if the items do -/
def Some_ (prog : Program) (w : World) (A : Around) (it : Addr) (fp : List Addr) (i : Nat) (h : Heap) (no : Prop) : Prop := ∃ n P St, Draws prog w A it fp n P St ∧ St i h ∧ i ≤ n ∧ (no → i = n)
theorem some_tuple {prog : Program} {w : World} {A : Around} (hh : A.handled = none) (it t : Addr) (hne : t ≠ it) {items : Array Value} {i : Nat} {h : Heap} (h1 : h.IsTupleIter it t i) (h2 : h.IsTuple t items) : Some_ prog w A it [it, t] i h (items.size ≤ i) := by
  by_cases q : items.size ≤ i
  · exact ⟨i, _, _, past_tuple hh it t (items := items) (by simpa using q), ⟨rfl, h1, h2⟩, Nat.le_refl _, fun _ => rfl⟩
  · exact ⟨_, _, _, Draws.tuple hh it t hne items, ⟨h1, h2⟩, by omega, fun z => absurd z q⟩
theorem some_list {prog : Program} {w : World} {A : Around} (hh : A.handled = none) (it t : Addr) (hne : t ≠ it) {items : Array Value} {i : Nat} {h : Heap} (h1 : h.IsListIter it t i) (h2 : h.IsList t items) : Some_ prog w A it [it, t] i h (items.size ≤ i) := by
  by_cases q : items.size ≤ i
  · exact ⟨i, _, _, past_list hh it t (items := items) (by simpa using q), ⟨rfl, h1, h2⟩, Nat.le_refl _, fun _ => rfl⟩
  · exact ⟨_, _, _, Draws.list hh it t hne items, ⟨h1, h2⟩, by omega, fun z => absurd z q⟩
theorem five {c : Addr} (h : c ∈ [z, TI, TO, i1, i2]) : c = z ∨ c = TI ∨ c = TO ∨ c = i1 ∨ c = i2 := by simpa using h
theorem nf {c : Addr} (h : c ∉ [z, TI, TO, i1, i2]) : c ≠ z ∧ c ≠ TI ∧ c ≠ TO ∧ c ≠ i1 ∧ c ≠ i2 := by simpa using h
theorem turn_zm (S : ZipSep2 z TI TO i1 i2 [i1, a] [i2, b]) (hai : a ≠ i1) (hbi : b ≠ i2) : Turn P w K (.Tuple elts kk tpos) (ItzM K a b) [z, TI, TO, i1, i2] z (ZmAt a b z TI TO i1 i2) where
  mem := List.mem_cons_self ..
  obj := fun i h st c hc => by
    obtain ⟨hz, hTI, ⟨x, y, hTO⟩, ⟨o1, e1, _, d1⟩, ⟨o2, e2, _, d2⟩⟩ := st
    rcases five hc with rfl | rfl | rfl | rfl | rfl
    · exact ⟨_, hz, fun v q => nomatch q⟩
    · exact ⟨_, hTI, fun v q => nomatch q⟩
    · exact ⟨_, hTO, fun v q => nomatch q⟩
    · exact ⟨o1, e1, fun v q => by rw [d1] at q; cases q⟩
    · exact ⟨o2, e2, fun v q => by rw [d2] at q; cases q⟩
  keep := fun i h h' st k => by
    obtain ⟨hz, hTI, ⟨x, y, hTO⟩, h1, h2⟩ := st
    exact ⟨k _ (by simp) _ hz, k _ (by simp) _ hTI, ⟨x, y, k _ (by simp) _ hTO⟩, h1.at fun o q => k _ (by simp) o q, h2.at fun o q => k _ (by simp) o q⟩
  item := by
    intro X hP hw hK hc i pins s σ H E I hf st hg
    subst hP hw hK
    obtain ⟨hz, hTI, ⟨x0, y0, hTO⟩, h1, h2⟩ := st
    obtain ⟨xs, ys, x, y, hqx, hqy, hx, hy⟩ := hg
    obtain ⟨its, rv, p, _⟩ := I.tuple hqx
    obtain ⟨its2, rv2, p2, _⟩ := I.list hqy
    obtain ⟨u, hu, ru⟩ := rv.get hx
    obtain ⟨u2, hu2, ru2⟩ := rv2.get hy
    have hh := I.ok.hd hc
    have hzl : z < s.heap.objs.size := Heap.lt_size hz
    have l1 : i < its.toArray.size := by simpa using (List.getElem?_eq_some_iff.mp hu).1
    have l2 : i < its2.toArray.size := by simpa using (List.getElem?_eq_some_iff.mp hu2).1
    refine wpAny_pyNext_zipD2_item S (Draws.tuple (A := X.A.in1) hh i1 a hai its.toArray) (Draws.list (A := X.A.in1) hh i2 b hbi its2.toArray) hz hTI hTO ⟨h1, p⟩ ⟨h2, p2.isList⟩ l1 l2 fun y1 y2 h' tk q1 q2 z' TO' h1' h2' hT hsz hk => ?_
    have q1 : its[i]? = some y1 := by simpa using q1
    have q2 : its2[i]? = some y2 := by simpa using q2
    rw [hu] at q1
    rw [hu2] at q2
    cases q1
    cases q2
    refine ⟨_, rfl, wpAny_letOwnedTupleGo_zip (s := { s with heap := h', toks := tk }) z' fun h'' z'' sb => ?_⟩
    have old : ∀ c o, c ∉ [z, TI, TO, i1, i2] → s.heap.get? c = some o → h''.get? c = some o := fun c o hb q => by
      obtain ⟨n1, n2, n3, n4, n5⟩ := nf hb
      exact (sb.2 c n1).trans (hk c o n1 n3 n4 n5 q)
    have hN : h''.get? s.heap.objs.size = some { cls := .type "tuple", data := .seq #[u, u2] } := (sb.2 _ (Nat.ne_of_gt hzl)).trans hT
    have I1 : Inv X pins σ (upd H s.heap.objs.size (.tup [x, y])) { s with heap := h'', toks := tk } :=
      I.turnedNew (t' := tk) (ch := [z, TI, TO, i1, i2]) old hf (Nat.le_refl _) ⟨by show 2 ≤ sizeLine; decide, [u, u2], .cons ru (.cons ru2 .nil), ⟨_, hN, rfl, _, rfl⟩⟩
    refine ⟨.ref s.heap.objs.size, _, I1, rfl, ⟨_, x, y, rfl, I.hok.fresh (Nat.le_refl _), rfl, fun l hl => by rw [I.tuple_inj hl hqx]; exact hx, fun l hl => by rw [I.list_inj hl hqy]; exact hy⟩, ⟨z'', ?_, ⟨u, u2, ?_⟩, ?_, ?_⟩, fun c hcm => ?_⟩
    · exact (sb.2 _ S.TIz).trans (hk _ _ S.TIz S.TITO S.TIi1 S.TIi2 hTI)
    · exact (sb.2 _ S.TOz).trans TO'
    · exact h1'.1.at fun o q => (sb.2 _ S.zi1.symm).trans q
    · exact h2'.1.at fun o q => (sb.2 _ S.zi2.symm).trans q
    · have hlt : c < s.heap.objs.size := by
        rcases five hcm with rfl | rfl | rfl | rfl | rfl
        · exact hzl
        · exact Heap.lt_size hTI
        · exact Heap.lt_size hTO
        · obtain ⟨_, e1, _⟩ := h1; exact Heap.lt_size e1
        · obtain ⟨_, e2, _⟩ := h2; exact Heap.lt_size e2
      rw [upd_ne (Nat.ne_of_lt hlt)]
      exact (hf c hcm).1
  done := by
    intro X hP hw hK hc i pins s σ H E I hf st hg
    subst hP hw hK
    obtain ⟨hz, hTI, ⟨x0, y0, hTO⟩, h1, h2⟩ := st
    obtain ⟨xs, ys, hqx, hqy, hend⟩ := hg
    obtain ⟨its, rv, p, _⟩ := I.tuple hqx
    obtain ⟨its2, rv2, p2, _⟩ := I.list hqy
    have hh : X.A.in1.handled = none := I.ok.hd hc
    obtain ⟨n1, P1, St1, D1, s1, b1, c1⟩ := some_tuple (prog := X.prog) (w := X.w) hh i1 a hai h1 p
    obtain ⟨n2, P2, St2, D2, s2, b2, c2⟩ := some_list (prog := X.prog) (w := X.w) hh i2 b hbi h2 p2.isList
    refine wpAny_pyNext_zipD2_end S D1 D2 hz hTI hTO s1 s2 b1 b2 ?_ fun h' tk hk => ⟨rfl, I.turnedL (t' := tk) (ch := [z, TI, TO, i1, i2]) (fun c o hb q => ?_) hf⟩
    · rcases hend with q | q
      · exact .inl (c1 (by simpa [rv.length] using q))
      · exact .inr (c2 (by simpa [rv2.length] using q))
    · obtain ⟨n1, n2, n3, n4, n5⟩ := nf hb
      exact hk c o n1 n3 n4 n5 q
  self := fun A i s Q E st h => wpAny_pyIter_zip st.1 h
end
theorem pie_zm {X : Cx} {elts : List Expr} {kk : Nat} {tpos : Pos} {pins : List (Addr × Obj)} {σ : L2.St} {H : Hp} {s : Shared} {R : L2.It → Hp → Prop} {a b : Addr} {xs ys : List V} (I : Inv X pins σ H s) (hx : SqT X.K H a xs) (hy : SqL X.K H b ys) (q : R (ItzM X.K a b) H) :
    wpAny (model X.prog X.w) X.A (call (.type "zip") [.ref a, .ref b]) (fun v s1 => wpAny (model X.prog X.w) X.A (pyIter v) (PIE X pins σ (.Tuple elts kk tpos) R) X.xe s1) X.xe s := by
  obtain ⟨its, rv, p, _⟩ := I.tuple hx
  obtain ⟨its2, rv2, p2, _⟩ := I.list hy
  have la : a < s.heap.objs.size := by obtain ⟨o, ho, _⟩ := id p; exact Heap.lt_size ho
  have lb : b < s.heap.objs.size := by obtain ⟨o, n, ho, _⟩ := id p2; exact Heap.lt_size ho
  refine zip_begins2 (begins_tuple a its.toArray) (begins_list b its2.toArray) p p2.isList fun h' hz hTI hTO g1 g2 hsz hk => wpAny_pyIter_zip hz ?_
  have I2 : Inv X pins σ H { s with heap := h' } := I.kept (t' := s.toks) hk
  refine ⟨s.heap.objs.size + 4, [s.heap.objs.size + 4, s.heap.objs.size + 2, s.heap.objs.size + 3, s.heap.objs.size, s.heap.objs.size + 1], _, _, H, rfl, I2,
    turn_zm (zip_sep2 (fp1 := [a]) (fp2 := [b]) (fun c hc => by rw [List.mem_singleton.mp hc]; exact la) (fun c hc => by rw [List.mem_singleton.mp hc]; exact lb)) (Nat.ne_of_lt la) (Nat.ne_of_lt (Nat.lt_succ_of_lt lb)), ⟨hz, hTI, ⟨_, _, hTO⟩, ⟨_, g1, rfl, rfl⟩, ⟨_, g2, rfl, rfl⟩⟩, fun c hcm => ?_, q⟩
  have hle : s.heap.objs.size ≤ c := by
    rcases five hcm with rfl | rfl | rfl | rfl | rfl <;> omega
  exact I.fpOk hle (I.hok.fresh hle)
section
variable {X : Cx} {elts : List Expr} {kk : Nat} {tpos : Pos} {pins : List (Addr × Obj)} {σ : L2.St} {H : Hp} {s : Shared} {R : L2.It → Hp → Prop} {a b : Addr} {xs ys : List V}
/-- zip's five new objects -/
theorem fresh5 (I : Inv X pins σ H s) : ∀ c, c ∈ [s.heap.objs.size + 4, s.heap.objs.size + 2, s.heap.objs.size + 3, s.heap.objs.size, s.heap.objs.size + 1] → FpOk X pins H c := fun c hcm => by
  have hle : s.heap.objs.size ≤ c := by
    rcases five hcm with rfl | rfl | rfl | rfl | rfl <;> omega
  exact I.fpOk hle (I.hok.fresh hle)
theorem pie_zl (I : Inv X pins σ H s) (hx : SqL X.K H a xs) (hy : SqL X.K H b ys) (q : R (Itz X.K a b) H) :
    wpAny (model X.prog X.w) X.A (call (.type "zip") [.ref a, .ref b]) (fun v s1 => wpAny (model X.prog X.w) X.A (pyIter v) (PIE X pins σ (.Tuple elts kk tpos) R) X.xe s1) X.xe s := by
  obtain ⟨its, rv, p, _⟩ := I.list hx
  obtain ⟨its2, rv2, p2, _⟩ := I.list hy
  exact call_zip_2 p.isList p2.isList fun h' hz hTI hTO h1 h2 hsz hk => wpAny_pyIter_zip hz ⟨_, _, _, _, H, rfl, I.kept (t' := s.toks) hk, turn_zip (PySem.W.ktu_apart s.heap.objs.size a b p.lt p2.lt), ⟨hz, hTI, ⟨_, _, hTO⟩, h1, h2⟩, fresh5 I, q⟩
theorem pie_zt (I : Inv X pins σ H s) (hx : SqT X.K H a xs) (hy : SqT X.K H b ys) (q : R (RZ.ItzT X.K a b) H) :
    wpAny (model X.prog X.w) X.A (call (.type "zip") [.ref a, .ref b]) (fun v s1 => wpAny (model X.prog X.w) X.A (pyIter v) (PIE X pins σ (.Tuple elts kk tpos) R) X.xe s1) X.xe s := by
  obtain ⟨its, rv, p, _⟩ := I.tuple hx
  obtain ⟨its2, rv2, p2, _⟩ := I.tuple hy
  have la : a < s.heap.objs.size := by obtain ⟨o, ho, _⟩ := id p; exact Heap.lt_size ho
  have lb : b < s.heap.objs.size := by obtain ⟨o, ho, _⟩ := id p2; exact Heap.lt_size ho
  exact RZ.call_zipT (show s.heap.IsTuple a its.toArray from p) (show s.heap.IsTuple b its2.toArray from p2) fun h' hz hTI hTO h1 h2 hsz hk => wpAny_pyIter_zip hz ⟨_, _, _, _, H, rfl, I.kept (t' := s.toks) hk, RZ.turn_zipT (PySem.W.ktu_apart s.heap.objs.size a b la lb), ⟨hz, hTI, ⟨_, _, hTO⟩, h1, h2⟩, fresh5 I, q⟩
end
/-- two lists, two tuples, or a tuple and a list -/
def iZipB (K : PySem.W.Frag) (ta : TA) : L2.TI := fun σ H R => ta σ H fun vs H1 => ∃ a b xs ys, vs = [.ref a, .ref b] ∧ ((SqL K H1 a xs ∧ SqL K H1 b ys ∧ R (Itz K a b) H1) ∨ (SqT K H1 a xs ∧ SqT K H1 b ys ∧ R (RZ.ItzT K a b) H1) ∨ (SqT K H1 a xs ∧ SqL K H1 b ys ∧ R (ItzM K a b) H1))
theorem pi_zipB {X : Cx} {e e2 : Expr} {ta : TA} {p pos tpos : Pos} {elts : List Expr} {kk : Nat} (hg : Gl X "zip") (hm : X.mg "zip" = none) (ha : PA X [e, e2] ta)
    (hs : starEach [e, e2] X.env = (false, eval e X.env) :: starEach [e2] X.env) (hpl : (backTo pos (starEach [e2] X.env)).any (·.1) = false) :
    PI X (.Tuple elts kk tpos) (.Call (.Name "zip" p) [e, e2] [] pos) (iZipB X.K ta) := by
  refine ⟨fun pins s σ H R I h => Call_ (ld_blt I hg hm PyProof.Rows.boot_zip (PyProof.Rows.callWith_type1 (thn (ha.run pos pins s σ H _ I h) fun us s1 ⟨vs, H1, I1, r1, q1⟩ => ?_) hs hpl))⟩
  obtain ⟨a, b, xs, ys, rfl, q1⟩ := q1
  cases r1 with
  | cons r rr =>
    cases rr with
    | cons r' rr =>
      cases rr
      cases r
      cases r'
      rcases q1 with ⟨hx, hy, q⟩ | ⟨hx, hy, q⟩ | ⟨hx, hy, q⟩
      · exact pie_zl I1 hx hy q
      · exact pie_zt I1 hx hy q
      · exact pie_zm I1 hx hy q
section
variable {K : PySem.W.Frag} {G : Gx} {g : Gh}
theorem wk_zipM {a c : Addr} {vs us : List V} {ws xs : List W} (h : SqT K g.F a vs) (r : RVs K G g ws vs) (h2 : g.F c = some (.lst us)) (r2 : RVs K G g xs us) : Wk K G g (ItzM K a c) (zipL ws xs) where
  go := fun i w e f g' b sl σ H hK hG l R => by
    obtain ⟨x, y, e0, e0', rfl⟩ := zip_get e
    obtain ⟨v, e1, rv⟩ := r.get e0
    obtain ⟨u, e1', rv'⟩ := r2.get e0'
    have hH : SqT K H a vs := SqT.le R.sub (SqT.le l.1 h)
    have hH' : SqL K H c us := .inl (.inl (R.sub c _ (l.1 c _ h2)))
    refine ⟨⟨vs, us, v, u, hH, hH', e1, e1'⟩, fun x H' ⟨T, p, q, e2, hT, e4, y, z⟩ => ?_⟩
    obtain rfl := Option.some.inj (e1.symm.trans (y vs hH))
    obtain rfl := Option.some.inj (e1'.symm.trans (z us hH'))
    subst e2 e4
    exact wk_pairs (g'' := g') hK hG R hT (rv.le l) (rv'.le l)
  stop := fun f g' b sl σ H hK hG l R => ⟨vs, us, SqT.le R.sub (SqT.le l.1 h), .inl (.inl (R.sub c _ (l.1 c _ h2))), by rw [← r.len, ← r2.len]; exact zip_len ws xs⟩
end
end Ev
end
end
section
set_option Elab.async false
set_option linter.all false
set_option maxRecDepth 100000
set_option maxHeartbeats 4000000
/-! EvEnum: enumerate over a tuple. -/
noncomputable section
namespace Ev
open PySem L2
set_option autoImplicit false
abbrev enumAt (it : Addr) : Obj := { cls := .type "enumerate", data := .fields #[.none, .bool false, .ref it, rawInt 0, .none, .none] }
theorem enum_new {v : Value} {o : Obj} {I : Heap → Prop} (B : Begins v o I) :
    Meets (Builtin.«enumerate.__new__» ⟨[.type "enumerate", v], []⟩) fun _ R s => I s.heap ∧ R (.ok (.ret (.ref (s.heap.push o).objs.size))) { s with heap := (s.heap.push o).push (enumAt s.heap.objs.size) } :=
  .of_wp fun prog w A R s h => by
    obtain ⟨hp, gs, dd, tk, os⟩ := s
    obtain ⟨hi, h⟩ := h
    have isEnumCls := sub_enumerate
    have it1 : ∀ {A' : Around} {E : Value → Shared → Prop} {Q : Value → Shared → Prop}, Q (.ref hp.objs.size) ⟨hp.push o, gs, dd, tk, os⟩ → wpAny (model prog w) A' (pyIter v) Q E ⟨hp, gs, dd, tk, os⟩ := fun q => B.iter prog w _ _ _ _ hi q
    wp_walk using it1
    refine wpAny_stack_any fun st => wpAny_pure ?_
    split
    · rename_i c _ _ _ _ _
      cases (c == Value.type "enumerate") <;> (wp_walk using it1; exact ⟨_, rfl, h⟩)
    · wp_walk using it1
      exact ⟨_, rfl, h⟩
section
variable {prog : Program} {w : World} {A : Around} {E : Value → Shared → Prop} {s : Shared}
theorem enum_call {v : Value} {o : Obj} {I : Heap → Prop} {Q : Value → Shared → Prop} (B : Begins v o I) (hi : I s.heap)
    (h : ∀ h', IsEnum h' (s.heap.objs.size + 1) s.heap.objs.size 0 .none → h'.get? s.heap.objs.size = some o → (∀ c u, s.heap.get? c = some u → h'.get? c = some u) → Q (.ref (s.heap.objs.size + 1)) { s with heap := h' }) :
    wpAny (model prog w) A (call (.type "enumerate") [v]) Q E s := by
  refine callType_new F.called_enumerate (by decide) (F.typeCall_enumerate_1 _) (F.newCall_enumerate_1 _) (fun obj => F.args_object_init_2 obj _) F.entry_enumerate_new (enum_new B) ⟨hi, ?_⟩
  have sz : (s.heap.push o).objs.size = s.heap.objs.size + 1 := Heap.size_push ..
  have en : IsEnum ((s.heap.push o).push (enumAt s.heap.objs.size)) (s.heap.objs.size + 1) s.heap.objs.size 0 .none := by
    have z := Heap.get?_push_size (s.heap.push o) (o := enumAt s.heap.objs.size) rfl
    rw [sz] at z
    exact z
  show _ ∧ _
  rw [sz]
  exact ⟨⟨_, en, rfl⟩, h _ en (Heap.get?_push_of_some _ (Heap.get?_push_size _ B.free)) fun c u e => Heap.get?_push_of_some _ (Heap.get?_push_of_some _ e)⟩
end
/-- the tuple at a, each item in a new pair -/
def IteT (K : PySem.W.Frag) (a : Addr) : L2.It where
  go i H := ∃ (xs : List V) (x : V), SqT K H a xs ∧ xs[i]? = some x
  yld i H v H' := ∃ t x, v = .ref t ∧ H t = none ∧ H' = upd H t (.tup [.int (i : Nat), x]) ∧ ∀ xs, SqT K H a xs → xs[i]? = some x
  stop i H := ∃ xs : List V, SqT K H a xs ∧ xs.length = i
theorem it_ne {h : Heap} {it a : Addr} {i : Nat} {its : Array Value} (h1 : h.IsTupleIter it a i) (h2 : h.IsTuple a its) : a ≠ it := fun e => by
  subst e
  obtain ⟨o, e1, c1, _⟩ := h1
  obtain ⟨o2, e2, c2, _⟩ := h2
  rw [e1] at e2
  cases e2
  rw [c1] at c2
  exact absurd c2 (by decide)
theorem turn_enumT {P : Program} {w : World} {K : PySem.W.Frag} {elts : List Expr} {kk : Nat} {tp : Pos} (a en it : Addr) :
    Turn P w K (.Tuple elts kk tp) (IteT K a) [en, it] en (fun i h => (∃ old, IsEnum h en it ((i : Nat) : Int) old) ∧ h.IsTupleIter it a i ∧ en ≠ it ∧ en ≠ a) where
  mem := List.mem_cons_self ..
  obj := fun i h ⟨⟨old, he⟩, ⟨o, ho, _, hd⟩, _⟩ c hc => by
    rcases List.mem_cons.mp hc with z | z
    · subst z
      exact ⟨_, he, fun v q => nomatch q⟩
    · have z := List.mem_singleton.mp z
      subst z
      exact ⟨o, ho, fun v q => by rw [hd] at q; cases q⟩
  keep := fun i h h' ⟨⟨old, he⟩, hi, ne⟩ k => ⟨⟨old, k en (List.mem_cons_self ..) _ he⟩, hi.at fun o q => k it (List.mem_cons_of_mem _ (List.mem_cons_self ..)) o q, ne⟩
  item := by
    intro X hP hw hK hc i pins s σ H E I hf ⟨⟨old, he⟩, hit, ne1, ne2⟩ ⟨xs, x, hq, hx⟩
    subst hP hw hK
    obtain ⟨its, rel, tu, _⟩ := I.tuple hq
    obtain ⟨u, hu, ru⟩ := rel.get hx
    have tu : s.heap.IsTuple a its.toArray := tu
    have enl : en < s.heap.objs.size := Heap.lt_size he
    have itl : it < s.heap.objs.size := by
      obtain ⟨_, q, _⟩ := hit
      exact Heap.lt_size q
    have hu' : its.toArray[i]? = some u := by simpa using hu
    have hlt : i < its.toArray.size := (Array.getElem?_eq_some_iff.mp hu').1
    refine wpAny_pyNext_enum_itemC (Draws.tuple (A := X.A.in1) (I.ok.hd hc) it a (it_ne hit tu) its.toArray) he ⟨hit, tu⟩ hlt ne1 (fun z => ?_) fun y h1 tk hy ho hst hT _ hk => ?_
    · rcases List.mem_cons.mp z with q | q
      · exact ne1 q
      · exact ne2 (List.mem_singleton.mp q)
    · have hy : its.toArray[i]? = some y := hy
      rw [hu'] at hy
      cases hy
      refine ⟨_, rfl, wpAny_letOwnedTupleGo_enum (s := { s with heap := h1, toks := tk + 1 }) ho fun h2 he2 sb => ?_⟩
      have tT : h2.get? s.heap.objs.size = some { cls := .type "tuple", data := .seq #[.int i tk, u] } := (sb.2 _ (Nat.ne_of_gt enl)).trans hT
      have okT : ObjOk X.prog X.w (upd H s.heap.objs.size (.tup [.int (i : Nat), x])) h2 s.heap.objs.size (.tup [.int (i : Nat), x]) := ⟨by show 2 ≤ sizeLine; decide, [.int i tk, u], .cons ⟨_, rfl⟩ (.cons ru .nil), ⟨_, tT, rfl, _, rfl⟩⟩
      have I2 : Inv X pins σ (upd H s.heap.objs.size (.tup [.int (i : Nat), x])) { s with heap := h2, toks := tk + 1 } := I.turnedNew (ch := [en, it]) (fun c ob hb q => (sb.2 c fun z => hb (by simp [z])).trans (hk c ob (fun z => hb (by simp [z])) (fun z => hb (by simp [z])) q)) hf (Nat.le_refl _) okT
      refine ⟨.ref s.heap.objs.size, _, I2, rfl, ⟨_, x, rfl, I.hok.fresh (Nat.le_refl _), rfl, fun ys hy => by rw [I.tuple_inj hy hq]; exact hx⟩, ⟨⟨u, ?_⟩, hst.1.at fun o q => (sb.2 it (Ne.symm ne1)).trans q, ne1, ne2⟩, fun c hcm => ?_⟩
      · have e1 : ((i + 1 : Nat) : Int) = (i : Int) + 1 := by omega
        rw [e1]
        exact he2
      · have lt : c < s.heap.objs.size := by
          rcases List.mem_cons.mp hcm with z | z
          · rw [z]; exact enl
          · rw [List.mem_singleton.mp z]; exact itl
        rw [upd_ne (Nat.ne_of_lt lt)]
        exact (hf c hcm).1
  done := by
    intro X hP hw hK hc i pins s σ H E I hf ⟨⟨old, he⟩, hit, ne1, ne2⟩ ⟨xs, hq, hx⟩
    subst hP hw hK
    obtain ⟨its, rel, tu, _⟩ := I.tuple hq
    have tu : s.heap.IsTuple a its.toArray := tu
    have ll : its.toArray.size = i := by rw [List.size_toArray, ← rel.length]; exact hx
    obtain ⟨f0, f1, _, f3, f4, f5⟩ := hf it (List.mem_cons_of_mem _ (List.mem_cons_self ..))
    refine wpAny_pyNext_enum_endD (Draws.tuple (A := X.A.in1) (I.ok.hd hc) it a (it_ne hit tu) its.toArray) he ⟨by rw [ll]; exact hit, tu⟩ fun h1 eb => ⟨rfl, ?_⟩
    exact I.turned (t' := s.toks) (fun c o hb q => eb c o hb q) f0 f1 f3 f4 f5
  self := fun A i s Q E ⟨⟨_, he⟩, _⟩ h => wpAny_pyIter_enum he h

section
variable {X : Cx} {σ : St} {H : Hp} {R : L2.It → Hp → Prop}
theorem w_enum {e : Expr} {p pos tp : Pos} {elts : List Expr} {kk : Nat} (hg : Gl X "enumerate") (hm : X.mg "enumerate" = none) (hs : starB e = false)
    (h : tW X e σ H fun x H1 => ∃ a, x = .ref a ∧ ((∃ xs, SqL X.K H1 a xs ∧ R (Ite X.K a) H1) ∨ ∃ xs, SqT X.K H1 a xs ∧ R (IteT X.K a) H1)) : tWI X (.Tuple elts kk tp) (.Call (.Name "enumerate" p) [e] [] pos) σ H R := by
  have one : starEach [e] X.env = [(false, eval e X.env)] := by
    cases e <;> first
      | rfl
      | cases hs
  intro pins s I
  have hA : tWA X [e] σ H fun vs H1 => ∃ a, vs = [.ref a] ∧ ((∃ xs, SqL X.K H1 a xs ∧ R (Ite X.K a) H1) ∨ ∃ xs, SqT X.K H1 a xs ∧ R (IteT X.K a) H1) := w_cons hs (tW.mono h fun v H1 ⟨a, ev, q⟩ => w_nil ⟨a, by rw [ev], q⟩)
  refine PyProof.Rows.Call_ (ld_blt I hg hm PyProof.Rows.boot_enumerate (PyProof.Rows.callWith_type1 (thn (hA pos pins s I) fun us s1 ⟨vs, H1, I1, r1, a, ev, q⟩ => ?_) one rfl))
  subst ev
  obtain ⟨u, rfl, ru⟩ := vals1 r1
  obtain rfl : u = Value.ref a := ru
  have frs2 : ∀ c ∈ [s1.heap.objs.size + 1, s1.heap.objs.size], FpOk X pins H1 c := fun c hc => by
    have le : s1.heap.objs.size ≤ c := by
      rcases List.mem_cons.mp hc with z | z
      · rw [z]; exact Nat.le_succ _
      · rw [List.mem_singleton.mp z]; exact Nat.le_refl _
    exact I1.fpOk le (I1.hok.fresh le)
  rcases q with ⟨xs, sq, q⟩ | ⟨xs, sq, q⟩
  · obtain ⟨its, rel, li, _⟩ := I1.list sq
    refine enum_call (begins_list a its.toArray) li.isList fun h1 en it1 kp => wpAny_pyIter_enum en ?_
    exact ⟨_, _, _, _, H1, rfl, I1.kept (t' := s1.toks) kp, turn_enum a (s1.heap.objs.size + 1) s1.heap.objs.size, ⟨⟨.none, en⟩, ⟨_, it1, rfl, rfl⟩, Nat.succ_ne_self _⟩, frs2, q⟩
  · obtain ⟨its, rel, tu, _⟩ := I1.tuple sq
    have tu : s1.heap.IsTuple a its.toArray := tu
    have al : a < s1.heap.objs.size := by
      obtain ⟨o, e, _⟩ := tu
      exact Heap.lt_size e
    refine enum_call (begins_tuple a its.toArray) tu fun h1 en it1 kp => wpAny_pyIter_enum en ?_
    exact ⟨_, _, _, _, H1, rfl, I1.kept (t' := s1.toks) kp, turn_enumT a (s1.heap.objs.size + 1) s1.heap.objs.size, ⟨⟨.none, en⟩, ⟨_, it1, rfl, rfl⟩, Nat.succ_ne_self _, fun z => absurd al (by rw [← z]; exact Nat.not_lt.mpr (Nat.le_succ _))⟩, frs2, q⟩
end
theorem wk_enumT {K : PySem.W.Frag} {G : Gx} {g : Gh} {a : Addr} {vs : List V} {ws : List W} (h : SqT K g.F a vs) (r : RVs K G g ws vs) : Wk K G g (IteT K a) (enumL 0 ws) where
  go := fun i w e f g' b sl σ H hK hG l R => by
    obtain ⟨x, e0, e3⟩ := enum_get e
    rw [Nat.zero_add] at e3
    subst e3
    obtain ⟨v, e1, rv⟩ := r.get e0
    have hH : SqT K H a vs := SqT.le R.sub (SqT.le l.1 h)
    refine ⟨⟨vs, v, hH, e1⟩, fun x H' ⟨T, u, e2, hT, e4, y⟩ => ?_⟩
    have y := y vs hH
    rw [e1] at y
    cases y
    subst e2 e4
    exact wk_pairs (g'' := g') hK hG R hT (.int _) (rv.le l)
  stop := fun f g' b sl σ H hK hG l R => ⟨vs, SqT.le R.sub (SqT.le l.1 h), by rw [enum_len, r.len]⟩
end Ev
end
end
section
set_option Elab.async false
set_option linter.all false
set_option maxRecDepth 100000
set_option maxHeartbeats 4000000
/-! EvEz: enumerate(zip(a, b)) over two tuples. The tuple that zip handed out may still be alive at zip's next turn, or not: both ways. -/
noncomputable section
namespace Ev
open PySem L2
set_option autoImplicit false
/-- a zip in any state between two turns -/
abbrev ZR (h : Heap) (z TI TO : Addr) (f0 : Value) (f1 : Bool) : Prop :=
  h.get? z = some { cls := .type "zip", dict := none, data := .fields #[f0, .bool f1, .bool false, .ref TI, .ref TO], slots := #[] }
def F0 (f0 : Value) : Prop := f0 = .none ∨ ∃ T : Nat, f0 = rawInt T
def ZO (h : Heap) (z TI TO : Addr) : Prop := ∃ f0 f1, F0 f0 ∧ ZR h z TI TO f0 f1
section
variable {prog : Program} {w : World} {A : Around} {E : Value → Shared → Prop} {s : Shared} {z TI TO i1 i2 : Addr} {fp1 fp2 : List Addr} {n1 n2 i : Nat} {P1 P2 : Nat → Value → Prop} {St1 St2 : Nat → Heap → Prop} {a1 a2 f0 : Value} {f1 : Bool}
theorem alive_any {a : Addr} {Q : Option Obj → Shared → Prop} (h : Q (s.heap.get? a) s) : wpAny (model prog w) A (loadIfAlive a) Q E s := fun _ _ _ => h
theorem free_any {Q : Bool → Shared → Prop} (hf : F0 f0) (hz : ZR s.heap z TI TO f0 f1) (h1 : Q true s) (h2 : ∀ h', ZR h' z TI TO f0 true → Heap.SameBut z s.heap h' → Q false { s with heap := h' }) :
    wpAny (model prog w) A (Builtin.SmallTypes.ownedTupleIsFree (.ref z)) Q E s := by
  unfold Builtin.SmallTypes.ownedTupleIsFree
  rcases hf with rfl | ⟨T, rfl⟩
  · exact wpAny_bind (wpAny_field hz rfl (x := .none) rfl (wpAny_pure h1))
  · refine wpAny_bind (wpAny_field hz rfl (x := rawInt T) rfl ?_)
    show wpAny _ _ (loadIfAlive ((T : Int).toNat) >>= _) _ _ _
    rw [Int.toNat_natCast]
    refine wpAny_bind (alive_any ?_)
    cases hT : s.heap.get? T with
    | none =>
      simp only [Option.isNone_none, if_true]
      exact wpAny_pure h1
    | some oT =>
      simp only [Option.isNone_some, Bool.false_eq_true, if_false]
      refine wpAny_bind (wpAny_field hz rfl (x := .bool f1) rfl ?_)
      cases f1 with
      | true =>
        rw [if_neg (show ¬ ((Value.bool true != Value.bool true) = true) from Bool.false_ne_true)]
        exact wpAny_pure (h2 s.heap hz (Heap.SameBut.refl _ _))
      | false =>
        rw [if_pos (show (Value.bool false != Value.bool true) = true from rfl)]
        exact wpAny_bind (wpAny_setField_rec hz (by simp) fun h₁ hz₁ hs₁ => wpAny_pure (h2 h₁ hz₁ hs₁))

theorem zip_any_item {Q : Value → Shared → Prop} (S : ZipSep2 z TI TO i1 i2 fp1 fp2) (D1 : Draws prog w A i1 fp1 n1 P1 St1) (D2 : Draws prog w A i2 fp2 n2 P2 St2)
    (hf : F0 f0) (hz : ZR s.heap z TI TO f0 f1) (hTI : IsTupOf2 s.heap TI (.ref i1) (.ref i2)) (hTO : IsTupOf2 s.heap TO a1 a2) (st1 : St1 i s.heap) (st2 : St2 i s.heap) (hlt1 : i < n1) (hlt2 : i < n2)
    (hQ : ∀ x1 x2 h' tk, P1 i x1 → P2 i x2 → ZO h' z TI TO → (∃ b1 b2, IsTupOf2 h' TO b1 b2) → St1 (i + 1) h' → St2 (i + 1) h' → IsTupOf2 h' s.heap.objs.size x1 x2 → h'.objs.size = s.heap.objs.size + 1 →
      (∀ c o, c ≠ z → c ≠ TO → c ≠ i1 → c ≠ i2 → s.heap.get? c = some o → h'.get? c = some o) → Q (.ref s.heap.objs.size) { s with heap := h', toks := tk }) :
    wpAny (model prog w) A (Builtin.«zip.__next__» ⟨[.ref z], []⟩) (fun fin s' => ∃ v, fin = .done (.ret v) ∧ Q v s') E s := by
  obtain ⟨hp, g, d, tk0, os⟩ := s
  show wpAny _ _ (field (.ref z) 2 >>= _) _ _ _
  refine wpAny_bind (wpAny_field hz rfl (x := .bool false) rfl ?_)
  show wpAny _ _ (field (.ref z) 3 >>= _) _ _ _
  refine wpAny_bind (wpAny_field hz rfl (x := .ref TI) rfl ?_)
  refine wpAny_bind (wpAny_seqItems hTI rfl ?_)
  show wpAny _ _ (Builtin.SmallTypes.ownedTupleIsFree (.ref z) >>= _) _ _ _
  refine wpAny_bind (free_any hf hz ?_ fun h₁ hz₁ hs₁ => ?_)
  · simp only [if_true]
    refine wpAny_bind (wpAny_rule ?_)
    refine wpAny_bind (wpAny_field hz rfl (x := .ref TO) rfl ?_)
    refine wpAny_bind (wpAny_setField_rec hz (by simp) fun g0 hz0 hs0 => ?_)
    replace hz0 : ZR g0 z TI TO .ellipsis f1 := hz0
    replace hs0 : Heap.SameBut z hp g0 := hs0
    refine wpAny_bind ?_
    simp only [List.zipIdx_cons, List.zipIdx_nil, List.forIn_cons, List.forIn_nil]
    refine wpAny_bind (wpAny_bind (wpAny_onRaise ?_))
    show wpAny _ _ (Builtin.SmallTypes.nextOf (.ref i1) >>= _) _ _ ⟨g0, g, d, tk0, os⟩
    refine wpAny_bind (D1.item i _ _ _ hlt1 (D1.over st1 hs0 S.zf1) fun x1 p1 tk1 hx1 sn1 hp1 => wpAny_pure ?_)
    replace hp1 : Heap.SameBut i1 g0 p1 := hp1
    have hU1 : IsTupOf2 p1 TO a1 a2 := hp1.extBut _ _ S.Ti1 (hs0.extBut _ _ S.TOz hTO)
    refine wpAny_bind (wpAny_seqItems (s := ⟨p1, g, d, tk1, os⟩) hU1 rfl ?_)
    refine wpAny_bind (updateSeq_IsTupOf2 (s := ⟨p1, g, d, tk1, os⟩) hU1 fun g1 hT1 hs1 => ?_)
    replace hT1 : IsTupOf2 g1 TO x1 a2 := hT1
    replace hs1 : Heap.SameBut TO p1 g1 := hs1
    refine wpAny_bind (wpAny_letGo (wpAny_pure ?_))
    refine wpAny_bind (wpAny_bind (wpAny_onRaise ?_))
    show wpAny _ _ (Builtin.SmallTypes.nextOf (.ref i2) >>= _) _ _ ⟨g1, g, d, tk1, os⟩
    refine wpAny_bind (D2.item i _ _ _ hlt2 (D2.over (D2.over (D2.over st2 hs0 S.zf2) hp1 S.sep1_2) hs1 S.Tf2) fun x2 p2 tk2 hx2 sn2 hp2 => wpAny_pure ?_)
    replace hp2 : Heap.SameBut i2 g1 p2 := hp2
    have hU2 : IsTupOf2 p2 TO x1 a2 := hp2.extBut _ _ S.Ti2 hT1
    refine wpAny_bind (wpAny_seqItems (s := ⟨p2, g, d, tk2, os⟩) hU2 rfl ?_)
    refine wpAny_bind (updateSeq_IsTupOf2 (s := ⟨p2, g, d, tk2, os⟩) hU2 fun g2 hT2 hs2 => ?_)
    replace hT2 : IsTupOf2 g2 TO x1 x2 := hT2
    replace hs2 : Heap.SameBut TO p2 g2 := hs2
    refine wpAny_bind (wpAny_letGo (wpAny_pure (wpAny_pure ?_)))
    refine wpAny_bind (wpAny_seqItems (s := ⟨g2, g, d, tk2, os⟩) hT2 rfl ?_)
    refine wpAny_bind (wpAny_newTuple ?_)
    have hsz : g2.objs.size = hp.objs.size := by rw [hs2.1, hp2.1, hs1.1, hp1.1, hs0.1]
    have hzz : ZR g2 z TI TO .ellipsis f1 := (hs2.extBut _ _ S.TOz.symm (hp2.extBut _ _ S.zi2 (hs1.extBut _ _ S.TOz.symm (hp1.extBut _ _ S.zi1 hz0))))
    have hkk : ∀ c o, c ≠ z → c ≠ TO → c ≠ i1 → c ≠ i2 → hp.get? c = some o → g2.get? c = some o := fun c o cz cT c1 c2 e =>
      (hs2.extBut _ _ cT (hp2.extBut _ _ c2 (hs1.extBut _ _ cT (hp1.extBut _ _ c1 (hs0.extBut _ _ cz e)))))
    have hj1 : St1 (i + 1) g2 := (D1.over (D1.over (D1.over sn1 hs1 S.Tf1) hp2 S.sep2_1) hs2 S.Tf1)
    have hj2 : St2 (i + 1) g2 := (D2.over sn2 hs2 S.Tf2)
    have hzlt : z < g2.objs.size := Heap.lt_size hzz
    show wpAny _ _ (Builtin.SmallTypes.ownedTupleHandOut (.ref z) (.ref g2.objs.size) >>= _) _ _ ⟨g2.push { cls := .type "tuple", data := .seq #[x1, x2] }, g, d, tk2, os⟩
    refine wpAny_bind ?_
    unfold Builtin.SmallTypes.ownedTupleHandOut
    have hz₆ : ZR (g2.push { cls := .type "tuple", data := .seq #[x1, x2] }) z TI TO .ellipsis f1 := Heap.get?_push_of_some _ hzz
    refine wpAny_bind (wpAny_setField_rec hz₆ (by simp) fun h₇ hz₇ hs₇ => ?_)
    replace hz₇ : ZR h₇ z TI TO (rawInt g2.objs.size) f1 := hz₇
    refine wpAny_setField_rec hz₇ (by simp) fun h₈ hz₈ hs₈ => ?_
    replace hz₈ : ZR h₈ z TI TO (rawInt g2.objs.size) false := hz₈
    replace hs₇ : Heap.SameBut z (g2.push { cls := .type "tuple", data := .seq #[x1, x2] }) h₇ := hs₇
    replace hs₈ : Heap.SameBut z h₇ h₈ := hs₈
    have up : ∀ c o, c ≠ z → g2.get? c = some o → h₈.get? c = some o := fun c o c1 e => hs₈.extBut _ _ c1 (hs₇.extBut _ _ c1 (Heap.get?_push_of_some _ e))
    have hT₈ : IsTupOf2 h₈ g2.objs.size x1 x2 := hs₈.extBut _ _ (Nat.ne_of_gt hzlt) (hs₇.extBut _ _ (Nat.ne_of_gt hzlt) (Heap.get?_push_size _ rfl))
    have hz8 : h₈.objs.size = g2.objs.size + 1 := by rw [hs₈.1, hs₇.1, Heap.size_push]
    rw [hsz] at hz₈ hT₈ hz8
    refine wpAny_pure ⟨_, rfl, ?_⟩
    show Q (.ref g2.objs.size) ⟨h₈, g, d, tk2, os⟩
    rw [hsz]
    exact hQ x1 x2 h₈ tk2 hx1 hx2 ⟨_, _, .inr ⟨_, rfl⟩, hz₈⟩ ⟨_, _, up _ _ S.TOz hT2⟩ (D1.frame _ _ _ hj1 fun b hb o e => up b o (fun q => S.zf1 (q ▸ hb)) e) (D2.frame _ _ _ hj2 fun b hb o e => up b o (fun q => S.zf2 (q ▸ hb)) e) hT₈ hz8 fun c o cz cT c1 c2 e => up c o cz (hkk c o cz cT c1 c2 e)
  · replace hs₁ : Heap.SameBut z hp h₁ := hs₁
    simp only [Bool.false_eq_true, if_false]
    refine wpAny_bind ?_
    rw [← Array.forIn_toList]
    simp only [List.forIn_cons, List.forIn_nil]
    refine wpAny_bind (wpAny_bind (wpAny_holding ?_))
    show wpAny _ _ (Builtin.SmallTypes.nextOf (.ref i1) >>= _) _ _ ⟨h₁, g, d, tk0, os⟩
    refine wpAny_bind (D1.item i _ _ _ hlt1 (D1.over st1 hs₁ S.zf1) fun x1 p1 tk1 hx1 sn1 hp1 => wpAny_pure (wpAny_pure ?_))
    replace hp1 : Heap.SameBut i1 h₁ p1 := hp1
    refine wpAny_bind (wpAny_bind (wpAny_holding ?_))
    show wpAny _ _ (Builtin.SmallTypes.nextOf (.ref i2) >>= _) _ _ ⟨p1, g, d, tk1, os⟩
    refine wpAny_bind (D2.item i _ _ _ hlt2 (D2.over (D2.over st2 hs₁ S.zf2) hp1 S.sep1_2) fun x2 p2 tk2 hx2 sn2 hp2 => wpAny_pure (wpAny_pure (wpAny_pure ?_)))
    replace hp2 : Heap.SameBut i2 p1 p2 := hp2
    show wpAny _ _ (newTuple [x1, x2] >>= _) _ _ ⟨p2, g, d, tk2, os⟩
    refine wpAny_bind (wpAny_newTuple ?_)
    have hsz : p2.objs.size = hp.objs.size := by rw [hp2.1, hp1.1, hs₁.1]
    have up : ∀ c o, p2.get? c = some o → (p2.push { cls := .type "tuple", data := .seq #[x1, x2] }).get? c = some o := fun c o e => Heap.get?_push_of_some _ e
    have hzz : ZR p2 z TI TO f0 true := hp2.extBut _ _ S.zi2 (hp1.extBut _ _ S.zi1 hz₁)
    have hkk : ∀ c o, c ≠ z → c ≠ i1 → c ≠ i2 → hp.get? c = some o → p2.get? c = some o := fun c o cz c1 c2 e => hp2.extBut _ _ c2 (hp1.extBut _ _ c1 (hs₁.extBut _ _ cz e))
    have hT8 : IsTupOf2 (p2.push { cls := .type "tuple", data := .seq #[x1, x2] }) p2.objs.size x1 x2 := Heap.get?_push_size _ rfl
    have hz8 : (p2.push { cls := .type "tuple", data := .seq #[x1, x2] }).objs.size = p2.objs.size + 1 := Heap.size_push ..
    have j1 : St1 (i + 1) p2 := D1.over sn1 hp2 S.sep2_1
    refine wpAny_pure ⟨_, rfl, ?_⟩
    show Q (.ref p2.objs.size) ⟨p2.push { cls := .type "tuple", data := .seq #[x1, x2] }, g, d, tk2, os⟩
    rw [hsz] at hT8 hz8 ⊢
    exact hQ x1 x2 _ tk2 hx1 hx2 ⟨_, _, hf, up _ _ hzz⟩ ⟨_, _, up _ _ (hkk _ _ S.TOz S.Ti1 S.Ti2 hTO)⟩ (D1.frame _ _ _ j1 fun b hb o e => up b o e) (D2.frame _ _ _ sn2 fun b hb o e => up b o e) hT8 hz8 fun c o cz cT c1 c2 e => up c o (hkk c o cz c1 c2 e)
theorem zip_any_end {Q : Fin → Shared → Prop} (S : ZipSep2 z TI TO i1 i2 fp1 fp2) (D1 : Draws prog w A i1 fp1 n1 P1 St1) (D2 : Draws prog w A i2 fp2 n2 P2 St2)
    (hf : F0 f0) (hz : ZR s.heap z TI TO f0 f1) (hTI : IsTupOf2 s.heap TI (.ref i1) (.ref i2)) (hTO : IsTupOf2 s.heap TO a1 a2) (st1 : St1 i s.heap) (st2 : St2 i s.heap) (hle1 : i ≤ n1) (hle2 : i ≤ n2) (hend : i = n1 ∨ i = n2)
    (hE : ∀ h' tk e, (∀ c o, c ≠ z → c ≠ TO → c ≠ i1 → c ≠ i2 → s.heap.get? c = some o → h'.get? c = some o) → (∃ o, h'.get? e = some o ∧ o.cls = .type "StopIteration") → E (.ref e) { s with heap := h', toks := tk }) :
    wpAny (model prog w) A (Builtin.«zip.__next__» ⟨[.ref z], []⟩) Q E s := by
  obtain ⟨hp, g, d, tk0, os⟩ := s
  show wpAny _ _ (field (.ref z) 2 >>= _) _ _ _
  refine wpAny_bind (wpAny_field hz rfl (x := .bool false) rfl ?_)
  show wpAny _ _ (field (.ref z) 3 >>= _) _ _ _
  refine wpAny_bind (wpAny_field hz rfl (x := .ref TI) rfl ?_)
  refine wpAny_bind (wpAny_seqItems hTI rfl ?_)
  show wpAny _ _ (Builtin.SmallTypes.ownedTupleIsFree (.ref z) >>= _) _ _ _
  refine wpAny_bind (free_any hf hz ?_ fun h₁ hz₁ hs₁ => ?_)
  · simp only [if_true]
    refine wpAny_bind (wpAny_rule ?_)
    refine wpAny_bind (wpAny_field hz rfl (x := .ref TO) rfl ?_)
    refine wpAny_bind (wpAny_setField_rec hz (by simp) fun g0 hz0 hs0 => ?_)
    replace hz0 : ZR g0 z TI TO .ellipsis f1 := hz0
    replace hs0 : Heap.SameBut z hp g0 := hs0
    refine wpAny_bind ?_
    simp only [List.zipIdx_cons, List.zipIdx_nil, List.forIn_cons, List.forIn_nil]
    refine wpAny_bind (wpAny_bind (wpAny_onRaise ?_))
    show wpAny _ _ (Builtin.SmallTypes.nextOf (.ref i1) >>= _) _ _ ⟨g0, g, d, tk0, os⟩
    by_cases hlt1 : i < n1
    · refine wpAny_bind (D1.item i _ _ _ hlt1 (D1.over st1 hs0 S.zf1) fun x1 p1 tk1 hx1 sn1 hp1 => wpAny_pure ?_)
      replace hp1 : Heap.SameBut i1 g0 p1 := hp1
      have hU1 : IsTupOf2 p1 TO a1 a2 := hp1.extBut _ _ S.Ti1 (hs0.extBut _ _ S.TOz hTO)
      refine wpAny_bind (wpAny_seqItems (s := ⟨p1, g, d, tk1, os⟩) hU1 rfl ?_)
      refine wpAny_bind (updateSeq_IsTupOf2 (s := ⟨p1, g, d, tk1, os⟩) hU1 fun g1 hT1 hs1 => ?_)
      replace hT1 : IsTupOf2 g1 TO x1 a2 := hT1
      replace hs1 : Heap.SameBut TO p1 g1 := hs1
      refine wpAny_bind (wpAny_letGo (wpAny_pure ?_))
      have hi2 : i = n2 := by omega
      refine wpAny_bind (wpAny_bind (wpAny_onRaise ?_))
      show wpAny _ _ (Builtin.SmallTypes.nextOf (.ref i2) >>= _) _ _ ⟨g1, g, d, tk1, os⟩
      refine wpAny_bind (D2.done ⟨g1, g, d, tk1, os⟩ _ _ (by rw [← hi2]; exact (D2.over (D2.over (D2.over st2 hs0 S.zf2) hp1 S.sep1_2) hs1 S.Tf2)) fun q e hq he => ?_)
      replace hq : Heap.ExtBut i2 g1 q := hq
      obtain ⟨oe, hoe, hce⟩ := he
      replace hoe : q.get? e = some oe := hoe
      have hzq : ZR q z TI TO .ellipsis f1 := hq _ _ S.zi2 (hs1.extBut _ _ S.TOz.symm (hp1.extBut _ _ S.zi1 hz0))
      have hez : e ≠ z := fun x => by subst x; rw [hzq] at hoe; cases hoe; simp at hce
      refine wpAny_setField_rec (s := ⟨q, g, d, tk1, os⟩) hzq (by simp) fun q' _ hq' => ?_
      replace hq' : Heap.SameBut z q q' := hq'
      exact hE q' tk1 e (fun c o cz cT c1 c2 x => hq'.extBut _ _ cz (hq _ _ c2 (hs1.extBut _ _ cT (hp1.extBut _ _ c1 (hs0.extBut _ _ cz x))))) ⟨oe, hq'.extBut _ _ hez hoe, hce⟩
    · have hi1 : i = n1 := by omega
      refine wpAny_bind (D1.done ⟨g0, g, d, tk0, os⟩ _ _ (by rw [← hi1]; exact (D1.over st1 hs0 S.zf1)) fun q e hq he => ?_)
      replace hq : Heap.ExtBut i1 g0 q := hq
      obtain ⟨oe, hoe, hce⟩ := he
      replace hoe : q.get? e = some oe := hoe
      have hzq : ZR q z TI TO .ellipsis f1 := hq _ _ S.zi1 hz0
      have hez : e ≠ z := fun x => by subst x; rw [hzq] at hoe; cases hoe; simp at hce
      refine wpAny_setField_rec (s := ⟨q, g, d, tk0, os⟩) hzq (by simp) fun q' _ hq' => ?_
      replace hq' : Heap.SameBut z q q' := hq'
      exact hE q' tk0 e (fun c o cz cT c1 c2 x => hq'.extBut _ _ cz (hq _ _ c1 (hs0.extBut _ _ cz x))) ⟨oe, hq'.extBut _ _ hez hoe, hce⟩
  · replace hs₁ : Heap.SameBut z hp h₁ := hs₁
    simp only [Bool.false_eq_true, if_false]
    refine wpAny_bind ?_
    rw [← Array.forIn_toList]
    simp only [List.forIn_cons, List.forIn_nil]
    refine wpAny_bind (wpAny_bind (wpAny_holding ?_))
    show wpAny _ _ (Builtin.SmallTypes.nextOf (.ref i1) >>= _) _ _ ⟨h₁, g, d, tk0, os⟩
    by_cases hlt1 : i < n1
    · refine wpAny_bind (D1.item i _ _ _ hlt1 (D1.over st1 hs₁ S.zf1) fun x1 p1 tk1 hx1 sn1 hp1 => wpAny_pure (wpAny_pure ?_))
      replace hp1 : Heap.SameBut i1 h₁ p1 := hp1
      have hi2 : i = n2 := by omega
      refine wpAny_bind (wpAny_bind (wpAny_holding ?_))
      show wpAny _ _ (Builtin.SmallTypes.nextOf (.ref i2) >>= _) _ _ ⟨p1, g, d, tk1, os⟩
      refine wpAny_bind (D2.done ⟨p1, g, d, tk1, os⟩ _ _ (by rw [← hi2]; exact (D2.over (D2.over st2 hs₁ S.zf2) hp1 S.sep1_2)) fun q e hq he => ?_)
      replace hq : Heap.ExtBut i2 p1 q := hq
      exact hE q tk1 e (fun c o cz cT c1 c2 x => hq _ _ c2 (hp1.extBut _ _ c1 (hs₁.extBut _ _ cz x))) he
    · have hi1 : i = n1 := by omega
      refine wpAny_bind (D1.done ⟨h₁, g, d, tk0, os⟩ _ _ (by rw [← hi1]; exact (D1.over st1 hs₁ S.zf1)) fun q e hq he => ?_)
      replace hq : Heap.ExtBut i1 h₁ q := hq
      exact hE q tk0 e (fun c o cz cT c1 c2 x => hq _ _ c1 (hs₁.extBut _ _ cz x)) he
/-- what zip tells to enumerate -/
theorem nextOf_zip_item {Q : Value → Shared → Prop} (S : ZipSep2 z TI TO i1 i2 fp1 fp2) (D1 : Draws prog w A.in1 i1 fp1 n1 P1 St1) (D2 : Draws prog w A.in1 i2 fp2 n2 P2 St2)
    (hz : ZO s.heap z TI TO) (hTI : IsTupOf2 s.heap TI (.ref i1) (.ref i2)) (hTO : IsTupOf2 s.heap TO a1 a2) (st1 : St1 i s.heap) (st2 : St2 i s.heap) (hlt1 : i < n1) (hlt2 : i < n2)
    (hQ : ∀ x1 x2 h' tk, P1 i x1 → P2 i x2 → ZO h' z TI TO → (∃ b1 b2, IsTupOf2 h' TO b1 b2) → St1 (i + 1) h' → St2 (i + 1) h' → IsTupOf2 h' s.heap.objs.size x1 x2 → h'.objs.size = s.heap.objs.size + 1 →
      (∀ c o, c ≠ z → c ≠ TO → c ≠ i1 → c ≠ i2 → s.heap.get? c = some o → h'.get? c = some o) → Q (.ref s.heap.objs.size) { s with heap := h', toks := tk }) :
    wpAny (model prog w) A (Builtin.SmallTypes.nextOf (.ref z)) Q E s := by
  obtain ⟨f0, f1, hf, hz⟩ := hz
  have hT : s.TypeIs (.ref z) "zip" := ⟨_, hz, rfl⟩
  unfold Builtin.SmallTypes.nextOf
  exact wpAny_bind (wpAny_callSpecial?_slot (name := Str.ofString "__next__") hT F.slot_zip_next
    (wpAny_call_entry F.slot_zip_next hT F.entry_zip_next
      (zip_any_item S D1 D2 hf hz hTI hTO st1 st2 hlt1 hlt2 fun x1 x2 h' tk y1 y2 b1 b2 d1 d2 b5 b6 b7 => wpAny_pure (hQ x1 x2 h' tk y1 y2 b1 b2 d1 d2 b5 b6 b7)) (F.args_zip_next_1 _)))
theorem nextOf_zip_end {Q : Value → Shared → Prop} (S : ZipSep2 z TI TO i1 i2 fp1 fp2) (D1 : Draws prog w A.in1 i1 fp1 n1 P1 St1) (D2 : Draws prog w A.in1 i2 fp2 n2 P2 St2)
    (hz : ZO s.heap z TI TO) (hTI : IsTupOf2 s.heap TI (.ref i1) (.ref i2)) (hTO : IsTupOf2 s.heap TO a1 a2) (st1 : St1 i s.heap) (st2 : St2 i s.heap) (hle1 : i ≤ n1) (hle2 : i ≤ n2) (hend : i = n1 ∨ i = n2)
    (hE : ∀ h' tk e, (∀ c o, c ≠ z → c ≠ TO → c ≠ i1 → c ≠ i2 → s.heap.get? c = some o → h'.get? c = some o) → (∃ o, h'.get? e = some o ∧ o.cls = .type "StopIteration") → E (.ref e) { s with heap := h', toks := tk }) :
    wpAny (model prog w) A (Builtin.SmallTypes.nextOf (.ref z)) Q E s := by
  obtain ⟨f0, f1, hf, hz⟩ := hz
  have hT : s.TypeIs (.ref z) "zip" := ⟨_, hz, rfl⟩
  unfold Builtin.SmallTypes.nextOf
  exact wpAny_bind (wpAny_callSpecial?_slot (name := Str.ofString "__next__") hT F.slot_zip_next
    (wpAny_call_entry F.slot_zip_next hT F.entry_zip_next (zip_any_end S D1 D2 hf hz hTI hTO st1 st2 hle1 hle2 hend hE) (F.args_zip_next_1 _)))
/-- the turn of enumerate over zip -/
theorem enumZip_item {e : Addr} {c : Int} {old : Value} {Q : Option Value → Shared → Prop} (S : ZipSep2 z TI TO i1 i2 fp1 fp2) (D1 : Draws prog w A.in1.in1 i1 fp1 n1 P1 St1) (D2 : Draws prog w A.in1.in1 i2 fp2 n2 P2 St2)
    (he : IsEnum s.heap e z c old) (ez : e ≠ z) (eT : e ≠ TO) (e1 : e ≠ i1) (e2 : e ≠ i2) (ef1 : e ∉ fp1) (ef2 : e ∉ fp2)
    (hz : ZO s.heap z TI TO) (hTI : IsTupOf2 s.heap TI (.ref i1) (.ref i2)) (hTO : IsTupOf2 s.heap TO a1 a2) (st1 : St1 i s.heap) (st2 : St2 i s.heap) (hlt1 : i < n1) (hlt2 : i < n2)
    (hQ : ∀ x1 x2 h1 h' tk, P1 i x1 → P2 i x2 → IsTupOf2 h1 s.heap.objs.size x1 x2 → h1.objs.size = s.heap.objs.size + 1 → (∀ b o, b ≠ z → b ≠ TO → b ≠ i1 → b ≠ i2 → s.heap.get? b = some o → h1.get? b = some o) →
      IsEnumOut h' e z (c + 1) (.ref s.heap.objs.size) (s.heap.objs.size + 1) → ZO h' z TI TO → (∃ b1 b2, IsTupOf2 h' TO b1 b2) → St1 (i + 1) h' → St2 (i + 1) h' →
      h'.get? (s.heap.objs.size + 1) = some { cls := .type "tuple", data := .seq #[.int c tk, .ref s.heap.objs.size] } → (∀ b o, b ≠ e → h1.get? b = some o → h'.get? b = some o) → Q (some (.ref (s.heap.objs.size + 1))) { s with heap := h', toks := tk + 1 }) :
    wpAny (model prog w) A (pyNext (.ref e)) Q E s := by
  have hT : s.TypeIs (.ref e) "enumerate" := ⟨_, he, rfl⟩
  unfold pyNext
  refine wpAny_bind (wpAny_attempt (wpAny_callSpecial?_slot (name := Str.ofString "__next__") hT F.slot_enumerate_next
    (wpAny_call_entry F.slot_enumerate_next hT F.entry_enumerate_next ?_ (F.args_enumerate_next_1 _))))
  obtain ⟨hp, g, d, tk₀, os⟩ := s
  show wpAny _ _ (field (.ref e) 2 >>= _) _ _ _
  refine wpAny_bind (wpAny_field he rfl (x := .ref z) rfl ?_)
  refine wpAny_bind (nextOf_zip_item S D1 D2 hz hTI hTO st1 st2 hlt1 hlt2 fun x1 x2 h₁ tk hx1 hx2 zo to s1 s2 tT sz kp => ?_)
  replace sz : h₁.objs.size = hp.objs.size + 1 := sz
  replace kp : ∀ b o, b ≠ z → b ≠ TO → b ≠ i1 → b ≠ i2 → hp.get? b = some o → h₁.get? b = some o := kp
  replace tT : IsTupOf2 h₁ hp.objs.size x1 x2 := tT
  have he₁ : IsEnum h₁ e z c old := kp e _ ez eT e1 e2 he
  show wpAny _ _ (field (.ref e) 3 >>= _) _ _ ⟨h₁, g, d, tk, os⟩
  refine wpAny_bind (wpAny_field he₁ rfl (x := rawInt c) rfl ?_)
  show wpAny _ _ (field (.ref e) 4 >>= _) _ _ ⟨h₁, g, d, tk, os⟩
  refine wpAny_bind (wpAny_field he₁ rfl (x := .none) rfl ?_)
  show wpAny _ _ (mkInt c >>= _) _ _ ⟨h₁, g, d, tk, os⟩
  refine wpAny_bind (wpAny_mkInt ?_)
  show wpAny _ _ (setField (.ref e) 3 (rawInt (c + 1)) >>= _) _ _ ⟨h₁, g, d, tk + 1, os⟩
  refine wpAny_bind (wpAny_setField_rec he₁ (by simp) fun h₂ he₂ hs₂ => ?_)
  replace hs₂ : Heap.SameBut e h₁ h₂ := hs₂
  replace he₂ : IsEnum h₂ e z (c + 1) old := he₂
  show wpAny _ _ (setField (.ref e) 4 .none >>= _) _ _ ⟨h₂, g, d, tk + 1, os⟩
  refine wpAny_bind (wpAny_setField_rec he₂ (by simp) fun h₃ he₃ hs₃ => ?_)
  replace hs₃ : Heap.SameBut e h₂ h₃ := hs₃
  replace he₃ : IsEnum h₃ e z (c + 1) old := he₃
  show wpAny _ _ (newTuple [.int c tk, .ref hp.objs.size] >>= _) _ _ ⟨h₃, g, d, tk + 1, os⟩
  refine wpAny_bind (wpAny_newTuple ?_)
  have he₄ : IsEnum (h₃.push { cls := .type "tuple", data := .seq #[.int c tk, .ref hp.objs.size] }) e z (c + 1) old := Heap.get?_push_of_some _ he₃
  generalize hh₄ : h₃.push { cls := .type "tuple", data := .seq #[.int c tk, .ref hp.objs.size] } = h₄ at he₄
  have hsz : h₃.objs.size = hp.objs.size + 1 := by rw [hs₃.1, hs₂.1, sz]
  have hel : e < hp.objs.size := Heap.lt_size he
  have ht₄ : h₄.get? (hp.objs.size + 1) = some { cls := .type "tuple", data := .seq #[.int c tk, .ref hp.objs.size] } := by rw [← hh₄, ← hsz]; exact Heap.get?_push_size _ rfl
  have hk₄ : ∀ b o, b ≠ e → h₁.get? b = some o → h₄.get? b = some o := fun b o hbe hb => by
    rw [← hh₄]; exact Heap.get?_push_of_some _ (hs₃.extBut b o hbe (hs₂.extBut b o hbe hb))
  show wpAny _ _ (Builtin.SmallTypes.ownedTupleIsFree (.ref e) >>= _) _ _ ⟨h₄, g, d, tk + 1, os⟩
  rw [hsz]
  clear hh₄ he₃ hs₃ he₂ hs₂ he₁ hsz h₃ h₂
  refine wpAny_bind ?_
  unfold Builtin.SmallTypes.ownedTupleIsFree
  refine wpAny_bind (wpAny_field he₄ rfl (x := .none) rfl (wpAny_pure ?_))
  simp only [if_true]
  refine wpAny_bind (wpAny_rule ?_)
  refine wpAny_bind (wpAny_field he₄ rfl (x := old) rfl ?_)
  refine wpAny_bind (wpAny_setField_rec he₄ (by simp) fun h₅ he₅ hs₅ => ?_)
  replace hs₅ : Heap.SameBut e h₄ h₅ := hs₅
  replace he₅ : IsEnum h₅ e z (c + 1) (.ref hp.objs.size) := he₅
  show wpAny _ _ (Builtin.SmallTypes.ownedTupleHandOut (.ref e) (.ref (hp.objs.size + 1)) >>= _) _ _ ⟨h₅, g, d, tk + 1, os⟩
  refine wpAny_bind ?_
  unfold Builtin.SmallTypes.ownedTupleHandOut
  refine wpAny_bind (wpAny_setField_rec he₅ (by simp) fun h₆ he₆ hs₆ => ?_)
  replace hs₆ : Heap.SameBut e h₅ h₆ := hs₆
  replace he₆ : IsEnumOut h₆ e z (c + 1) (.ref hp.objs.size) (hp.objs.size + 1) := he₆
  refine wpAny_setField_rec he₆ (by simp) fun h₇ he₇ hs₇ => ?_
  replace hs₇ : Heap.SameBut e h₆ h₇ := hs₇
  replace he₇ : IsEnumOut h₇ e z (c + 1) (.ref hp.objs.size) (hp.objs.size + 1) := he₇
  have up : ∀ b o, b ≠ e → h₁.get? b = some o → h₇.get? b = some o := fun b o hb q => hs₇.extBut b o hb (hs₆.extBut b o hb (hs₅.extBut b o hb (hk₄ b o hb q)))
  have hne : (hp.objs.size + 1 : Nat) ≠ e := fun q => by
    rw [← q] at hel
    exact absurd hel (Nat.not_lt.mpr (Nat.le_succ _))
  refine wpAny_bind (wpAny_letGo (wpAny_pure ⟨_, rfl, wpAny_pure (hQ x1 x2 h₁ h₇ tk hx1 hx2 tT sz kp he₇ ?_ ?_ ?_ ?_ ?_ up)⟩))
  · obtain ⟨f0, f1, hf, zr⟩ := zo
    exact ⟨f0, f1, hf, up _ _ (Ne.symm ez) zr⟩
  · obtain ⟨b1, b2, q⟩ := to
    exact ⟨b1, b2, up _ _ (Ne.symm eT) q⟩
  · exact D1.frame _ _ _ s1 fun b hb o q => up b o (fun y => ef1 (y ▸ hb)) q
  · exact D2.frame _ _ _ s2 fun b hb o q => up b o (fun y => ef2 (y ▸ hb)) q
  · exact hs₇.extBut _ _ hne (hs₆.extBut _ _ hne (hs₅.extBut _ _ hne ht₄))
theorem enumZip_end {e : Addr} {c : Int} {old : Value} {Q : Option Value → Shared → Prop} (S : ZipSep2 z TI TO i1 i2 fp1 fp2) (D1 : Draws prog w A.in1.in1 i1 fp1 n1 P1 St1) (D2 : Draws prog w A.in1.in1 i2 fp2 n2 P2 St2)
    (he : IsEnum s.heap e z c old) (hz : ZO s.heap z TI TO) (hTI : IsTupOf2 s.heap TI (.ref i1) (.ref i2)) (hTO : IsTupOf2 s.heap TO a1 a2) (st1 : St1 i s.heap) (st2 : St2 i s.heap) (hle1 : i ≤ n1) (hle2 : i ≤ n2) (hend : i = n1 ∨ i = n2)
    (hQ : ∀ h' tk, (∀ b o, b ≠ z → b ≠ TO → b ≠ i1 → b ≠ i2 → s.heap.get? b = some o → h'.get? b = some o) → Q none { s with heap := h', toks := tk }) :
    wpAny (model prog w) A (pyNext (.ref e)) Q E s := by
  have hT : s.TypeIs (.ref e) "enumerate" := ⟨_, he, rfl⟩
  unfold pyNext
  refine wpAny_bind (wpAny_attempt (wpAny_callSpecial?_slot (name := Str.ofString "__next__") hT F.slot_enumerate_next
    (wpAny_call_entry F.slot_enumerate_next hT F.entry_enumerate_next ?_ (F.args_enumerate_next_1 _))))
  show wpAny _ _ (field (.ref e) 2 >>= _) _ _ _
  refine wpAny_bind (wpAny_field he rfl (x := .ref z) rfl ?_)
  refine wpAny_bind (nextOf_zip_end S D1 D2 hz hTI hTO st1 st2 hle1 hle2 hend fun h' tk x kp hx' => ?_)
  obtain ⟨o, ho, hc⟩ := hx'
  refine wpAny_bind (wpAny_isInstance (T := "StopIteration") (b := true) ⟨o, ho, hc⟩ isSubtype_stop ?_)
  exact wpAny_pure (hQ _ _ kp)
end
theorem enum_newZ (z TI TO : Addr) :
    Meets (Builtin.«enumerate.__new__» ⟨[.type "enumerate", .ref z], []⟩) fun _ R s => IsZip s.heap z TI TO .none ∧ R (.ok (.ret (.ref s.heap.objs.size))) { s with heap := s.heap.push (enumAt z) } :=
  .of_wp fun prog w A R s h => by
    obtain ⟨hp, gs, dd, tk, os⟩ := s
    obtain ⟨hi, h⟩ := h
    have isEnumCls := sub_enumerate
    have it1 : ∀ {A' : Around} {E : Value → Shared → Prop} {Q : Value → Shared → Prop}, Q (.ref z) ⟨hp, gs, dd, tk, os⟩ → wpAny (model prog w) A' (pyIter (.ref z)) Q E ⟨hp, gs, dd, tk, os⟩ := fun q => wpAny_pyIter_zip hi q
    wp_walk using it1
    refine wpAny_stack_any fun st => wpAny_pure ?_
    split
    · rename_i c _ _ _ _ _
      cases (c == Value.type "enumerate") <;> (wp_walk using it1; exact ⟨_, rfl, h⟩)
    · wp_walk using it1
      exact ⟨_, rfl, h⟩
section
variable {prog : Program} {w : World} {A : Around} {E : Value → Shared → Prop} {s : Shared}
theorem enum_callZ {z TI TO : Addr} {Q : Value → Shared → Prop} (hz : IsZip s.heap z TI TO .none)
    (h : ∀ h', IsEnum h' s.heap.objs.size z 0 .none → (∀ c u, s.heap.get? c = some u → h'.get? c = some u) → Q (.ref s.heap.objs.size) { s with heap := h' }) :
    wpAny (model prog w) A (call (.type "enumerate") [.ref z]) Q E s := by
  refine callType_new F.called_enumerate (by decide) (F.typeCall_enumerate_1 _) (F.newCall_enumerate_1 _) (fun obj => F.args_object_init_2 obj _) F.entry_enumerate_new (enum_newZ z TI TO) ⟨hz, ?_⟩
  have en : IsEnum (s.heap.push (enumAt z)) s.heap.objs.size z 0 .none := Heap.get?_push_size s.heap (o := enumAt z) rfl
  show _ ∧ _
  exact ⟨⟨_, en, rfl⟩, h _ en fun c u e => Heap.get?_push_of_some _ e⟩
end
/-- the tuples at a and b, their items in new pairs, each in a new pair with its number -/
def IteZ (K : PySem.W.Frag) (a b : Addr) : L2.It where
  go i H := ∃ (xs ys : List V) (x y : V), SqT K H a xs ∧ SqT K H b ys ∧ xs[i]? = some x ∧ ys[i]? = some y
  yld i H v H' := ∃ T0 T1 x y, v = .ref T1 ∧ H T0 = none ∧ (upd H T0 (.tup [x, y])) T1 = none ∧ H' = upd (upd H T0 (.tup [x, y])) T1 (.tup [.int (i : Nat), .ref T0]) ∧ (∀ xs, SqT K H a xs → xs[i]? = some x) ∧ ∀ ys, SqT K H b ys → ys[i]? = some y
  stop i H := ∃ xs ys : List V, SqT K H a xs ∧ SqT K H b ys ∧ i ≤ xs.length ∧ i ≤ ys.length ∧ (i = xs.length ∨ i = ys.length)
/-- enumerate's own cell lies apart -/
structure Ap6 (e z TI TO i1 i2 a b : Addr) : Prop where
  D : ZipApart z TI TO i1 i2 a b
  ez : e ≠ z
  eTI : e ≠ TI
  eTO : e ≠ TO
  e1 : e ≠ i1
  e2 : e ≠ i2
  ea : e ≠ a
  eb : e ≠ b
theorem Ap6.sep {e z TI TO i1 i2 a b : Addr} (p : Ap6 e z TI TO i1 i2 a b) : ZipSep2 z TI TO i1 i2 [i1, a] [i2, b] := by
  have D := p.D
  refine ⟨D.TIz, D.TOz, D.TITO, D.TIi1, by simp, ?_, ?_, D.TIi2, by simp, ?_, ?_, ?_, ?_⟩ <;> intro q
  · rcases List.mem_cons.mp q with q | q
    · exact D.i1z q.symm
    · exact D.l1z (List.mem_singleton.mp q).symm
  · rcases List.mem_cons.mp q with q | q
    · exact D.TOi1 q
    · exact D.l1TO (List.mem_singleton.mp q).symm
  · rcases List.mem_cons.mp q with q | q
    · exact D.i2z q.symm
    · exact D.l2z (List.mem_singleton.mp q).symm
  · rcases List.mem_cons.mp q with q | q
    · exact D.TOi2 q
    · exact D.l2TO (List.mem_singleton.mp q).symm
  · rcases List.mem_cons.mp q with q | q
    · exact D.i12 q
    · exact D.l2i1 (List.mem_singleton.mp q).symm
  · rcases List.mem_cons.mp q with q | q
    · exact D.i12 q.symm
    · exact D.l1i2 (List.mem_singleton.mp q).symm
theorem turn_enumZ {P : Program} {w : World} {K : PySem.W.Frag} {elts : List Expr} {kk : Nat} {tp : Pos} {e z TI TO i1 i2 a b : Addr} (p : Ap6 e z TI TO i1 i2 a b) :
    Turn P w K (.Tuple elts kk tp) (IteZ K a b) [e, z, TI, TO, i1, i2] e (fun i h => (∃ old, IsEnum h e z ((i : Nat) : Int) old) ∧ ZO h z TI TO ∧ IsPair h TI (.ref i1) (.ref i2) ∧ (∃ x y, IsPair h TO x y) ∧ h.IsTupleIter i1 a i ∧ h.IsTupleIter i2 b i) where
  mem := List.mem_cons_self ..
  obj := fun i h st c hc => by
    obtain ⟨⟨old, he⟩, ⟨f0, f1, _, hz⟩, hTI, ⟨x, y, hTO⟩, ⟨o1, e1, _, d1⟩, ⟨o2, e2, _, d2⟩⟩ := st
    have e' : c = e ∨ c = z ∨ c = TI ∨ c = TO ∨ c = i1 ∨ c = i2 := by simpa using hc
    rcases e' with q | q | q | q | q | q
    · rw [q]; exact ⟨_, he, fun v q => nomatch q⟩
    · rw [q]; exact ⟨_, hz, fun v q => nomatch q⟩
    · rw [q]; exact ⟨_, hTI, fun v q => nomatch q⟩
    · rw [q]; exact ⟨_, hTO, fun v q => nomatch q⟩
    · rw [q]; exact ⟨o1, e1, fun v q => by rw [d1] at q; cases q⟩
    · rw [q]; exact ⟨o2, e2, fun v q => by rw [d2] at q; cases q⟩
  keep := fun i h h' st k => by
    obtain ⟨⟨old, he⟩, ⟨f0, f1, hf, hz⟩, hTI, ⟨x, y, hTO⟩, h1, h2⟩ := st
    exact ⟨⟨old, k e (by simp) _ he⟩, ⟨f0, f1, hf, k z (by simp) _ hz⟩, k TI (by simp) _ hTI, ⟨x, y, k TO (by simp) _ hTO⟩, h1.at fun o q => k i1 (by simp) o q, h2.at fun o q => k i2 (by simp) o q⟩
  item := by
    intro X hP hw hK hc i pins s σ H E I hf st hg
    subst hP hw hK
    obtain ⟨⟨old, he⟩, hz, hTI, ⟨x0, y0, hTO⟩, h1, h2⟩ := st
    obtain ⟨xs, ys, x, y, hqx, hqy, hx, hy⟩ := hg
    obtain ⟨its, rv, p1, _⟩ := I.tuple hqx
    obtain ⟨its2, rv2, p2, _⟩ := I.tuple hqy
    have p1 : s.heap.IsTuple a its.toArray := p1
    have p2 : s.heap.IsTuple b its2.toArray := p2
    obtain ⟨u, hu, ru⟩ := rv.get hx
    obtain ⟨u2, hu2, ru2⟩ := rv2.get hy
    have hu' : its.toArray[i]? = some u := by simpa using hu
    have hu2' : its2.toArray[i]? = some u2 := by simpa using hu2
    have hlt1 : i < its.toArray.size := (Array.getElem?_eq_some_iff.mp hu').1
    have hlt2 : i < its2.toArray.size := (Array.getElem?_eq_some_iff.mp hu2').1
    have el : e < s.heap.objs.size := Heap.lt_size he
    have S := p.sep
    refine enumZip_item S (Draws.tuple (A := X.A.in1.in1) (I.ok.hd hc) i1 a p.D.l1i1 its.toArray) (Draws.tuple (A := X.A.in1.in1) (I.ok.hd hc) i2 b p.D.l2i2 its2.toArray) he p.ez p.eTO p.e1 p.e2
      (fun q => by
        rcases List.mem_cons.mp q with q | q
        · exact p.e1 q
        · exact p.ea (List.mem_singleton.mp q))
      (fun q => by
        rcases List.mem_cons.mp q with q | q
        · exact p.e2 q
        · exact p.eb (List.mem_singleton.mp q))
      hz hTI hTO ⟨h1, p1⟩ ⟨h2, p2⟩ hlt1 hlt2 fun v1 v2 g1 g2 tk hv1 hv2 t0 sz1 k1 eo zo to s1 s2 t1 k2 => ?_
    have hv1 : its.toArray[i]? = some v1 := hv1
    have hv2 : its2.toArray[i]? = some v2 := hv2
    rw [hu'] at hv1
    rw [hu2'] at hv2
    cases hv1
    cases hv2
    refine ⟨_, rfl, wpAny_letOwnedTupleGo_enum (s := { s with heap := g2, toks := tk + 1 }) eo fun g3 he3 sb => ?_⟩
    have ne0 : s.heap.objs.size ≠ e := Nat.ne_of_gt el
    have ne1 : (s.heap.objs.size + 1 : Nat) ≠ e := fun q => by
      rw [← q] at el
      exact absurd el (Nat.not_lt.mpr (Nat.le_succ _))
    have ok1 : ObjOk X.prog X.w (upd H s.heap.objs.size (.tup [x, y])) g1 s.heap.objs.size (.tup [x, y]) := ⟨by show 2 ≤ sizeLine; decide, [u, u2], .cons ru (.cons ru2 .nil), ⟨_, t0, rfl, _, rfl⟩⟩
    have I1 : Inv X pins σ (upd H s.heap.objs.size (.tup [x, y])) { s with heap := g1, toks := tk } := I.turnedNew (t' := tk) (ch := [z, TO, i1, i2])
      (fun c o hb q => k1 c o (fun z => hb (by simp [z])) (fun z => hb (by simp [z])) (fun z => hb (by simp [z])) (fun z => hb (by simp [z])) q)
      (fun c hcm => hf c (by
        have e' : c = z ∨ c = TO ∨ c = i1 ∨ c = i2 := by simpa using hcm
        rcases e' with q | q | q | q <;> simp [q])) (Nat.le_refl _) ok1
    have hfe := hf e (by simp)
    have fe : FpOk X pins (upd H s.heap.objs.size (.tup [x, y])) e := ⟨by rw [upd_ne (Nat.ne_of_lt el)]; exact hfe.1, hfe.2⟩
    have t1' : g3.get? (s.heap.objs.size + 1) = some { cls := .type "tuple", data := .seq #[.int i tk, .ref s.heap.objs.size] } := (sb.2 _ ne1).trans t1
    have ok2 : ObjOk X.prog X.w (upd (upd H s.heap.objs.size (.tup [x, y])) (s.heap.objs.size + 1) (.tup [.int (i : Nat), .ref s.heap.objs.size])) g3 (s.heap.objs.size + 1) (.tup [.int (i : Nat), .ref s.heap.objs.size]) :=
      ⟨by show 2 ≤ sizeLine; decide, [.int i tk, .ref s.heap.objs.size], .cons ⟨_, rfl⟩ (.cons rfl .nil), ⟨_, t1', rfl, _, rfl⟩⟩
    have I2 : Inv X pins σ (upd (upd H s.heap.objs.size (.tup [x, y])) (s.heap.objs.size + 1) (.tup [.int (i : Nat), .ref s.heap.objs.size])) { s with heap := g3, toks := tk + 1 } := I1.turnedNew (t' := tk + 1) (ch := [e])
      (fun c o hb q => (sb.2 c fun z => hb (by simp [z])).trans (k2 c o (fun z => hb (by simp [z])) q))
      (fun c hcm => by rw [List.mem_singleton.mp hcm]; exact fe) (Nat.le_of_eq sz1) ok2
    refine ⟨.ref (s.heap.objs.size + 1), _, I2, rfl, ⟨_, _, x, y, rfl, I.hok.fresh (Nat.le_refl _), I1.hok.fresh (Nat.le_of_eq sz1), rfl, fun l hl => by rw [I.tuple_inj hl hqx]; exact hx, fun l hl => by rw [I.tuple_inj hl hqy]; exact hy⟩, ⟨⟨.ref s.heap.objs.size, ?_⟩, ?_, ?_, ?_, ?_, ?_⟩, fun c hcm => ?_⟩
    · have e1 : ((i + 1 : Nat) : Int) = (i : Int) + 1 := by omega
      rw [e1]
      exact he3
    · obtain ⟨f0, f1, q1, q2⟩ := zo
      exact ⟨f0, f1, q1, (sb.2 _ (Ne.symm p.ez)).trans q2⟩
    · exact (sb.2 _ (Ne.symm p.eTI)).trans (k2 _ _ (Ne.symm p.eTI) (k1 _ _ p.D.TIz p.D.TITO p.D.TIi1 p.D.TIi2 hTI))
    · obtain ⟨b1, b2, q⟩ := to
      exact ⟨b1, b2, (sb.2 _ (Ne.symm p.eTO)).trans q⟩
    · exact s1.1.at fun o q => (sb.2 _ (Ne.symm p.e1)).trans q
    · exact s2.1.at fun o q => (sb.2 _ (Ne.symm p.e2)).trans q
    · have hlt : c < s.heap.objs.size := by
        have e' : c = e ∨ c = z ∨ c = TI ∨ c = TO ∨ c = i1 ∨ c = i2 := by simpa using hcm
        rcases e' with q | q | q | q | q | q
        · rw [q]; exact el
        · rw [q]; obtain ⟨_, _, _, q2⟩ := hz; exact Heap.lt_size q2
        · rw [q]; exact Heap.lt_size hTI
        · rw [q]; exact Heap.lt_size hTO
        · rw [q]; obtain ⟨_, e1, _⟩ := h1; exact Heap.lt_size e1
        · rw [q]; obtain ⟨_, e2, _⟩ := h2; exact Heap.lt_size e2
      rw [upd_ne (Nat.ne_of_lt (Nat.lt_succ_of_lt hlt)), upd_ne (Nat.ne_of_lt hlt)]
      exact (hf c hcm).1
  done := by
    intro X hP hw hK hc i pins s σ H E I hf st hg
    subst hP hw hK
    obtain ⟨⟨old, he⟩, hz, hTI, ⟨x0, y0, hTO⟩, h1, h2⟩ := st
    obtain ⟨xs, ys, hqx, hqy, hl1, hl2, hend⟩ := hg
    obtain ⟨its, rv, p1, _⟩ := I.tuple hqx
    obtain ⟨its2, rv2, p2, _⟩ := I.tuple hqy
    have p1 : s.heap.IsTuple a its.toArray := p1
    have p2 : s.heap.IsTuple b its2.toArray := p2
    have l1 := rv.length
    have l2 := rv2.length
    have n1 : its.toArray.size = its.length := List.size_toArray ..
    have n2 : its2.toArray.size = its2.length := List.size_toArray ..
    exact enumZip_end p.sep (Draws.tuple (A := X.A.in1.in1) (I.ok.hd hc) i1 a p.D.l1i1 its.toArray) (Draws.tuple (A := X.A.in1.in1) (I.ok.hd hc) i2 b p.D.l2i2 its2.toArray) he hz hTI hTO ⟨h1, p1⟩ ⟨h2, p2⟩ (by omega) (by omega) (by omega) fun h' tk kp =>
      ⟨rfl, I.turnedL (t' := tk) (ch := [z, TO, i1, i2]) (fun c o hb q => kp c o (fun z => hb (by simp [z])) (fun z => hb (by simp [z])) (fun z => hb (by simp [z])) (fun z => hb (by simp [z])) q) fun c hcm => hf c (by
        have e' : c = z ∨ c = TO ∨ c = i1 ∨ c = i2 := by simpa using hcm
        rcases e' with q | q | q | q <;> simp [q])⟩
  self := fun A i s Q E ⟨⟨_, he⟩, _⟩ h => wpAny_pyIter_enum he h
section
variable {X : Cx} {σ : St} {H : Hp} {R : L2.It → Hp → Prop}
theorem neAd {n k j : Nat} (h : k ≠ j) : ((n + k : Nat) : Addr) ≠ (n + j : Nat) := fun e => h (Nat.add_left_cancel (show (n + k : Nat) = n + j from e))
theorem neLt {n k a : Nat} (h : a < n) : ((n + k : Nat) : Addr) ≠ (a : Nat) := fun e => by
  have e : (n + k : Nat) = a := e
  omega
theorem w_enumZ {x y : Expr} {p pos p2 pos2 tp : Pos} {elts : List Expr} {kk : Nat} (hg : Gl X "enumerate") (hm : X.mg "enumerate" = none) (hg2 : Gl X "zip") (hm2 : X.mg "zip" = none) (hs : starB x = false) (hs' : starB y = false)
    (h : tW X x σ H fun v H1 => tW X y σ H1 fun u H2 => ∃ a b xs ys, v = .ref a ∧ u = .ref b ∧ SqT X.K H2 a xs ∧ SqT X.K H2 b ys ∧ R (IteZ X.K a b) H2) :
    tWI X (.Tuple elts kk tp) (.Call (.Name "enumerate" p) [.Call (.Name "zip" p2) [x, y] [] pos2] [] pos) σ H R := by
  have two : starEach [x, y] X.env = (false, eval x X.env) :: starEach [y] X.env := by
    cases x <;> first
      | rfl
      | cases hs
  have one : starEach [y] X.env = [(false, eval y X.env)] := by
    cases y <;> first
      | rfl
      | cases hs'
  intro pins s I
  have hA : tWA X [x, y] σ H fun vs H1 => ∃ a b xs ys, vs = [.ref a, .ref b] ∧ SqT X.K H1 a xs ∧ SqT X.K H1 b ys ∧ R (IteZ X.K a b) H1 := w_cons hs (tW.mono h fun v H1 q => w_cons hs' (tW.mono q fun u H2 ⟨a, b, xs, ys, e1, e2, q⟩ => w_nil ⟨a, b, xs, ys, by rw [e1, e2], q⟩))
  refine PyProof.Rows.Call_ (ld_blt I hg hm PyProof.Rows.boot_enumerate (PyProof.Rows.callWith_type1 (Calls.spliced_cons ?_) rfl rfl))
  refine PyProof.Rows.Call_ (ld_blt I hg2 hm2 PyProof.Rows.boot_zip (PyProof.Rows.callWith_type1 (thn (hA pos2 pins s I) fun us s1 ⟨vs, H1, I1, r1, a, b, xs, ys, ev, hqx, hqy, q⟩ => ?_) two (by rw [one]; rfl)))
  subst ev
  cases r1 with
  | cons r rr =>
    cases rr with
    | cons r' rr =>
      cases rr
      cases r
      cases r'
      obtain ⟨its, rv, p1, _⟩ := I1.tuple hqx
      obtain ⟨its2, rv2, p2, _⟩ := I1.tuple hqy
      obtain ⟨o1, ho1, _⟩ := id p1
      obtain ⟨o2, ho2, _⟩ := id p2
      refine RZ.call_zipT (show s1.heap.IsTuple a its.toArray from p1) (show s1.heap.IsTuple b its2.toArray from p2) fun h' hz hTI hTO h1 h2 hsz hk => ?_
      refine Calls.spliced_nil ?_
      refine enum_callZ (s := { s1 with heap := h' }) hz fun h2' en kp => wpAny_pyIter_enum en ?_
      have hsz : h'.objs.size = s1.heap.objs.size + 5 := hsz
      have en : IsEnum h2' h'.objs.size (s1.heap.objs.size + 4) 0 .none := en
      show PIE X pins σ _ R (.ref h'.objs.size) _
      rw [hsz] at en ⊢
      have al := Heap.lt_size ho1
      have bl := Heap.lt_size ho2
      have ap : Ap6 (s1.heap.objs.size + 5) (s1.heap.objs.size + 4) (s1.heap.objs.size + 2) (s1.heap.objs.size + 3) s1.heap.objs.size (s1.heap.objs.size + 1) a b :=
        ⟨PySem.W.ktu_apart s1.heap.objs.size a b al bl, neAd (by decide), neAd (by decide), neAd (by decide), neAd (j := 0) (by decide), neAd (by decide), neLt al, neLt bl⟩
      have I2 : Inv X pins σ H1 { s1 with heap := h2' } := I1.kept (t' := s1.toks) fun c o e => kp c o (hk c o e)
      refine ⟨_, _, _, _, H1, rfl, I2, turn_enumZ ap, ⟨⟨.none, en⟩, ⟨_, _, .inl rfl, kp _ _ hz⟩, kp _ _ hTI, ⟨_, _, kp _ _ hTO⟩, h1.at fun o e => kp _ _ e, h2.at fun o e => kp _ _ e⟩, fun c hcm => ?_, q⟩
      have hle : s1.heap.objs.size ≤ c := by
        have e' : c = s1.heap.objs.size + 5 ∨ c = s1.heap.objs.size + 4 ∨ c = s1.heap.objs.size + 2 ∨ c = s1.heap.objs.size + 3 ∨ c = s1.heap.objs.size ∨ c = s1.heap.objs.size + 1 := by simpa using hcm
        rcases e' with z | z | z | z | z | z <;> rw [z]
        · exact Nat.le_add_right _ _
        · exact Nat.le_add_right _ _
        · exact Nat.le_add_right _ _
        · exact Nat.le_add_right _ _
        · exact Nat.le_refl _
        · exact Nat.le_add_right _ _
      exact I1.fpOk hle (I1.hok.fresh hle)
end
theorem zip_min : ∀ (xs ys : List W), (zipL xs ys).length ≤ xs.length ∧ (zipL xs ys).length ≤ ys.length ∧ ((zipL xs ys).length = xs.length ∨ (zipL xs ys).length = ys.length)
  | [], _ => ⟨Nat.le_refl _, Nat.zero_le _, .inl rfl⟩
  | _ :: _, [] => ⟨Nat.zero_le _, Nat.le_refl _, .inr rfl⟩
  | x :: xs, y :: ys => by
    obtain ⟨h1, h2, h3⟩ := zip_min xs ys
    refine ⟨Nat.succ_le_succ h1, Nat.succ_le_succ h2, ?_⟩
    rcases h3 with h | h
    · exact .inl (congrArg (· + 1) h)
    · exact .inr (congrArg (· + 1) h)
theorem wk_enumZ {K : PySem.W.Frag} {G : Gx} {g : Gh} {a c : Addr} {vs us : List V} {ws xs : List W} (h : SqT K g.F a vs) (r : RVs K G g ws vs) (h2 : SqT K g.F c us) (r2 : RVs K G g xs us) : Wk K G g (IteZ K a c) (enumL 0 (zipL ws xs)) where
  go := fun i w e f g' b sl σ H hK hG l R => by
    obtain ⟨x', ex, e3⟩ := enum_get e
    rw [Nat.zero_add] at e3
    subst e3
    obtain ⟨x, y, e0, e0', e3⟩ := zip_get ex
    subst e3
    obtain ⟨v, e1, rv⟩ := r.get e0
    obtain ⟨u, e1', rv'⟩ := r2.get e0'
    have hH : SqT K H a vs := SqT.le R.sub (SqT.le l.1 h)
    have hH' : SqT K H c us := SqT.le R.sub (SqT.le l.1 h2)
    refine ⟨⟨vs, us, v, u, hH, hH', e1, e1'⟩, fun x H' ⟨T0, T1, p, q, e2, hT0, hT1, e4, y, z⟩ => ?_⟩
    have y := y vs hH
    have z := z us hH'
    rw [e1] at y
    rw [e1'] at z
    cases y
    cases z
    subst e2 e4
    obtain ⟨g1, l1, R1, v1⟩ := wk_pairs (g'' := g') hK hG R hT0 (rv.le l) (rv'.le l)
    obtain ⟨g2, l2, R2, v2⟩ := wk_pairs (g'' := g1) hK hG R1 hT1 (.int _) v1
    exact ⟨g2, l1.trans l2, R2, v2⟩
  stop := fun f g' b sl σ H hK hG l R => ⟨vs, us, SqT.le R.sub (SqT.le l.1 h), SqT.le R.sub (SqT.le l.1 h2), by
    rw [enum_len, ← r.len, ← r2.len]
    exact zip_min ws xs⟩
end Ev
end
end
section
set_option Elab.async false
set_option linter.all false
set_option maxRecDepth 100000
set_option maxHeartbeats 2000000
/-! EvLc: iterables, comprehensions. -/
noncomputable section
namespace Ev
open PySem L2
set_option autoImplicit false
variable {XE : XP}
section
variable {tb : Tb} {N : List Str} {cl : Cl} {io : Nat → List Bool} {cn : Nat → W} {f : Fm}
variable {X : Cx} {sc : Scope} {e : Expr} {sl : Sl} {σ : St} {H : Hp} {g : Gh} {b : Nat} {Q : VK}
structure SI (tb : Tb) (N : List Str) (cl : Cl) (io : Nat → List Bool) (cn : Nat → W) (f : Fm) (x : It) : Prop where
  run : ∀ {XE : XP} {X : Cx} {sc : Scope} {tg e : Expr}, Xok XE tb N cl io cn f X sc → chkI tb N sc tg x e = true → ∀ {sl : Sl} {σ : St} {H : Hp} {g : Gh} {b : Nat} {R : L2.It → Hp → Prop}, Rl f g b sl σ H →
    (evI cl io cn x sl).wb XE b (fun p b' => ∀ g' J H', g.le g' → Rl f g' b' p.2 σ H' → Wk f.K f.G g' J p.1 → R J H') → tWI X tg e σ H R
theorem tupB_ok {e : Expr} (h : tupB e = true) : ∃ es k p, e = .Tuple es k p := by
  cases e <;> first
    | exact ⟨_, _, _, rfl⟩
    | cases h
theorem star_two {a c : Expr} {env : Env} (h1 : starB a = false) (h2 : starB c = false) : starEach [a, c] env = (false, eval a env) :: starEach [c] env ∧ starEach [c] env = [(false, eval c env)] := by
  constructor
  · cases a <;> first
      | rfl
      | cases h1
  · cases c <;> first
      | rfl
      | cases h2
theorem star_one {a : Expr} {env : Env} (h1 : starB a = false) : starEach [a] env = [(false, eval a env)] := by
  cases a <;> first
    | rfl
    | cases h1
theorem inBi (x : Str) (h : decide (x ∈ allBi) = true) : x ∈ allBi := of_decide_eq_true h
theorem si_all {it : It} (S : AllI (SE tb N cl io cn f) it) : SI tb N cl io cn f it := ⟨fun {XE X sc tg e} o c {sl σ H g b R} Rr h => by
  have hr : ("range" : Str) ∈ allBi := by decide +kernel
  have he : ("enumerate" : Str) ∈ allBi := by decide +kernel
  have hz : ("zip" : Str) ∈ allBi := by decide +kernel
  unfold chkI at c
  rw [Bool.and_eq_true] at c
  obtain ⟨_, c⟩ := c
  cases it with
  | seq x =>
    have S : SE tb N cl io cn f x := S
    refine wi_val (S.kn o c Rr (T.wb_mono (fun r b' k g' v H' l R' rv => ?_) (T.wb_bind.mp (show (iSeq _ sl).wb XE b _ from h))))
    obtain ⟨⟨w, fr⟩, sl1⟩ := r
    have hK := o.bx.hK
    cases w with
    | lst ws =>
      cases rv with
      | lst q r => exact it_list (.inl (.inl (R'.sub _ _ q))) (by rw [hK]; exact k g' _ H' l R' (wk_list q r))
    | tup ws =>
      cases rv with
      | tup q r => exact it_tup (by rw [hK]; exact SqT.le R'.sub q) (by rw [hK]; exact k g' _ H' l R' (wk_tup q r))
    | _ => exact k.elim
  | txt x =>
    have S : SE tb N cl io cn f x := S
    refine wi_val (S.kn o c Rr (T.wb_mono (fun r b' k g' v H' l R' rv => ?_) (T.wb_bind.mp (show (iTxt _ sl).wb XE b _ from h))))
    obtain ⟨⟨w, fr⟩, sl1⟩ := r
    cases w <;> first
      | exact k.elim
      | skip
    cases rv
    obtain ⟨_, k⟩ := T.wb_guard k
    exact it_str (k g' _ H' l R' wk_str)
  | rng1 a =>
    have S : SE tb N cl io cn f a := S
    dsimp only at c
    split at c
    · rename_i a' hc
      obtain ⟨p, q, rfl, hg⟩ := calls_ok hc
      simp only [Bool.and_eq_true, Bool.not_eq_true'] at c
      refine of_pi (pi_range1 (o.glo _ hg) (o.bi _ hr) pa_w (star_one c.1)) (w_cons c.1 (S.kn o c.2 Rr (T.wb_mono (fun r b' k g' v H' l R' rv => w_nil ?_) (T.wb_bind.mp (show (iR1 _ sl).wb XE b _ from h)))))
      obtain ⟨⟨w, fr⟩, sl1⟩ := r
      cases w <;> first
        | exact k.elim
        | skip
      cases rv
      obtain ⟨k1, k⟩ := T.wb_guard k
      obtain ⟨z1, z2⟩ := fits_ok k1
      exact ⟨_, rfl, z1, z2, k g' _ H' l R' wk_rng⟩
    · cases c
  | rng2 a a2 =>
    have S : SE tb N cl io cn f a ∧ SE tb N cl io cn f a2 := S
    dsimp only at c
    split at c
    · rename_i a' c' hc
      obtain ⟨p, q, rfl, hg⟩ := calls_ok hc
      simp only [Bool.and_eq_true, Bool.not_eq_true'] at c
      obtain ⟨s1, s2⟩ := star_two (env := X.env) c.1 c.2.1
      refine of_pi (pi_range2 (o.glo _ hg) (o.bi _ hr) pa_w (by rw [s1, s2]) s2) (w_cons c.1 (S.1.kn o c.2.2.1 Rr (T.wb_mono (fun r b' k g' v H' l R' rv => ?_) (T.wb_bind.mp (show (iR2 _ _ sl).wb XE b _ from h)))))
      refine w_cons c.2.1 (S.2.kn o c.2.2.2 R' (T.wb_mono (fun r2 b2 k2 g2 v2 H2 l2 R2 rv2 => w_nil ?_) (T.wb_bind.mp k)))
      obtain ⟨i, j, e1, e2, k3⟩ := int2_wb k2
      rw [e1] at rv
      rw [e2] at rv2
      cases rv
      cases rv2
      obtain ⟨k4, k5⟩ := T.wb_guard k3
      rw [Bool.and_eq_true] at k4
      obtain ⟨z1, z2⟩ := fits_ok k4.1
      obtain ⟨z3, z4⟩ := fits_ok k4.2
      exact ⟨i, j, rfl, ⟨z1, z2, z3, z4⟩, k5 g2 _ H2 (l.trans l2) R2 wk_rng⟩
    · cases c
  | rng3 a a2 a3 =>
    have S : SE tb N cl io cn f a ∧ SE tb N cl io cn f a2 ∧ SE tb N cl io cn f a3 := S
    dsimp only at c
    split at c
    · rename_i a' c' d' hc
      obtain ⟨p, q, rfl, hg⟩ := calls_ok hc
      simp only [Bool.and_eq_true, Bool.not_eq_true'] at c
      refine of_pi (pi_range3 (o.glo _ hg) (o.bi _ hr) pa_w (star_cons c.1) (star_any (by rw [List.all_cons, List.all_cons, c.2.1, c.2.2.1]; rfl))) (w_cons c.1 (S.1.kn o c.2.2.2.1 Rr (T.wb_mono (fun r b' k g' v H' l R' rv => ?_) (T.wb_bind.mp (show (iR3 _ _ _ sl).wb XE b _ from h)))))
      refine w_cons c.2.1 (S.2.1.kn o c.2.2.2.2.1 R' (T.wb_mono (fun r2 b2 k2 g2 v2 H2 l2 R2 rv2 => ?_) (T.wb_bind.mp k)))
      refine w_cons c.2.2.1 (S.2.2.kn o c.2.2.2.2.2 R2 (T.wb_mono (fun r3 b3 k3 g3 v3 H3 l3 R3 rv3 => w_nil ?_) (T.wb_bind.mp k2)))
      obtain ⟨i, j, e1, e2, k4⟩ := int2_wb k3
      rw [e1] at rv
      rw [e2] at rv2
      cases rv
      cases rv2
      obtain ⟨⟨w3, fr3⟩, sl3⟩ := r3
      cases w3 <;> first
        | exact k4.elim
        | skip
      rename_i m
      obtain ⟨k5, k6⟩ := T.wb_guard k4
      rw [Bool.and_eq_true, Bool.and_eq_true] at k5
      obtain ⟨z1, z2⟩ := fits_ok k5.1.1
      obtain ⟨z3, z4⟩ := fits_ok k5.1.2
      have e3 := k5.2
      rw [eqI_dec] at e3
      have e3 := of_decide_eq_true e3
      subst e3
      cases rv3
      exact ⟨i, j, -1, _, rfl, RgC.neg z1 z2 z3 z4, k6 g3 _ H3 ((l.trans l2).trans l3) R3 wk_dn⟩
    · cases c
  | enum x =>
    have S : SE tb N cl io cn f x := S
    dsimp only at c
    rw [Bool.and_eq_true] at c
    obtain ⟨c0, c⟩ := c
    obtain ⟨es, kk, tp, rfl⟩ := tupB_ok c0
    split at c
    · rename_i a' hc
      obtain ⟨p, q, rfl, hg⟩ := calls_ok hc
      simp only [Bool.and_eq_true, Bool.not_eq_true'] at c
      refine w_enum (o.glo _ hg) (o.bi _ he) c.1 (S.kn o c.2 Rr (T.wb_mono (fun r b' k g' v H' l R' rv => ?_) (T.wb_bind.mp (show (iEnum _ sl).wb XE b _ from h))))
      obtain ⟨⟨w, fr⟩, sl1⟩ := r
      have hK := o.bx.hK
      cases w with
      | lst ws =>
        cases rv with
        | lst q r => exact ⟨_, rfl, .inl ⟨_, .inl (.inl (R'.sub _ _ q)), by rw [hK]; exact k g' _ H' l R' (wk_enumL q r)⟩⟩
      | tup ws =>
        cases rv with
        | tup q r => exact ⟨_, rfl, .inr ⟨_, by rw [hK]; exact SqT.le R'.sub q, by rw [hK]; exact k g' _ H' l R' (wk_enumT q r)⟩⟩
      | _ => exact k.elim
    · cases c
  | zip x y =>
    have S : SE tb N cl io cn f x ∧ SE tb N cl io cn f y := S
    dsimp only at c
    rw [Bool.and_eq_true] at c
    obtain ⟨c0, c⟩ := c
    obtain ⟨es, kk, tp, rfl⟩ := tupB_ok c0
    split at c
    · rename_i a' c' hc
      obtain ⟨p, q, rfl, hg⟩ := calls_ok hc
      simp only [Bool.and_eq_true, Bool.not_eq_true'] at c
      obtain ⟨s1, s2⟩ := star_two (env := X.env) c.1 c.2.1
      refine of_pi (pi_zipB (o.glo _ hg) (o.bi _ hz) pa_w s1 (by rw [s2]; rfl)) (w_cons c.1 (S.1.kn o c.2.2.1 Rr (T.wb_mono (fun r b' k g' v H' l R' rv => ?_) (T.wb_bind.mp (show (iZip _ _ sl).wb XE b _ from h)))))
      refine w_cons c.2.1 (S.2.kn o c.2.2.2 R' (T.wb_mono (fun r2 b2 k2 g2 v2 H2 l2 R2 rv2 => w_nil ?_) (T.wb_bind.mp k)))
      obtain ⟨⟨w, fr⟩, sl1⟩ := r
      obtain ⟨⟨w2, fr2⟩, sl2⟩ := r2
      have hK := o.bx.hK
      have rv := rv.le l2
      cases w with
      | lst ws =>
        cases w2 with
        | lst xs =>
          cases rv with
          | lst q r =>
            cases rv2 with
            | lst q2 r2 => exact ⟨_, _, _, _, rfl, .inl ⟨.inl (.inl (R2.sub _ _ q)), .inl (.inl (R2.sub _ _ q2)), by rw [hK]; exact k2 g2 _ H2 (l.trans l2) R2 (wk_zipL q r q2 r2)⟩⟩
        | _ => exact k2.elim
      | tup ws =>
        cases w2 with
        | tup xs =>
          cases rv with
          | tup q r =>
            cases rv2 with
            | tup q2 r2 => exact ⟨_, _, _, _, rfl, .inr (.inl ⟨by rw [hK]; exact SqT.le R2.sub q, by rw [hK]; exact SqT.le R2.sub q2, by rw [hK]; exact k2 g2 _ H2 (l.trans l2) R2 (wk_zipT q r q2 r2)⟩)⟩
        | lst xs =>
          cases rv with
          | tup q r =>
            cases rv2 with
            | lst q2 r2 => exact ⟨_, _, _, _, rfl, .inr (.inr ⟨by rw [hK]; exact SqT.le R2.sub q, .inl (.inl (R2.sub _ _ q2)), by rw [hK]; exact k2 g2 _ H2 (l.trans l2) R2 (wk_zipM q r q2 r2)⟩)⟩
        | _ => exact k2.elim
      | _ => exact k2.elim
    · cases c
  | enumZip x y =>
    have S : SE tb N cl io cn f x ∧ SE tb N cl io cn f y := S
    dsimp only at c
    rw [Bool.and_eq_true] at c
    obtain ⟨c0, c⟩ := c
    obtain ⟨es, kk, tp, rfl⟩ := tupB_ok c0
    split at c
    · rename_i z' hc
      obtain ⟨p, q, rfl, hg⟩ := calls_ok hc
      split at c
      · rename_i a' c' hc'
        obtain ⟨p', q', rfl, hg'⟩ := calls_ok hc'
        simp only [Bool.and_eq_true, Bool.not_eq_true'] at c
        refine w_enumZ (o.glo _ hg) (o.bi _ he) (o.glo _ hg') (o.bi _ hz) c.1 c.2.1 (S.1.kn o c.2.2.1 Rr (T.wb_mono (fun r b' k g' v H' l R' rv => ?_) (T.wb_bind.mp (show (iEnumZip _ _ sl).wb XE b _ from h))))
        refine S.2.kn o c.2.2.2 R' (T.wb_mono (fun r2 b2 k2 g2 v2 H2 l2 R2 rv2 => ?_) (T.wb_bind.mp k))
        obtain ⟨⟨w, fr⟩, sl1⟩ := r
        obtain ⟨⟨w2, fr2⟩, sl2⟩ := r2
        have hK := o.bx.hK
        have rv := rv.le l2
        cases w with
        | tup ws =>
          cases w2 with
          | tup xs =>
            cases rv with
            | tup q r =>
              cases rv2 with
              | tup q2 r2 => exact ⟨_, _, _, _, rfl, rfl, by rw [hK]; exact SqT.le R2.sub q, by rw [hK]; exact SqT.le R2.sub q2, by rw [hK]; exact k2 g2 _ H2 (l.trans l2) R2 (wk_enumZ q r q2 r2)⟩
          | _ => exact k2.elim
        | _ => exact k2.elim
      · cases c
    · cases c⟩

/-! ### comprehensions -/
theorem wipeS_some {sl : Sl} : ∀ {own : List Nat} {i : Nat} {r : R}, (wipeS sl own)[i]? = some (some r) → sl[i]? = some (some r) ∧ i ∉ own
  | [], i, r, h => ⟨h, List.not_mem_nil⟩
  | v :: vs, i, r, h => by
    have h : (sett (wipeS sl vs) v none)[i]? = some (some r) := h
    rw [sett_eq] at h
    rcases sl_set h with ⟨_, e⟩ | ⟨e, h⟩
    · cases e
    · obtain ⟨h1, h2⟩ := wipeS_some h
      exact ⟨h1, fun z => by
        rcases List.mem_cons.mp z with y | y
        · exact e y.symm
        · exact h2 y⟩
theorem wipeS_len {sl : Sl} : ∀ {own : List Nat}, (wipeS sl own).length = sl.length
  | [] => rfl
  | v :: vs => by
    show (sett (wipeS sl vs) v none).length = _
    rw [sett_eq, List.length_set]
    exact wipeS_len
theorem wipe_in {σ : St} {i : Nat} : ∀ {vs : List Nat}, i ∈ vs → i < σ.length → (wipe σ vs)[i]? = some none
  | [], h, _ => (List.not_mem_nil h).elim
  | v :: vs, h, hl => by
    show ((wipe σ vs).set v none)[i]? = some none
    by_cases e : v = i
    · subst e
      rw [List.getElem?_set_self (by rw [wipe_length]; exact hl)]
    · rw [List.getElem?_set_ne e]
      rcases List.mem_cons.mp h with y | y
      · exact (e y.symm).elim
      · exact wipe_in y hl
theorem wipe_same {σ σ' : St} {vs : List Nat} (so : SameOut vs (wipe σ vs) σ') : wipe σ' vs = wipe σ vs := by
  refine List.ext_getElem? fun j => ?_
  have hl : σ'.length = σ.length := by rw [so.1, wipe_length]
  by_cases hj : j ∈ vs
  · by_cases hlt : j < σ.length
    · rw [wipe_in hj hlt, wipe_in hj (by rw [hl]; exact hlt)]
    · rw [List.getElem?_eq_none (by rw [wipe_length, hl]; omega), List.getElem?_eq_none (by rw [wipe_length]; omega)]
  · rw [wipe_out hj, so.2 j hj]
theorem ownOf_sub {own : List Nat} {i : Nat} (h : i ∈ (ownOf N own).map (·.2)) : i ∈ own := by
  obtain ⟨p, hp, e⟩ := List.mem_map.mp h
  obtain ⟨j, hj, e2⟩ := List.mem_filterMap.mp hp
  cases hn : nth N j with
  | none => rw [hn] at e2; cases e2
  | some x =>
    rw [hn] at e2
    have e2 : (x, j) = p := Option.some.inj e2
    subst e2
    have e : j = i := e
    subst e
    exact hj
mutual
/-- a target in a comprehension is the comprehension's own -/
theorem chkG_own {scope : Scope} {sc0 : Scope} {own : List (Str × Nat)} (ok : BlkOk N sc0 scope own) (nd : N.Nodup) : ∀ {t : Tg} {e : Expr}, chkG N scope t e = true → ∀ i ∈ tIx t, i ∈ own.map (·.2)
  | .nm i, e, c => by
    intro j hj
    have hj : j = i := List.mem_singleton.mp hj
    subst hj
    unfold chkG at c
    cases hn : asName e with
    | none => rw [hn] at c; cases c
    | some x =>
      rw [hn] at c
      have c : (atB N j x && locB scope x) = true := c
      rw [Bool.and_eq_true] at c
      have hN := atB_ok c.1
      have hl := c.2
      unfold locB at hl
      cases e : scope.names.lookup x with
      | none => rw [e] at hl; cases hl
      | some k =>
        rw [e] at hl
        have hk : k = .local ∨ k = .cell := by
          cases k <;> first
            | (cases hl; done)
            | exact .inl rfl
            | exact .inr rfl
        rcases ok.own _ (PySem.mem_of_lookup e) hk with z | z
        · obtain ⟨p, hp, ep⟩ := List.mem_map.mp z
          have h2 := ok.ix p hp
          have ep : p.1 = x := ep
          rw [ep] at h2
          have e3 : p.2 = j := by
            have l1 := (List.getElem?_eq_some_iff.mp h2)
            have l2 := (List.getElem?_eq_some_iff.mp hN)
            exact (List.getElem?_inj l1.1 nd).mp (h2.trans hN.symm)
          exact List.mem_map.mpr ⟨p, hp, e3⟩
        · exact (z (List.mem_of_getElem? hN)).elim
  | .tp ts, e, c => by
    unfold chkG at c
    cases hn : asTup e with
    | none => rw [hn] at c; cases c
    | some es =>
      rw [hn] at c
      exact chkGs_own ok nd c
theorem chkGs_own {scope : Scope} {sc0 : Scope} {own : List (Str × Nat)} (ok : BlkOk N sc0 scope own) (nd : N.Nodup) : ∀ {ts : List Tg} {es : List Expr}, chkGs N scope ts es = true → ∀ i ∈ tIxs ts, i ∈ own.map (·.2)
  | [], es, c => fun _ h => (List.not_mem_nil h).elim
  | t :: ts, es, c => by
    unfold chkGs at c
    cases es with
    | nil => cases c
    | cons e es =>
      dsimp only at c
      simp only [Bool.and_eq_true, Bool.not_eq_true'] at c
      intro i hi
      rcases List.mem_append.mp hi with z | z
      · exact chkG_own ok nd c.2.1 i z
      · exact chkGs_own ok nd c.2.2 i z
end
theorem Held.new {a : Addr} {u : HO} (R : Rl f g b sl σ H) (h : H a = none) (sf : Soft (some u)) : Held f g sl σ (upd H a u) a u where
  sf := sf
  at_ := upd_same
  hF := R.freeF h
  hD := R.freeD h
  hI := fun z => by
    obtain ⟨x, e⟩ := R.ioS a z
    rw [h] at e
    cases e
  h0 := R.free0 h
  hs := R.freeS h
def teB (X : Cx) (scope : Scope) (e : Expr) : TE := fun σ H Q => ∀ (s : Shared) (H0 : Hp) (C : Addr) (l : List (Str × Addr)) (fp : List Addr), tW (X.blk s H0 scope (compEnvC scope l C X.env) fp) e σ H Q
def ttB (X : Cx) (scope : Scope) (ifs : List Expr) : TT := fun σ H Q => ∀ (s : Shared) (H0 : Hp) (C : Addr) (l : List (Str × Addr)) (fp : List Addr), match ifs with
  | [] => Q true H
  | [c] => tWT (X.blk s H0 scope (compEnvC scope l C X.env) fp) c σ H Q
  | _ => False
theorem pe_B {scope : Scope} {e : Expr} (s : Shared) (H0 : Hp) (C : Addr) (l : List (Str × Addr)) (fp : List Addr) : PE (X.blk s H0 scope (compEnvC scope l C X.env) fp) e (teB X scope e) := ⟨fun pins s1 _ _ _ I h => h s H0 C l fp pins s1 I⟩
theorem pts_B {scope : Scope} {ifs : List Expr} (s : Shared) (H0 : Hp) (C : Addr) (l : List (Str × Addr)) (fp : List Addr) : PTs (X.blk s H0 scope (compEnvC scope l C X.env) fp) ifs (ttB X scope ifs) := by
  cases ifs with
  | nil => exact ⟨fun pins s1 σ H Q I h => pts_nil.run pins s1 σ H Q I (h s H0 C l fp)⟩
  | cons c r =>
    cases r with
    | nil => exact ⟨fun pins s1 σ H Q I h => (pts_one pt_w).run pins s1 σ H Q I (h s H0 C l fp)⟩
    | cons _ _ => exact ⟨fun pins s1 σ H Q I h => (h s H0 C l fp).elim⟩
/-- how far a comprehension has come -/
structure LcW (f : Fm) (g1 : Gh) (σw : St) (D : Addr) (own : List Nat) (turn : W → Sl → T (Option W × Sl)) (items : List W) (Post : List W × Sl → Nat → Prop) (i m : Nat) (H : Hp) : Prop where
  ex : ∃ g' b' acc vs sl', m = items.length - i ∧ i ≤ items.length ∧ g1.le g' ∧ Rl f g' b' sl' σw H ∧ Held f g' sl' σw H D (.lst vs) ∧ RVs f.K f.G g' acc.reverse vs ∧ (∀ (i : Nat) r, sl'[i]? = some (some r) → i ∉ own) ∧ (lcGo turn (items.drop i) acc sl').wb XE b' Post
theorem lc_main {own : List Nat} {x : Ex} {t : Tg} {it : It} {ifs : Exs} {e' g' it' : Expr} {ifs' : List Expr} {scope : Scope} (o : Xok XE tb N cl io cn f X sc) (hblk : BlkOk N sc scope (ownOf N own)) (ht : topSc scope = false)
    (Se : ∀ f, SX tb N cl io cn f x) (Sf : ∀ f, AllX (SX tb N cl io cn f) ifs) (Si : SI tb N cl io cn f it)
    (c1 : chkE tb N scope x e' = true) (c2 : chkG N scope t g' = true) (c3 : chkI tb N sc g' it it' = true) (c4 : chkL tb N scope ifs ifs' = true) (c5 : oneB ifs = true) (R : Rl f g b sl σ H)
    (h : (kLc own (evE cl io cn x) t (evI cl io cn it) (evL cl io cn ifs) sl).wb XE b (fun r b' => ∀ g' v H', g.le g' → Rl f g' b' r.2 σ H' → Vl f g' H' r.2 σ r.1 v → Q v H')) :
    tLc (tWI X g' it') (gOf X.K t) (ttB X scope ifs') (teB X scope e') ((ownOf N own).map (·.2)) σ H Q := by
  refine Si.run o c3 R (T.wb_mono (fun p b1 k g1 J H1 l1 R1 wk => ?_) (T.wb_bind.mp h))
  intro D hD
  obtain ⟨items, sl1⟩ := p
  obtain ⟨Post, hPost⟩ : ∃ P : List W × Sl → Nat → Prop, P = fun a b' => ∀ g' v H', g.le g' → Rl f g' b' a.2 σ H' → Vl f g' H' a.2 σ (.lst a.1, true) v → Q v H' := ⟨_, rfl⟩
  have k : (lcGo (kLcT own (evE cl io cn x) t (evL cl io cn ifs)) items [] (wipeS sl1 own)).wb XE b1 Post := by
    rw [hPost]
    exact T.wb_bind.mp k
  generalize hvs : (ownOf N own).map (·.2) = vs
  have sub : ∀ i, i ∈ vs → i ∈ own := fun i hi => by
    rw [← hvs] at hi
    exact ownOf_sub hi
  have tsub : ∀ i, i ∈ tIx t → i ∈ vs := fun i hi => by
    rw [← hvs]
    exact chkG_own hblk o.nd c2 i hi
  have R1w : Rl f g1 b1 (wipeS sl1 own) (wipe σ vs) H1 := (R1.weak wipeS_len fun i r e => (wipeS_some e).1).sig (wipe_length _ _) fun i r e => wipe_out fun z => (wipeS_some e).2 (sub i z)
  have hk : scope.kind = .function := hblk.kind
  refine ⟨LcW f g1 (wipe σ vs) D own (kLcT own (evE cl io cn x) t (evL cl io cn ifs)) items Post, ⟨items.length, ⟨g1, b1, [], [], wipeS sl1 own, by rw [Nat.sub_zero], Nat.zero_le _, Gh.le.refl g1, R1w.mono (same_upd hD), .new R1w hD soft_lst, .nil, fun i r e => (wipeS_some e).2, k⟩⟩, ?_⟩
  rintro i m H2 ⟨g2, b2, acc, vsD, sl2, rfl, hi, l2, R2, held, rvs, hown, k2⟩
  by_cases hlt : i < items.length
  · right
    have hw : items[i]? = some items[i] := List.getElem?_eq_getElem hlt
    rw [List.drop_eq_getElem_cons hlt] at k2
    have k2 := T.wb_calm (T.wb_bind.mp k2)
    have Ren := R2.enter held
    obtain ⟨go, yl⟩ := wk.go i _ hw (f.hold g2 D (.lst vsD)) g2 b2 sl2 (wipe σ vs) H2 rfl rfl l2 Ren
    refine ⟨go, LcW f g1 (wipe σ vs) D own (kLcT own (evE cl io cn x) t (evL cl io cn ifs)) items Post (i + 1) (items.length - (i + 1)), fun H' q => ⟨items.length - (i + 1), by omega, q⟩, fun xv H3 y => ?_⟩
    obtain ⟨g3, l3, R3, rv⟩ := yl xv H3 y
    rw [o.bx.hK]
    refine setG_ok (f := f.hold g2 D (.lst vsD)) (fr := false) R3 rv (T.wb_bind.mp k2) fun sl4 σ4 k4 R4 so => ⟨wipe_same (so.mono tsub), ?_⟩
    have so := so.mono tsub
    have k4 := T.wb_bind.mp k4
    -- the end of a turn
    have back : ∀ {g5 : Gh} {b5 : Nat} {sl5 : Sl} {H5 : Hp}, g3.le g5 → Rl (f.hold g2 D (.lst vsD)) g5 b5 sl5 σ4 H5 → g1.le g5 ∧ Rl f g5 b5 (wipeS sl5 own) (wipe σ vs) H5 ∧ Held f g5 (wipeS sl5 own) (wipe σ vs) H5 D (.lst vsD) ∧ RVs f.K f.G g5 acc.reverse vsD := fun {g5 b5 sl5 H5} l5 R5 => by
      obtain ⟨z1, z2⟩ := R2.leave held R5
      have same : ∀ (i : Nat) r, (wipeS sl5 own)[i]? = some (some r) → (wipe σ vs)[i]? = σ4[i]? := fun i r e => (so.2 i fun z => (wipeS_some e).2 (sub i z)).symm
      refine ⟨(l2.trans l3).trans l5, (z1.weak wipeS_len fun i r e => (wipeS_some e).1).sig so.1.symm same, ⟨z2.at_, z2.hF, z2.hD, z2.hI, z2.h0, fun i u e => ?_, z2.sf⟩, rvs.le (l3.trans l5)⟩
      rw [same i _ e]
      exact z2.hs i u (wipeS_some e).1
    have no : ∀ {g5 : Gh} {b5 : Nat} {sl5 : Sl} {H5 : Hp}, g3.le g5 → Rl (f.hold g2 D (.lst vsD)) g5 b5 sl5 σ4 H5 → (lcGo (kLcT own (evE cl io cn x) t (evL cl io cn ifs)) (items.drop (i + 1)) acc (wipeS sl5 own)).wb XE b5 Post →
        LcW f g1 (wipe σ vs) D own (kLcT own (evE cl io cn x) t (evL cl io cn ifs)) items Post (i + 1) (items.length - (i + 1)) H5 := fun {g5 b5 sl5 H5} l5 R5 k5 => by
      obtain ⟨y1, y2, y3, y4⟩ := back l5 R5
      exact ⟨g5, b5, acc, vsD, wipeS sl5 own, rfl, hlt, y1, y2, y3, y4, fun i r e => (wipeS_some e).2, k5⟩
    have yes : ∀ {g5 : Gh} {b5 : Nat} {sl5 : Sl} {H5 : Hp}, g3.le g5 → Rl (f.hold g2 D (.lst vsD)) g5 b5 sl5 σ4 H5 → ((evE cl io cn x sl5).bind fun r => T.ok (some r.1.1, wipeS r.2 own)).wb T.noX b5 (fun p b => (match p.1 with
        | some w => T.guard (Nat.blt acc.length sizeLine) (lcGo (kLcT own (evE cl io cn x) t (evL cl io cn ifs)) (items.drop (i + 1)) (w :: acc) p.2)
        | none => lcGo (kLcT own (evE cl io cn x) t (evL cl io cn ifs)) (items.drop (i + 1)) acc p.2).wb XE b Post) →
        teB X scope e' σ4 H5 fun y H4 => ∃ acc, H4 D = some (.lst acc) ∧ acc.length < sizeLine ∧ LcW f g1 (wipe σ vs) D own (kLcT own (evE cl io cn x) t (evL cl io cn ifs)) items Post (i + 1) (items.length - (i + 1)) (upd H4 D (.lst (acc ++ [y]))) := fun {g5 b5 sl5 H5} l5 R5 k5 => by
      intro s0 H0 C l0 fp
      refine (Se _).1.kn (o.blk (f' := f.hold g2 D (.lst vsD)) rfl rfl hk ht s0 H0 C l0 fp) c1 R5 (T.wb_mono (fun r b6 k6 g6 v6 H6 l6 R6 rv6 => ?_) (T.wb_bind.mp k5))
      obtain ⟨k7, k8⟩ := T.wb_guard k6
      obtain ⟨y1, y2, y3, y4⟩ := back (l5.trans l6) R6
      have hl := y4.len
      rw [List.length_reverse] at hl
      have k7 : acc.length < sizeLine := Nat.le_of_ble_eq_true k7
      refine ⟨vsD, y3.at_, by rw [← hl]; exact k7, g6, b6, r.1.1 :: acc, vsD ++ [v6], wipeS r.2 own, rfl, hlt, y1, y2.chg y3.hF y3.hD (.inl y3.h0) y3.hs (by rw [y3.at_]; exact soft_lst), ⟨upd_same, y3.hF, y3.hD, y3.hI, y3.h0, y3.hs, soft_lst⟩, ?_, fun i r e => (wipeS_some e).2, k8⟩
      rw [List.reverse_cons]
      exact y4.append (.cons rv6 .nil)
    intro s0 H0 C l0 fp
    cases ifs with
    | nil =>
      have c4 : ifs'.isEmpty = true := c4
      rw [List.isEmpty_iff] at c4
      subst c4
      dsimp only
      rw [if_pos rfl]
      exact yes (Gh.le.refl g3) R4 k4
    | cons z zs =>
      cases zs with
      | cons _ _ => cases c5
      | nil =>
        cases ifs' with
        | nil => cases c4
        | cons c cs =>
          have c4 : (!starB c && (chkE tb N scope z c && chkL tb N scope .nil cs)) = true := c4
          simp only [Bool.and_eq_true, Bool.not_eq_true'] at c4
          have c6 : cs.isEmpty = true := c4.2.2
          rw [List.isEmpty_iff] at c6
          subst c6
          refine (Sf _).1.2.run (o.blk (f' := f.hold g2 D (.lst vsD)) rfl rfl hk ht s0 H0 C l0 fp) c4.2.1 R4 (T.wb_mono (fun r b6 k6 => ?_) (T.wb_bind.mp k4))
          obtain ⟨tv, e1, k7⟩ := boolOf_wb (T.wb_bind.mp k6)
          refine ⟨tv, e1, fun g6 H6 l6 R6 => ?_⟩
          cases tv with
          | true =>
            rw [if_pos rfl]
            exact yes l6 R6 k7
          | false =>
            rw [if_neg (by decide)]
            exact no l6 R6 k7
  · left
    have ei : i = items.length := by omega
    subst ei
    refine ⟨wk.stop f g2 b2 sl2 (wipe σ vs) H2 rfl rfl l2 R2, ?_⟩
    rw [List.drop_length] at k2
    rw [hPost] at k2
    have same : ∀ (i : Nat) r, sl2[i]? = some (some r) → σ[i]? = (wipe σ vs)[i]? := fun i r e => (wipe_out fun z => hown i r e (sub i z)).symm
    refine k2 g2 _ H2 (l1.trans l2) (R2.sig (wipe_length _ _).symm same) ⟨D, rfl, ⟨vsD, held.at_, rvs⟩, held.hF, held.hD, held.h0, fun i u e => ?_⟩
    show σ[i]? ≠ _
    rw [same i _ e]
    exact held.hs i u e

/-! ### two clauses -/
def tiB (X : Cx) (scope : Scope) (tg e : Expr) : TI := fun σ H R => ∀ (s : Shared) (H0 : Hp) (C : Addr) (l : List (Str × Addr)) (fp : List Addr), tWI (X.blk s H0 scope (compEnvC scope l C X.env) fp) tg e σ H R
theorem pi_B {scope : Scope} {tg e : Expr} (s : Shared) (H0 : Hp) (C : Addr) (l : List (Str × Addr)) (fp : List Addr) : PI (X.blk s H0 scope (compEnvC scope l C X.env) fp) tg e (tiB X scope tg e) := ⟨fun pins s1 _ _ _ I h => h s H0 C l fp pins s1 I⟩
structure Lc2W (f : Fm) (g1 : Gh) (σw : St) (D : Addr) (own : List Nat) (turn : W → List W → Sl → T (List W × Sl)) (items : List W) (Post : List W × Sl → Nat → Prop) (XE : XP) (i m : Nat) (H : Hp) : Prop where
  ex : ∃ g' b' acc vs sl', m = items.length - i ∧ i ≤ items.length ∧ g1.le g' ∧ Rl f g' b' sl' σw H ∧ Held f g' sl' σw H D (.lst vs) ∧ RVs f.K f.G g' acc.reverse vs ∧ (∀ (i : Nat) r, sl'[i]? = some (some r) → i ∉ own) ∧ (lc2Go turn (items.drop i) acc sl').wb XE b' Post
structure LcIW (f : Fm) (g1 : Gh) (σw : St) (D : Addr) (own : List Nat) (turn : W → Sl → T (W × Sl)) (items : List W) (Post : List W × Sl → Nat → Prop) (j m : Nat) (H : Hp) : Prop where
  ex : ∃ g' b' acc vs sl', m = items.length - j ∧ j ≤ items.length ∧ g1.le g' ∧ Rl f g' b' sl' σw H ∧ Held f g' sl' σw H D (.lst vs) ∧ RVs f.K f.G g' acc.reverse vs ∧ (∀ (i : Nat) r, sl'[i]? = some (some r) → i ∉ own) ∧ (lcIn turn (items.drop j) acc sl').wb T.noX b' Post
theorem lc2_main {own own1 : List Nat} {x : Ex} {t t1 : Tg} {it it1 : It} {e' g' it' g1' it1' : Expr} {scope : Scope} (o : Xok XE tb N cl io cn f X sc) (hblk : BlkOk N sc scope (ownOf N own)) (ht : topSc scope = false)
    (sub1 : ∀ i, i ∈ own1 → i ∈ (ownOf N own).map (·.2)) (tsub1 : ∀ i, i ∈ tIx t1 → i ∈ own1)
    (Se : ∀ f, SX tb N cl io cn f x) (Si : SI tb N cl io cn f it) (Si1 : ∀ f, SI tb N cl io cn f it1)
    (c1 : chkE tb N scope x e' = true) (c2 : chkG N scope t g' = true) (c3 : chkI tb N sc g' it it' = true) (c4 : chkG N scope t1 g1' = true) (c5 : chkI tb N scope g1' it1 it1' = true) (R : Rl f g b sl σ H)
    (h : (kLc2 own own1 (evE cl io cn x) t (evI cl io cn it) t1 (evI cl io cn it1) sl).wb XE b (fun r b' => ∀ g' v H', g.le g' → Rl f g' b' r.2 σ H' → Vl f g' H' r.2 σ r.1 v → Q v H')) :
    tLc2 (tWI X g' it') (gOf X.K t) (ttB X scope []) (tiB X scope g1' it1') (gOf X.K t1) (ttB X scope []) (teB X scope e') ((ownOf N own).map (·.2)) own1 σ H Q := by
  refine Si.run o c3 R (T.wb_mono (fun p b1 k g1 J H1 l1 R1 wk => ?_) (T.wb_bind.mp h))
  intro D hD
  obtain ⟨items, sl1⟩ := p
  obtain ⟨Post, hPost⟩ : ∃ P : List W × Sl → Nat → Prop, P = fun a b' => ∀ g' v H', g.le g' → Rl f g' b' a.2 σ H' → Vl f g' H' a.2 σ (.lst a.1, true) v → Q v H' := ⟨_, rfl⟩
  obtain ⟨turn, hturn⟩ : ∃ z, z = kLcO own own1 (evE cl io cn x) t t1 (evI cl io cn it1) := ⟨_, rfl⟩
  have k : (lc2Go turn items [] (wipeS sl1 own)).wb XE b1 Post := by
    rw [hPost, hturn]
    exact T.wb_bind.mp k
  generalize hvs : (ownOf N own).map (·.2) = vs at sub1
  have sub : ∀ i, i ∈ vs → i ∈ own := fun i hi => by
    rw [← hvs] at hi
    exact ownOf_sub hi
  have tsub : ∀ i, i ∈ tIx t → i ∈ vs := fun i hi => by
    rw [← hvs]
    exact chkG_own hblk o.nd c2 i hi
  have R1w : Rl f g1 b1 (wipeS sl1 own) (wipe σ vs) H1 := (R1.weak wipeS_len fun i r e => (wipeS_some e).1).sig (wipe_length _ _) fun i r e => wipe_out fun z => (wipeS_some e).2 (sub i z)
  have hk : scope.kind = .function := hblk.kind
  refine ⟨Lc2W f g1 (wipe σ vs) D own turn items Post XE, ⟨items.length, ⟨g1, b1, [], [], wipeS sl1 own, by rw [Nat.sub_zero], Nat.zero_le _, Gh.le.refl g1, R1w.mono (same_upd hD), .new R1w hD soft_lst, .nil, fun i r e => (wipeS_some e).2, k⟩⟩, ?_⟩
  rintro i m H2 ⟨g2, b2, acc, vsD, sl2, rfl, hi, l2, R2, held, rvs, hown, k2⟩
  by_cases hlt : i < items.length
  · right
    have hw : items[i]? = some items[i] := List.getElem?_eq_getElem hlt
    rw [List.drop_eq_getElem_cons hlt] at k2
    have k2 : (T.bind (turn items[i] acc sl2) fun p => lc2Go turn (items.drop (i + 1)) p.1 p.2).wb XE b2 Post := k2
    rw [show turn items[i] acc sl2 = T.calm _ by rw [hturn]; rfl] at k2
    have k2 := T.wb_calm (T.wb_bind.mp k2)
    have Ren := R2.enter held
    obtain ⟨go, yl⟩ := wk.go i _ hw (f.hold g2 D (.lst vsD)) g2 b2 sl2 (wipe σ vs) H2 rfl rfl l2 Ren
    refine ⟨go, Lc2W f g1 (wipe σ vs) D own turn items Post XE (i + 1) (items.length - (i + 1)), fun H' q => ⟨items.length - (i + 1), by omega, q⟩, fun xv H3 y => ?_⟩
    obtain ⟨g3, l3, R3, rv⟩ := yl xv H3 y
    rw [o.bx.hK]
    refine setG_ok (f := f.hold g2 D (.lst vsD)) (fr := false) R3 rv (T.wb_bind.mp k2) fun sl4 σ4 k4 R4 so => ⟨wipe_same (so.mono tsub), ?_⟩
    have so := so.mono tsub
    have k4 := T.wb_bind.mp k4
    intro s0 H0 C l0 fp
    dsimp only
    rw [if_pos rfl]
    intro s0 H0 C l0 fp
    refine (Si1 _).run (o.blk (f' := f.hold g2 D (.lst vsD)) rfl rfl hk ht s0 H0 C l0 fp) c5 R4 (T.wb_mono (fun p5 b5 k5 g5 J1 H5 l5 R5 wk1 => ?_) k4)
    obtain ⟨items1, sl5⟩ := p5
    -- the inner loop
    obtain ⟨z1, z2⟩ := R2.leave held R5
    obtain ⟨Post1, hPost1⟩ : ∃ P : List W × Sl → Nat → Prop, P = fun q b => (lc2Go turn (items.drop (i + 1)) q.1 (wipeS q.2 own)).wb XE b Post := ⟨_, rfl⟩
    have k5 : (lcIn (kLcI own1 (evE cl io cn x) t1) items1 acc (wipeS sl5 own1)).wb T.noX b5 Post1 := by
      rw [hPost1]
      exact T.wb_bind.mp k5
    have Z1 : Rl f g5 b5 (wipeS sl5 own1) (wipe σ4 own1) H5 := (z1.weak wipeS_len fun i r e => (wipeS_some e).1).sig (wipe_length _ _) fun i r e => wipe_out (wipeS_some e).2
    have Z2 : Held f g5 (wipeS sl5 own1) (wipe σ4 own1) H5 D (.lst vsD) := ⟨z2.at_, z2.hF, z2.hD, z2.hI, z2.h0, fun i u e => by
      rw [wipe_out (wipeS_some e).2]
      exact z2.hs i u (wipeS_some e).1, z2.sf⟩
    refine ⟨LcIW f g5 (wipe σ4 own1) D own1 (kLcI own1 (evE cl io cn x) t1) items1 Post1, ⟨items1.length, ⟨g5, b5, acc, vsD, wipeS sl5 own1, by rw [Nat.sub_zero], Nat.zero_le _, Gh.le.refl g5, Z1, Z2, rvs.le (l3.trans l5), fun i r e => (wipeS_some e).2, k5⟩⟩, ?_⟩
    rintro j m1 H6 ⟨g6, b6, acc6, vs6, sl6, rfl, hj, l6, R6, held6, rvs6, hown6, k6⟩
    by_cases hlt1 : j < items1.length
    · right
      have hw1 : items1[j]? = some items1[j] := List.getElem?_eq_getElem hlt1
      rw [List.drop_eq_getElem_cons hlt1] at k6
      have k6 := T.wb_bind.mp k6
      have Ren6 := R6.enter held6
      obtain ⟨go1, yl1⟩ := wk1.go j _ hw1 (f.hold g6 D (.lst vs6)) g6 b6 sl6 (wipe σ4 own1) H6 rfl rfl l6 Ren6
      refine ⟨go1, LcIW f g5 (wipe σ4 own1) D own1 (kLcI own1 (evE cl io cn x) t1) items1 Post1 (j + 1) (items1.length - (j + 1)), fun H' q => ⟨items1.length - (j + 1), by omega, q⟩, fun xv1 H7 y1 => ?_⟩
      obtain ⟨g7, l7, R7, rv7⟩ := yl1 xv1 H7 y1
      refine setG_ok (f := f.hold g6 D (.lst vs6)) (fr := false) R7 rv7 (T.wb_bind.mp k6) fun sl8 σ8 k8 R8 so8 => ⟨wipe_same (so8.mono tsub1), ?_⟩
      have so8 := so8.mono tsub1
      intro s1 H01 C1 l01 fp1
      dsimp only
      rw [if_pos rfl]
      intro s1 H01 C1 l01 fp1
      refine (Se _).1.kn (o.blk (f' := f.hold g6 D (.lst vs6)) rfl rfl hk ht s1 H01 C1 l01 fp1) c1 R8 (T.wb_mono (fun r b9 k9 g9 v9 H9 l9 R9 rv9 => ?_) (T.wb_bind.mp k8))
      obtain ⟨k10, k11⟩ := T.wb_guard k9
      obtain ⟨y1, y2⟩ := R6.leave held6 R9
      have same : ∀ (i : Nat) r9, (wipeS r.2 own1)[i]? = some (some r9) → (wipe σ4 own1)[i]? = σ8[i]? := fun i r9 e => (so8.2 i (wipeS_some e).2).symm
      have Y1 : Rl f g9 b9 (wipeS r.2 own1) (wipe σ4 own1) H9 := (y1.weak wipeS_len fun i r e => (wipeS_some e).1).sig so8.1.symm same
      have Y3 : Held f g9 (wipeS r.2 own1) (wipe σ4 own1) H9 D (.lst vs6) := ⟨y2.at_, y2.hF, y2.hD, y2.hI, y2.h0, fun i u e => by
        rw [same i _ e]
        exact y2.hs i u (wipeS_some e).1, y2.sf⟩
      have Y4 := rvs6.le (l7.trans l9)
      have hl := Y4.len
      rw [List.length_reverse] at hl
      have k10 : acc6.length < sizeLine := Nat.le_of_ble_eq_true k10
      refine ⟨vs6, Y3.at_, by rw [← hl]; exact k10, g9, b9, r.1.1 :: acc6, vs6 ++ [v9], wipeS r.2 own1, rfl, hlt1, (l6.trans l7).trans l9, Y1.chg Y3.hF Y3.hD (.inl Y3.h0) Y3.hs (by rw [Y3.at_]; exact soft_lst), ⟨upd_same, Y3.hF, Y3.hD, Y3.hI, Y3.h0, Y3.hs, soft_lst⟩, ?_, fun i r e => (wipeS_some e).2, k11⟩
      rw [List.reverse_cons]
      exact Y4.append (.cons rv9 .nil)
    · left
      have ej : j = items1.length := by omega
      subst ej
      refine ⟨wk1.stop f g6 b6 sl6 (wipe σ4 own1) H6 rfl rfl l6 R6, ?_⟩
      rw [List.drop_length] at k6
      have k6 : Post1 (acc6, sl6) b6 := k6
      rw [hPost1] at k6
      have same : ∀ (i : Nat) r, (wipeS sl6 own)[i]? = some (some r) → (wipe σ vs)[i]? = (wipe σ4 own1)[i]? := fun i r e => by
        rw [wipe_out (vs := own1) fun z => (wipeS_some e).2 (sub i (sub1 i z))]
        exact (so.2 i fun z => (wipeS_some e).2 (sub i z)).symm
      have e9 : (wipe σ vs).length = (wipe σ4 own1).length := by rw [wipe_length, wipe_length, so.1, wipe_length]
      refine ⟨g6, b6, acc6, vs6, wipeS sl6 own, rfl, hlt, (((l2.trans l3).trans l5).trans l6), (R6.weak wipeS_len fun i r e => (wipeS_some e).1).sig e9 same, ⟨held6.at_, held6.hF, held6.hD, held6.hI, held6.h0, fun i u e => ?_, held6.sf⟩, rvs6, fun i r e => (wipeS_some e).2, k6⟩
      rw [same i _ e]
      exact held6.hs i u (wipeS_some e).1
  · left
    have ei : i = items.length := by omega
    subst ei
    refine ⟨wk.stop f g2 b2 sl2 (wipe σ vs) H2 rfl rfl l2 R2, ?_⟩
    rw [List.drop_length] at k2
    have k2 : Post (acc.reverse, sl2) b2 := k2
    rw [hPost] at k2
    have same : ∀ (i : Nat) r, sl2[i]? = some (some r) → σ[i]? = (wipe σ vs)[i]? := fun i r e => (wipe_out fun z => hown i r e (sub i z)).symm
    refine k2 g2 _ H2 (l1.trans l2) (R2.sig (wipe_length _ _).symm same) ⟨D, rfl, ⟨vsD, held.at_, rvs⟩, held.hF, held.hD, held.h0, fun i u e => ?_⟩
    show σ[i]? ≠ _
    rw [same i _ e]
    exact held.hs i u e

theorem fold_ok {e : Expr} {env : Env} (h : setB e = false) (x : Value) : foldedSetIterable e env x = pure x := by
  cases e <;> first
    | rfl
    | cases h
/-- a comprehension's syntax -/
theorem chk_lc {own : List Nat} {x : Ex} {t : Tg} {it : It} {ifs : Exs} {e : Expr} (c : chkE tb N sc (.lc own x t it ifs) e = true) : ∃ e' g' it' ifs' scope pos, e = .ListComp e' [⟨g', it', ifs', 0⟩] scope pos ∧ BlkOk N sc scope (ownOf N own) ∧ topSc scope = false ∧
    chkE tb N scope x e' = true ∧ chkG N scope t g' = true ∧ chkI tb N sc g' it it' = true ∧ chkL tb N scope ifs ifs' = true ∧ oneB ifs = true ∧ setB it' = false := by
  unfold chkE at c
  split at c
  · rename_i hc
    obtain ⟨p, rfl⟩ := asLc_ok hc
    simp only [Bool.and_eq_true, Bool.not_eq_true'] at c
    obtain ⟨⟨c0, c1⟩, c2, c3, c4, c5, c6⟩ := c
    refine ⟨_, _, _, _, _, p, rfl, blkOk_by c1, c0, c2, c3, c4, c5, c6, ?_⟩
    have c4' := c4
    unfold chkI at c4'
    simp only [Bool.and_eq_true, Bool.not_eq_true'] at c4'
    exact c4'.1
  · cases c
theorem blk_to (o : Xok XE tb N cl io cn f X sc) {scope : Scope} {own : List (Str × Nat)} (k : BlkOk N sc scope own) : BlkOk X.N X.env.scope scope own where
  kind := k.kind
  uniq := k.uniq
  ix := fun p hp => by rw [o.hN]; exact k.ix p hp
  free := fun y hy e => o.cf _ (k.free y hy e)
  own := fun y hy e => by rw [o.hN]; exact k.own y hy e
theorem se_lc {own : List Nat} {x : Ex} {t : Tg} {it : It} {ifs : Exs} (Se : ∀ f, SX tb N cl io cn f x) (Sf : ∀ f, AllX (SX tb N cl io cn f) ifs) (Si : SI tb N cl io cn f it) : SE tb N cl io cn f (.lc own x t it ifs) := ⟨fun {XE X sc e} o c {sl σ H g b Q} R h => by
  obtain ⟨e', g', it', ifs', scope, pos, rfl, c0, ct, c1, c2, c3, c4, c5, c6⟩ := chk_lc c
  exact of_pe (pe_lc o.bx.calm (by rw [o.hN]; exact o.nd) pi_w (blk_to o c0) (fun s H C l fp => pg_of (o.blk rfl rfl c0.kind ct s H C l fp) c2) pts_B pe_B (fold_ok c6)) (lc_main o c0 ct Se Sf Si c1 c2 c3 c4 c5 R h)⟩
theorem chk_lc2 {own own1 : List Nat} {x : Ex} {t t1 : Tg} {it it1 : It} {e : Expr} (c : chkE tb N sc (.lc2 own own1 x t it t1 it1) e = true) : ∃ e' g' it' g1' it1' scope pos, e = .ListComp e' [⟨g', it', [], 0⟩, ⟨g1', it1', [], 0⟩] scope pos ∧ BlkOk N sc scope (ownOf N own) ∧ topSc scope = false ∧
    (∀ i, i ∈ own1 → i ∈ (ownOf N own).map (·.2)) ∧ (∀ i, i ∈ tIx t1 → i ∈ own1) ∧ chkE tb N scope x e' = true ∧ chkG N scope t g' = true ∧ chkI tb N sc g' it it' = true ∧ chkG N scope t1 g1' = true ∧ chkI tb N scope g1' it1 it1' = true ∧ setB it' = false ∧ setB it1' = false := by
  unfold chkE at c
  split at c
  · rename_i hc
    obtain ⟨p, rfl⟩ := asLc_ok hc
    simp only [Bool.and_eq_true, Bool.not_eq_true'] at c
    obtain ⟨⟨c0, c1⟩, d1, d2, c2, c3, c4, c5, c6⟩ := c
    have s1 : ∀ {sc0 : Scope} {tg e : Expr} {i : It}, chkI tb N sc0 tg i e = true → setB e = false := fun {sc0 tg e i} z => by
      unfold chkI at z
      simp only [Bool.and_eq_true, Bool.not_eq_true'] at z
      exact z.1
    refine ⟨_, _, _, _, _, _, p, rfl, blkOk_by c1, c0, fun i hi => ?_, fun i hi => ?_, c2, c3, c4, c5, c6, s1 c4, s1 c6⟩
    · have := List.all_eq_true.mp d1 i hi
      rw [List.any_eq_true] at this
      obtain ⟨q, q1, q2⟩ := this
      exact List.mem_map.mpr ⟨q, q1, Nat.eq_of_beq_eq_true q2⟩
    · exact List.elem_iff.mp (List.all_eq_true.mp d2 i hi)
  · cases c
theorem se_lc2 {own own1 : List Nat} {x : Ex} {t t1 : Tg} {it it1 : It} (Se : ∀ f, SX tb N cl io cn f x) (Si : SI tb N cl io cn f it) (Si1 : ∀ f, SI tb N cl io cn f it1) : SE tb N cl io cn f (.lc2 own own1 x t it t1 it1) := ⟨fun {XE X sc e} o c {sl σ H g b Q} R h => by
  obtain ⟨e', g', it', g1', it1', scope, pos, rfl, c0, ct, d1, d2, c1, c2, c3, c4, c5, c6, c7⟩ := chk_lc2 c
  exact of_pe (pe_lc2 o.bx.calm (by rw [o.hN]; exact o.nd) pi_w (blk_to o c0) d1 (fun s H C l fp => pg_of (o.blk rfl rfl c0.kind ct s H C l fp) c2) pts_B pi_B (fun s H C l fp => pg_of (o.blk rfl rfl c0.kind ct s H C l fp) c4) pts_B pe_B (fold_ok c6) (fun env => fold_ok c7)) (lc2_main o c0 ct d1 d2 Se Si Si1 c1 c2 c3 c4 c5 R h)⟩
theorem ST.no {x : Ex} (S : SE tb N cl io cn f x) (hp : ∀ {sc : Scope} {e : Expr}, chkE tb N sc x e = true → plainT e = true) : SX tb N cl io cn f x := ⟨S, ST.of S hp⟩
theorem w_iteT {a c d : Expr} {pos : Pos} {Q : Bool → Hp → Prop} (h : tWT X a σ H fun t H1 => if t = true then tWT X c σ H1 Q else tWT X d σ H1 Q) : tWT X (.IfExp a c d pos) σ H Q := fun pins s I => by
  rw [arm_isTrue_IfExp]
  refine wpAny_bind (thn (h pins s I) fun t s1 ⟨H1, I1, q⟩ => ?_)
  cases t with
  | true =>
    rw [if_pos rfl] at q ⊢
    exact q pins s1 I1
  | false =>
    rw [if_neg (by decide)] at q ⊢
    exact q pins s1 I1
theorem se_ite2 {x y z : Ex} (Sx : SX tb N cl io cn f x) (Sy : SX tb N cl io cn f y) (Sz : SX tb N cl io cn f z) : SX tb N cl io cn f (.ite x y z) := by
  refine ⟨se_ite Sx.2 Sy.1 Sz.1, ⟨fun {XE X sc e} o c {sl σ H g b Q} R h => ?_⟩⟩
  unfold chkE at c
  split at c
  · rename_i hc
    obtain ⟨pp, rfl⟩ := asIf_ok hc
    simp only [Bool.and_eq_true] at c
    refine w_iteT (Sx.2.run o c.1 R (T.wb_mono (fun r b' k => ?_) (T.wb_bind.mp (show (kIte _ _ _ sl).wb XE b _ from h))))
    obtain ⟨t, e1, k⟩ := boolOf_wb (T.wb_bind.mp k)
    refine ⟨t, e1, fun g' H' l R' => ?_⟩
    cases t with
    | true =>
      rw [if_pos rfl]
      exact Sy.2.run o c.2.1 R' (T.wb_mono (fun r b2 ⟨t, e2, k2⟩ => ⟨t, e2, fun g2 H2 l2 R2 => k2 g2 H2 (l.trans l2) R2⟩) k)
    | false =>
      rw [if_neg (by decide)]
      exact Sz.2.run o c.2.2 R' (T.wb_mono (fun r b2 ⟨t, e2, k2⟩ => ⟨t, e2, fun g2 H2 l2 R2 => k2 g2 H2 (l.trans l2) R2⟩) k)
  · cases c

/-! ### index -/
theorem mtr_w {id : String} : MtR X id (fun x vs H Q => MtWt X id x vs H Q) := fun pins s σ H x xs v us Q I rx rv h => h pins s σ v us I rx rv
theorem se_mth {m : Mt} {a : Ex} {es : Exs} (Sa : SE tb N cl io cn f a) (Sx : AllX (SE tb N cl io cn f) es) : SE tb N cl io cn f (.mth m a es) := ⟨fun {XE X sc e} o c {sl σ H g b Q} R h => by
  unfold chkE at c
  cases hc : asMeth e with
  | none => rw [hc] at c; cases c
  | some y =>
    rw [hc] at c
    obtain ⟨ob, n, x'⟩ := y
    obtain ⟨nm, p, ap, cp, rfl, eo, hline⟩ := asMeth_ok hc
    have eo : ob = .Name nm p := eo
    subst eo
    simp only [Bool.and_eq_true, Bool.not_eq_true'] at c
    obtain ⟨c1, c2, c3, c4, c5, c6⟩ := c
    have en := eqS_iff.mp c1
    subst en
    have h : (kMth m (isG a) (isV a, evE cl io cn a) (evL cl io cn es) sl).wb XE b _ := h
    have em : m = .index := by
      cases m <;> first
        | rfl
        | cases c2
    subst em
    -- behind the receiver
    have rest : ∀ {g1 : Gh} {v1 : V} {H1 : Hp} {b1 : Nat} {hd1 : Hd} {sl1 : Sl}, g.le g1 → Rl f g1 b1 sl1 σ H1 → HV f g1 σ hd1 v1 →
        ((lH (evL cl io cn es) sl1).bind fun q => (hd1.get q.2).bind fun x => (getAll q.1 q.2).bind fun ws => T.guard (recvB (isG a) x) ((mtW .index x ws).bind fun w => .ok ((w, false), q.2))).wb XE b1 (fun r b' => ∀ g' v H', g.le g' → Rl f g' b' r.2 σ H' → Vl f g' H' r.2 σ r.1 v → Q v H') →
        tWA X [x'] σ H1 fun xs H2 => ∃ x, (∀ w, hd1 = .val w → x = w) ∧ recvB (isG a) x = true ∧ (((∃ xs, x = .tup xs) ∧ MtWt X "tuple.index" v1 xs H2 Q) ∨ ((∃ xs, x = .lst xs) ∧ MtWt X "list.index" v1 xs H2 Q)) := fun {g1 v1 H1 b1 hd1 sl1} l1 R1 hv k => by
      refine lH_ok Sx o c6 R1 (T.wb_mono (fun q b2 k2 g2 vs H2 l2 R2 hvs => ?_) (T.wb_bind.mp k))
      obtain ⟨x, k3, px, ex⟩ : ∃ x, ((getAll q.1 q.2).bind fun ws => T.guard (recvB (isG a) x) ((mtW .index x ws).bind fun w => T.ok ((w, false), q.2))).wb XE b2 (fun r b' => ∀ g' v H', g.le g' → Rl f g' b' r.2 σ H' → Vl f g' H' r.2 σ r.1 v → Q v H') ∧ PV f g2 H2 x v1 ∧ ∀ w, hd1 = .val w → x = w := by
        cases hd1 with
        | val w => exact ⟨w, T.wb_bind.mp k2, .inl (hv.le l2), fun u e => by cases e; rfl⟩
        | slot i =>
          obtain ⟨x, k3, px⟩ := (hv.le l2).get R2 (T.wb_bind.mp k2)
          exact ⟨x, k3, px, fun u e => by cases e⟩
      obtain ⟨ws, k4, pws⟩ := hvs.get R2 (T.wb_bind.mp k3)
      obtain ⟨k5, k6⟩ := T.wb_guard k4
      cases pws with
      | nil => exact k6.elim
      | cons py pr =>
        cases pr with
        | cons _ _ => exact k6.elim
        | nil => exact ⟨x, ex, k5, index_ok (X := X) (Q := Q) o.bx.hK R2 px py (T.wb_bind.mp k6) (fun w v k rv => k g2 v H2 (l1.trans l2) R2 rv)⟩
    have few : ((backTo cp (starEach [x'] X.env)).all (fun x => !x.1) && (backToKw cp (keywordEach [] X.env)).all (fun x => x.1.isSome) && decide ([x'].length + ([] : List Keyword).length + (if ([] : List Keyword).isEmpty then 0 else 1) < 30)) = true := by
      rw [star_one c4]
      rfl
    cases a with
    | glo k =>
      have c5' := c5
      unfold chkE at c5
      have c5 : (atB tb.cnm k nm && (gloB sc nm && okN nm)) = true := c5
      simp only [Bool.and_eq_true, okN, Bool.not_eq_true'] at c5
      obtain ⟨d1, d2, d3, d4, _⟩ := c5
      obtain ⟨v, u, h1, h2, h3, h4⟩ := o.con k nm (atB_ok d1)
      have h : (T.guard (recvB true (cn k)) ((lH (evL cl io cn es) sl).bind fun q => ((Hd.val (cn k)).get q.2).bind fun x => (getAll q.1 q.2).bind fun ws => T.guard (recvB true x) ((mtW .index x ws).bind fun w => .ok ((w, false), q.2)))).wb XE b _ := h
      obtain ⟨k1, k2⟩ := T.wb_guard h
      have rr := rest (hd1 := .val (cn k)) (v1 := v) (Gh.le.refl g) R (h3 g) k2
      have glob : ∀ {Q' : VK}, Q' v H → tW X (.Name nm p) σ H Q' := fun q => of_pe (pe_glob (o.glo nm d2) h1 h2 d3) q
      cases hcn : cn k with
      | tup ws =>
        obtain ⟨aa, oo, e1, e2, e3, e4⟩ := h4 ws hcn
        refine of_pe (pe_bm PySem.F.plainAttrs_tuple PySem.F.slot_tuple_index PySem.F.type_tuple_index mtr_w pe_w pa_w rfl few hline (star_cons c4) rfl) (glob ⟨?_, tWA.mono rr fun xs H2 ⟨x, ex, _, z⟩ => ?_⟩)
        · rw [e1]
          exact .inr (.inl ⟨rfl, oo, e2, e3, e4⟩)
        · have ex := ex (cn k) rfl
          rw [hcn] at ex
          rcases z with ⟨_, z⟩ | ⟨⟨ys, ey⟩, _⟩
          · exact z
          · rw [ey] at ex; cases ex
      | lst ws =>
        refine of_pe (pe_bm PySem.F.plainAttrs_list PySem.F.slot_list_index PySem.F.type_list_index mtr_w pe_w pa_w rfl few hline (star_cons c4) rfl) (glob ⟨?_, tWA.mono rr fun xs H2 ⟨x, ex, _, z⟩ => ?_⟩)
        · have rv := h3 g
          rw [hcn] at rv
          cases rv with
          | lst q r => exact .inl ⟨rfl, _, .inl (.inl (R.sub _ _ q))⟩
        · have ex := ex (cn k) rfl
          rw [hcn] at ex
          rcases z with ⟨⟨ys, ey⟩, _⟩ | ⟨_, z⟩
          · rw [ey] at ex; cases ex
          · exact z
      | _ => rw [hcn] at k1; cases k1
    | var i =>
      refine of_pe (pe_bm PySem.F.plainAttrs_list PySem.F.slot_list_index PySem.F.type_list_index mtr_w pe_w pa_w rfl few hline (star_cons c4) rfl) ?_
      refine Sa.hd o c5 R (T.wb_mono (fun p1 b1 k1 g1 v1 H1 l1 R1 hv1 => ?_) (T.wb_bind.mp h))
      obtain ⟨x0, k2, px⟩ := hv1.get R1 (T.wb_bind.mp k1)
      obtain ⟨k3, k4⟩ := T.wb_guard k2
      refine ⟨?_, tWA.mono (rest l1 R1 hv1 k4) fun xs H2 ⟨x, _, gx, z⟩ => ?_⟩
      · have k3 : recvB false x0 = true := k3
        cases x0 <;> first
          | (cases k3; done)
          | skip
        obtain ⟨aa, vs, rfl, q, r⟩ := px.lst R1.sub
        exact .inl ⟨rfl, vs, .inl (.inl q)⟩
      · rcases z with ⟨⟨ys, ey⟩, _⟩ | ⟨_, z⟩
        · rw [ey] at gx; cases gx
        · exact z
    | _ => cases c3⟩
end
end Ev
end
end
section
set_option Elab.async false
set_option linter.all false
set_option maxRecDepth 100000
set_option maxHeartbeats 2000000
/-! EvFr: a call, by frames. -/
noncomputable section
namespace Ev
open PySem L2
set_option autoImplicit false
/-! ### a call, by frames -/
section
variable {f : Fm} {g g' : Gh} {b b' : Nat} {sl : Sl} {σ : St} {H H' : Hp} {args : List R} {vs : List V} {as : List Addr}
theorem ArgsR.len : ∀ {args : List R} {vs : List V} {as : List Addr}, ArgsR f g H sl σ args vs as → args.length = vs.length
  | _, _, _, .nil => rfl
  | _, _, _, .frz _ r => congrArg (· + 1) r.len
  | _, _, _, .own _ _ _ _ _ _ r => congrArg (· + 1) r.len
theorem ArgsR.mem : ∀ {args : List R} {vs : List V} {as : List Addr}, ArgsR f g H sl σ args vs as → ∀ a ∈ as, (∃ o, H a = some o) ∧ g.F a = none ∧ a ∉ dAdr g.D ∧ (f.H0 a = none ∨ a ∈ f.IO) ∧ NoSlot sl σ a
  | _, _, _, .nil => fun _ h => (List.not_mem_nil h).elim
  | _, _, _, .frz _ r => r.mem
  | _, _, _, .own (a := a) h1 h2 h3 h4 h5 _ r => fun c hc => by
    rcases List.mem_cons.mp hc with e | e
    · subst e
      exact ⟨h1.some, h2, h3, h4, h5⟩
    · exact r.mem c e
theorem ArgsR.frzAt : ∀ {args : List R} {vs : List V} {as : List Addr}, ArgsR f g H sl σ args vs as → ∀ (i : Nat) w, args[i]? = some (w, false) → ∃ v, vs[i]? = some v ∧ RV f.K f.G g w v
  | _, _, _, .nil => fun i w h => by simp at h
  | _, _, _, .frz rv r => fun i w h => by
    cases i with
    | zero => cases h; exact ⟨_, rfl, rv⟩
    | succ i => exact r.frzAt i w (by simpa using h)
  | _, _, _, .own _ _ _ _ _ _ r => fun i w h => by
    cases i with
    | zero => cases h
    | succ i => exact r.frzAt i w (by simpa using h)
theorem ArgsR.ownAt : ∀ {args : List R} {vs : List V} {as : List Addr}, ArgsR f g H sl σ args vs as → ∀ (i : Nat) w, args[i]? = some (w, true) → ∃ a, vs[i]? = some (.ref a) ∧ OA f.K f.G g H w a ∧ a ∈ as
  | _, _, _, .nil => fun i w h => by simp at h
  | _, _, _, .frz rv r => fun i w h => by
    cases i with
    | zero => cases h
    | succ i => exact r.ownAt i w (by simpa using h)
  | _, _, _, .own h1 _ _ _ _ _ r => fun i w h => by
    cases i with
    | zero => cases h; exact ⟨_, rfl, h1, List.mem_cons_self ..⟩
    | succ i =>
      obtain ⟨a, q1, q2, q3⟩ := r.ownAt i w (by simpa using h)
      exact ⟨a, by simpa using q1, q2, List.mem_cons_of_mem _ q3⟩
theorem ArgsR.injAt : ∀ {args : List R} {vs : List V} {as : List Addr}, ArgsR f g H sl σ args vs as → ∀ (i j : Nat) w w' a, args[i]? = some (w, true) → args[j]? = some (w', true) → vs[i]? = some (.ref a) → vs[j]? = some (.ref a) → i = j
  | _, _, _, .nil => fun i j w w' a h => by simp at h
  | _, _, _, .frz rv r => fun i j w w' a h1 h2 h3 h4 => by
    cases i with
    | zero => cases h1
    | succ i =>
      cases j with
      | zero => cases h2
      | succ j => exact congrArg (· + 1) (r.injAt i j w w' a (by simpa using h1) (by simpa using h2) (by simpa using h3) (by simpa using h4))
  | _, _, _, .own (a := a0) (rs := rs) (vs := vs) _ _ _ _ _ na r => fun i j w w' a h1 h2 h3 h4 => by
    have off : ∀ (k : Nat) u, rs[k]? = some (u, true) → vs[k]? = some (.ref a0) → False := fun k u q1 q2 => by
      obtain ⟨c, z1, _, z3⟩ := r.ownAt k u q1
      rw [q2] at z1
      cases z1
      exact na z3
    cases i with
    | zero =>
      cases j with
      | zero => rfl
      | succ j =>
        cases h3
        exact (off j w' (by simpa using h2) (by simpa using h4)).elim
    | succ i =>
      cases j with
      | zero =>
        cases h4
        exact (off i w (by simpa using h1) (by simpa using h3)).elim
      | succ j => exact congrArg (· + 1) (r.injAt i j w w' a (by simpa using h1) (by simpa using h2) (by simpa using h3) (by simpa using h4))
/-- the callee's frame -/
def Fm.into (f : Fm) (g : Gh) (H : Hp) (as : List Addr) : Fm := ⟨f.K, f.G, H, g, as, f.nod⟩
theorem getA {α : Type} {xs : List α} {n i : Nat} {y : α} (h : (xs.map some ++ List.replicate n none)[i]? = some (some y)) : xs[i]? = some y := by
  by_cases hi : i < xs.length
  · rw [List.getElem?_append_left (by rw [List.length_map]; exact hi), List.getElem?_map] at h
    cases e : xs[i]? with
    | none => rw [e] at h; cases h
    | some z =>
      rw [e] at h
      have h : some z = some y := Option.some.inj h
      exact h
  · rw [List.getElem?_append_right (by rw [List.length_map]; exact Nat.le_of_not_lt hi), List.getElem?_replicate] at h
    split at h <;> cases h
theorem getB {α : Type} {xs : List α} {n i : Nat} {y : α} (h : xs[i]? = some y) : (xs.map some ++ List.replicate n none)[i]? = some (some y) := by
  have hi := (List.getElem?_eq_some_iff.mp h).1
  rw [List.getElem?_append_left (by rw [List.length_map]; exact hi), List.getElem?_map, h]
  rfl
theorem Rl.into {n m : Nat} (R : Rl f g b sl σ H) (ar : ArgsR f g H sl σ args vs as) (hn : args.length + n = vs.length + m) : Rl (f.into g H as) g b (args.map some ++ List.replicate n none) (vs.map some ++ List.replicate m none) H where
  le0 := Gh.le.refl g
  sub := R.sub
  kee := fun c o h _ _ => .inl h
  tab := R.tab
  nT := R.nT
  new := fun c o h => .inl h
  dF := R.dF
  orc := R.orc
  d0 := fun c h => .inl h
  dn := R.dn
  ioS := fun c h => (ar.mem c h).1
  len := by simp only [List.length_append, List.length_map, List.length_replicate]; exact hn
  frz := fun i w h => by
    obtain ⟨v, h1, h2⟩ := ar.frzAt i w (getA h)
    exact ⟨v, getB h1, h2⟩
  own := fun i w h => by
    obtain ⟨a, h1, h2, h3⟩ := ar.ownAt i w (getA h)
    obtain ⟨_, q2, q3, _⟩ := ar.mem a h3
    exact ⟨a, getB h1, h2, q2, q3, .inr h3⟩
  inj := fun i j w w' a h1 h2 h3 h4 => ar.injAt i j w w' a (getA h1) (getA h2) (getA h3) (getA h4)
theorem le_dAdr (l : g.le g') {a : Addr} (h : a ∈ dAdr g.D) : a ∈ dAdr g'.D := by
  cases e : g.D with
  | none => rw [e] at h; exact (List.not_mem_nil h).elim
  | some d =>
    rw [l.2.1 d e]
    rw [e] at h
    exact h
theorem OrcAt.some {d : Addr × Addr × Addr} (o : OrcAt b d H) {a : Addr} (h : a ∈ dAdr (some d)) : ∃ u, H a = some u := by
  obtain ⟨cs, gs, n, h1, h2, h3, _⟩ := o.ex
  obtain ⟨m, c, l⟩ := d
  simp only [dAdr, List.mem_cons, List.not_mem_nil, or_false] at h
  rcases h with e | e | e
  · subst e; exact ⟨_, h1⟩
  · subst e; exact ⟨_, h2⟩
  · subst e; exact ⟨_, h3⟩
/-- back in the caller's frame -/
theorem Rl.back {sl' : Sl} {σ' : St} (R : Rl f g b sl σ H) (ar : ArgsR f g H sl σ args vs as) (l : g.le g') (R' : Rl (f.into g H as) g' b' sl' σ' H') : Rl f g' b' sl σ H' := by
  have nd : ∀ {c : Addr} {o : HO}, H c = some o → c ∉ dAdr g.D → c ∉ dAdr g'.D := fun {c o} h1 h2 h3 => by
    rcases R'.d0 c h3 with z | z
    · exact h2 z
    · have z : H c = none := z
      rw [h1] at z
      cases z
  have kp : ∀ {c : Addr} {o : HO}, H c = some o → c ∉ as → c ∉ dAdr g'.D → Kp o (H' c) := fun {c o} h1 h2 h3 => R'.kee c o h1 h2 h3
  exact {
    le0 := R.le0.trans l
    sub := R'.sub
    kee := fun c o h1 h2 h3 => by
      have hg : c ∉ dAdr g.D := fun z => h3 (le_dAdr l z)
      have k1 := R.kee c o h1 h2 hg
      obtain ⟨o1, e1⟩ := k1.some
      rw [e1] at k1
      refine k1.trans (kp e1 (fun z => ?_) h3)
      rcases (ar.mem c z).2.2.2.1 with y | y
      · rw [h1] at y; cases y
      · exact h2 y
    tab := R'.tab
    nT := R'.nT
    new := fun c o h => by
      rcases R'.new c o h with z | z | z | z
      · exact R.new c o z
      · exact .inr (.inl (R.free0 z))
      · exact (ar.mem c z).2.2.2.1.elim (fun y => .inr (.inl y)) fun y => .inr (.inr (.inl y))
      · exact .inr (.inr (.inr z))
    dF := R'.dF
    orc := R'.orc
    d0 := fun c h => by
      rcases R'.d0 c h with z | z
      · exact R.d0 c z
      · exact .inr (R.free0 z)
    dn := R'.dn
    ioS := fun c h => by
      obtain ⟨o, e⟩ := R.ioS c h
      by_cases h1 : c ∈ as
      · exact R'.ioS c h1
      · by_cases h2 : c ∈ dAdr g'.D
        · cases hd : g'.D with
          | none => rw [hd] at h2; exact (List.not_mem_nil h2).elim
          | some d =>
            rw [hd] at h2
            exact (R'.orc d hd).some h2
        · exact (kp e h1 h2).some
    len := R.len
    frz := fun i u h => by
      obtain ⟨v, h1, h2⟩ := R.frz i u h
      exact ⟨v, h1, h2.le l⟩
    own := fun i u h => by
      obtain ⟨c, h1, h2, h3, h4, h5⟩ := R.own i u h
      obtain ⟨o, e⟩ := h2.some
      have na : c ∉ as := fun z => (ar.mem c z).2.2.2.2 i u h h1
      have ke : ∀ o', H c = some o' → H' c = some o' := fun o' e' => (kp e' na (nd e' h4)).same (h2.soft o' e').1
      refine ⟨c, h1, h2.le l ke, ?_, nd e h4, h5⟩
      cases q : g'.F c with
      | none => rfl
      | some o' =>
        rcases R'.new c o' q with z | z | z | ⟨φ, z⟩
        · have z : g.F c = some o' := z
          rw [h3] at z; cases z
        · have z : H c = none := z
          rw [e] at z; cases z
        · exact (na z).elim
        · have y := R'.sub c o' q
          rw [ke o e] at y
          cases y
          exact ((h2.soft o e).2 φ z).elim
    inj := R.inj }
theorem Vl.back {sl' : Sl} {σ' : St} {r : R} {v : V} (R : Rl f g b sl σ H) (ar : ArgsR f g H sl σ args vs as) (vl : Vl (f.into g H as) g' H' sl' σ' r v) : Vl f g' H' sl σ r v ∧ (r.2 = true → ∀ a ∈ as, v ≠ .ref a) := by
  obtain ⟨w, fr⟩ := r
  cases fr with
  | false => exact ⟨vl, fun h => by cases h⟩
  | true =>
    obtain ⟨a, rfl, ho, hF, hD, h0, _⟩ := vl
    have h0 : H a = none := h0
    refine ⟨⟨a, rfl, ho, hF, hD, R.free0 h0, R.freeS h0⟩, fun _ c hc e => ?_⟩
    cases e
    obtain ⟨o, e⟩ := (ar.mem a hc).1
    rw [h0] at e
    cases e
end
end Ev
end
end
section
set_option Elab.async false
set_option linter.all false
set_option maxRecDepth 100000
set_option maxHeartbeats 2000000
/-! EvOv: some untracked objects (captured names' cells) are held as frozen things for the while of a call. -/
noncomputable section
namespace Ev
open PySem L2
set_option autoImplicit false
/-- laid over a heap; taken away again -/
def ov (C : Addr → Option HO) (H : Hp) : Hp := fun b => match C b with
  | some h => some h
  | none => H b
def cutC (C : Addr → Option HO) (H : Hp) : Hp := fun b => match C b with
  | some _ => none
  | none => H b
/-- frozen things, each by what is true of its object -/
def Fz (C : Addr → Option HO) : Prop := ∀ b h, C b = some h → ∃ o φ, h = .frz o (.ext φ)
section
variable {C : Addr → Option HO} {H H' : Hp} {b : Addr} {o : HO}
theorem ov_in (h : C b = some o) : ov C H b = some o := by
  unfold ov
  rw [h]
theorem ov_out (h : C b = none) : ov C H b = H b := by
  unfold ov
  rw [h]
theorem cut_in (h : C b = some o) : cutC C H b = none := by
  unfold cutC
  rw [h]
theorem cut_out (h : C b = none) : cutC C H b = H b := by
  unfold cutC
  rw [h]
theorem cut_some (h : cutC C H b = some o) : C b = none ∧ H b = some o := by
  cases e : C b with
  | none => exact ⟨rfl, (cut_out e).symm.trans h⟩
  | some u =>
    rw [cut_in e] at h
    cases h
theorem ov_some (h : ov C H b = some o) : C b = some o ∨ C b = none ∧ H b = some o := by
  cases e : C b with
  | none => exact .inr ⟨rfl, (ov_out e).symm.trans h⟩
  | some u => exact .inl ((ov_in e).symm.trans h)
theorem ov_cut (hH : ∀ c h, C c = some h → H c = some h) : ov C (cutC C H) = H := funext fun c => by
  cases e : C c with
  | none => rw [ov_out e, cut_out e]
  | some u => rw [ov_in e, hH c u e]
theorem cut_ov (hH : ∀ c h, C c = some h → H c = none) : cutC C (ov C H) = H := funext fun c => by
  cases e : C c with
  | none => rw [cut_out e, ov_out e]
  | some u => rw [cut_in e, hH c u e]
theorem fz_ne (z : Fz C) (h : C b = some o) : (∀ xs, o ≠ .tup xs) ∧ (∀ ps, o ≠ .tbl ps) ∧ (∀ a, o ≠ .own a) ∧ (∀ xs, o ≠ .lst xs) ∧ (∀ xs, o ≠ .dK xs) ∧ (∀ φ, o ≠ .ext φ) ∧ ∀ xs, o ≠ .xd xs := by
  obtain ⟨ob, φ, rfl⟩ := z b o h
  exact ⟨(by intro _ q; cases q), (by intro _ q; cases q), (by intro _ q; cases q), (by intro _ q; cases q), (by intro _ q; cases q), (by intro _ q; cases q), (by intro _ q; cases q)⟩
section
variable {P : Program} {w : World} {h : Heap}
theorem hok_cut (z : Fz C) (hC : ∀ c u, C c = some u → H c = some u) (x : HOk P w H h) : HOk P w (cutC C H) h := fun a u e => by
  obtain ⟨e1, e2⟩ := cut_some e
  refine (x a u e2).stay (fun _ _ _ q => q) (fun c q => ?_) fun c xs q => ?_
  · cases k : C c with
    | none => rw [cut_out k]; exact q
    | some u =>
      have := hC c u k
      rw [q] at this
      cases this
      exact ((fz_ne z k).2.2.1 _ rfl).elim
  · cases k : C c with
    | none => rw [cut_out k]; exact q
    | some u =>
      have := hC c u k
      rw [q] at this
      cases this
      exact ((fz_ne z k).1 _ rfl).elim
theorem hok_ov (n : ∀ c u, C c = some u → H c = none) (ho : ∀ c ob φ, C c = some (.frz ob (.ext φ)) → h.get? c = some ob ∧ φ h ∧ ∀ h1 h2 : Heap, φ h1 → (∀ o, h1.get? c = some o → h2.get? c = some o) → φ h2) (z : Fz C) (x : HOk P w H h) : HOk P w (ov C H) h := fun a u e => by
  rcases ov_some e with e | ⟨e1, e2⟩
  · obtain ⟨ob, φ, rfl⟩ := z a u e
    obtain ⟨h1, h2, h3⟩ := ho a ob φ e
    exact ⟨h1, h2, ⟨ob, h1⟩, h3⟩
  · refine (x a u e2).stay (fun _ _ _ q => q) (fun c q => ?_) fun c xs q => ?_
    · cases k : C c with
      | none => rw [ov_out k]; exact q
      | some u =>
        rw [n c u k] at q
        cases q
    · cases k : C c with
      | none => rw [ov_out k]; exact q
      | some u =>
        rw [n c u k] at q
        cases q
end
/-- a call over the heap with the frozen things, seen from without -/
theorem un_cut {fs : List Addr} {h h' : Heap} {P : Program} {w : World} (n : ∀ c u, C c = some u → H c = none) (z : Fz C) (ho : ∀ c ob φ, C c = some (.frz ob (.ext φ)) → h.get? c = some ob) (hok : HOk P w H' h') (u : Un fs [] (ov C H) H' h h') : Un fs [] H (cutC C H') h h' := by
  have fr : ∀ c ob, h.get? c = some ob → ∀ u', C c = some u' → h'.get? c = some ob := fun c ob e u' k => by
    obtain ⟨o2, φ, rfl⟩ := z c u' k
    have e2 := ho c o2 φ k
    rw [e] at e2
    cases e2
    exact (hok c _ (u.frzs c ob (.ext φ) (ov_in k))).1
  exact {
    keep := fun c ob e nc hc hx => by
      cases k : C c with
      | none => exact u.keep c ob e (by rw [ov_out k]; exact nc) hc hx
      | some v => exact fr c ob e v k
    slot := fun c ob e nc hc hx => by
      cases k : C c with
      | none => exact u.slot c ob e (by rw [ov_out k]; exact nc) hc hx
      | some v => exact ⟨ob.slots, fr c ob e v k⟩
    free := fun c ob e nc hx => by
      cases k : C c with
      | none =>
        rw [cut_out k]
        exact u.free c ob e (by rw [ov_out k]; exact nc) hx
      | some v => exact cut_in k
    there := u.there
    tups := fun c xs e => by
      have k : C c = none := by
        cases k : C c with
        | none => rfl
        | some v => rw [n c v k] at e; cases e
      rw [cut_out k]
      exact u.tups c xs (by rw [ov_out k]; exact e)
    frzs := fun c ob v e => by
      have k : C c = none := by
        cases k : C c with
        | none => rfl
        | some v => rw [n c v k] at e; cases e
      rw [cut_out k]
      exact u.frzs c ob v (by rw [ov_out k]; exact e)
    tbls := fun c ps e => by
      have k : C c = none := by
        cases k : C c with
        | none => rfl
        | some v => rw [n c v k] at e; cases e
      rw [cut_out k]
      exact u.tbls c ps (by rw [ov_out k]; exact e) }
/-- a call over the heap without the frozen things, seen from where they are held -/
theorem un_ov {fs : List Addr} {h h' : Heap} (hH : ∀ c u, C c = some u → H c = some u) (z : Fz C) (u : Un fs [] (cutC C H) H' h h') : Un fs [] H (ov C H') h h' := {
    keep := fun c ob e nc hc hx => by
      have k : C c = none := by
        cases k : C c with
        | none => rfl
        | some v => rw [hH c v k] at nc; cases nc
      exact u.keep c ob e (by rw [cut_out k]; exact nc) hc hx
    slot := fun c ob e nc hc hx => by
      have k : C c = none := by
        cases k : C c with
        | none => rfl
        | some v => rw [hH c v k] at nc; cases nc
      exact u.slot c ob e (by rw [cut_out k]; exact nc) hc hx
    free := fun c ob e nc hx => by
      have k : C c = none := by
        cases k : C c with
        | none => rfl
        | some v => rw [hH c v k] at nc; cases nc
      rw [ov_out k]
      exact u.free c ob e (by rw [cut_out k]; exact nc) hx
    there := u.there
    tups := fun c xs e => by
      cases k : C c with
      | none =>
        rw [ov_out k]
        exact u.tups c xs (by rw [cut_out k]; exact e)
      | some v =>
        have := hH c v k
        rw [e] at this
        cases this
        exact ((fz_ne z k).1 _ rfl).elim
    frzs := fun c ob v e => by
      cases k : C c with
      | none =>
        rw [ov_out k]
        exact u.frzs c ob v (by rw [cut_out k]; exact e)
      | some y =>
        have := hH c y k
        rw [e] at this
        rw [ov_in k, this]
    tbls := fun c ps e => by
      cases k : C c with
      | none =>
        rw [ov_out k]
        exact u.tbls c ps (by rw [cut_out k]; exact e)
      | some v =>
        have := hH c v k
        rw [e] at this
        cases this
        exact ((fz_ne z k).2.1 _ rfl).elim }
theorem ub_ov {fs : List Addr} {h B h' : Heap} (hH : ∀ c u, C c = some u → H c = some u) (z : Fz C) (u : UB fs (cutC C H) H' h B h') : UB fs H (ov C H') h B h' := {
    keep := fun c ob e nc hc => by
      have k : C c = none := by
        cases k : C c with
        | none => rfl
        | some v => rw [hH c v k] at nc; cases nc
      exact u.keep c ob e (by rw [cut_out k]; exact nc) hc
    slot := u.slot
    free := fun c ob e nc => by
      have k : C c = none := by
        cases k : C c with
        | none => rfl
        | some v => rw [hH c v k] at nc; cases nc
      rw [ov_out k]
      exact u.free c ob e (by rw [cut_out k]; exact nc)
    there := u.there
    tups := fun c xs e => by
      cases k : C c with
      | none =>
        rw [ov_out k]
        exact u.tups c xs (by rw [cut_out k]; exact e)
      | some v =>
        have := hH c v k
        rw [e] at this
        cases this
        exact ((fz_ne z k).1 _ rfl).elim
    frzs := fun c ob v e => by
      cases k : C c with
      | none =>
        rw [ov_out k]
        exact u.frzs c ob v (by rw [cut_out k]; exact e)
      | some y =>
        have := hH c y k
        rw [e] at this
        rw [ov_in k, this]
    tbls := fun c ps e => by
      cases k : C c with
      | none =>
        rw [ov_out k]
        exact u.tbls c ps (by rw [cut_out k]; exact e)
      | some v =>
        have := hH c v k
        rw [e] at this
        cases this
        exact ((fz_ne z k).2.1 _ rfl).elim }
end
/-! ### the evaluator's part -/
def Gh.ov (g : Gh) (C : Addr → Option HO) : Gh := ⟨Ev.ov C g.F, g.D, g.E⟩
def Gh.cut (g : Gh) (C : Addr → Option HO) : Gh := ⟨cutC C g.F, g.D, g.E⟩
section
variable {C : Addr → Option HO} {f : Fm} {g g' : Gh} {b b' : Nat} {sl sl' : Sl} {σ σ' : St} {H H' : Hp}
theorem tabs_ov {T : List (Addr × Str)} (n : ∀ c u, C c = some u → H c = none) (t : LamX.Tabs T H) : LamX.Tabs T (ov C H) := t.ext fun c o e => by
  cases k : C c with
  | none => rw [ov_out k]; exact e
  | some v => rw [n c v k] at e; cases e
theorem tabs_cut {T : List (Addr × Str)} (hH : ∀ c u, C c = some u → H c = some u) (z : Fz C) (t : LamX.Tabs T H) : LamX.Tabs T (cutC C H) := fun p hp => by
  obtain ⟨ps, h1, h2, h3⟩ := t p hp
  have out : ∀ c o, H c = some o → ((∃ ps, o = .tbl ps) ∨ ∃ φ, o = .ext φ) → cutC C H c = some o := fun c o e q => by
    cases k : C c with
    | none => rw [cut_out k]; exact e
    | some v =>
      have := hH c v k
      rw [e] at this
      cases this
      rcases q with ⟨ps, q⟩ | ⟨φ, q⟩
      · exact ((fz_ne z k).2.1 ps q).elim
      · exact ((fz_ne z k).2.2.2.2.2.1 φ q).elim
  refine ⟨ps, out _ _ h1 (.inl ⟨_, rfl⟩), h2, fun pos cv hc => ?_⟩
  obtain ⟨c, e1, e2⟩ := h3 pos cv hc
  exact ⟨c, e1, out _ _ e2 (.inr ⟨_, rfl⟩)⟩
theorem le_ov (hF : ∀ c u, C c = some u → g.F c = none) : g.le (g.ov C) := by
  refine ⟨fun c u e => ?_, fun _ h => h, rfl⟩
  cases k : C c with
  | none =>
    show Ev.ov C g.F c = some u
    rw [ov_out k]
    exact e
  | some v =>
    rw [hF c v k] at e
    cases e
mutual
/-- without lambdas, the frozen things aren't leant on -/
theorem RV.cut {K : PySem.W.Frag} {G : Gx} (z : Fz C) (hF : ∀ c u, C c = some u → g.F c = some u) : ∀ {w : W} {v : V}, RV K G g w v → noClo w = true → RV K G (g.cut C) w v
  | _, _, .non, _ => .non
  | _, _, .bl b, _ => .bl b
  | _, _, .int i, _ => .int i
  | _, _, .str x, _ => .str x
  | _, _, .rpr d, _ => .rpr d
  | _, _, .tup (a := a) (vs := vs) q r, n => .tup (by
      rcases q with q | q
      · refine .inl ?_
        rcases q with q | ⟨o, q⟩
        · refine .inl ?_
          show cutC C g.F a = _
          cases k : C a with
          | none => rw [cut_out k]; exact q
          | some u =>
            have := hF a u k
            rw [q] at this
            cases this
            exact ((fz_ne z k).1 _ rfl).elim
        · refine .inr ⟨o, ?_⟩
          show cutC C g.F a = _
          cases k : C a with
          | none => rw [cut_out k]; exact q
          | some u =>
            have e := hF a u k
            rw [q] at e
            cases e
            obtain ⟨_, _, e⟩ := z a _ k
            cases e
      · exact .inr q) (RVs.cut z hF r n)
  | _, _, .lst (a := a) (vs := vs) q r, n => .lst (by
      show cutC C g.F a = _
      cases k : C a with
      | none => rw [cut_out k]; exact q
      | some u =>
        have := hF a u k
        rw [q] at this
        cases this
        exact ((fz_ne z k).2.2.2.1 _ rfl).elim) (RVs.cut z hF r n)
  | _, _, .scr (a := a) q e, _ => .scr (by
      rcases q with q | q
      · refine .inl ?_
        rcases q with q | ⟨o, q⟩
        · refine .inl ?_
          show cutC C g.F a = _
          cases k : C a with
          | none => rw [cut_out k]; exact q
          | some u =>
            have := hF a u k
            rw [q] at this
            cases this
            exact ((fz_ne z k).2.2.2.1 _ rfl).elim
        · refine .inr ⟨o, ?_⟩
          show cutC C g.F a = _
          cases k : C a with
          | none => rw [cut_out k]; exact q
          | some u =>
            have e := hF a u k
            rw [q] at e
            cases e
            obtain ⟨_, _, e⟩ := z a _ k
            cases e
      · exact .inr q) e
  | _, _, .dct (a := a) q r, n => .dct (by
      show cutC C g.F a = _
      cases k : C a with
      | none => rw [cut_out k]; exact q
      | some u =>
        have := hF a u k
        rw [q] at this
        cases this
        exact ((fz_ne z k).2.2.2.2.1 _ rfl).elim) (RVk.cut z hF r n)
  | _, _, .fn h, _ => .fn h
  | _, _, .orc h, _ => .orc h
  | _, _, .clo _ _ _ _ _ _ _ _ _, n => by cases n
  | _, _, .clr _ _ _ _ _ _ _ _, n => by cases n
  | _, _, .err (a := a) h1 h2 h3 h4 h5 h6 r, n => .err h1 (by
      show cutC C g.F a = _
      cases k : C a with
      | none => rw [cut_out k]; exact h2
      | some u =>
        have := hF a u k
        rw [h2] at this
        cases this
        exact ((fz_ne z k).2.2.2.2.2.1 _ rfl).elim) (by
      rcases h3 with h3 | ⟨dd, e3, h3⟩
      · exact .inl h3
      refine .inr ⟨dd, e3, ?_⟩
      show cutC C g.F dd = _
      cases k : C dd with
      | none => rw [cut_out k]; exact h3
      | some u =>
        have := hF dd u k
        rw [h3] at this
        cases this
        exact ((fz_ne z k).2.2.2.2.2.2 _ rfl).elim) h4 h5 h6 (RVs.cut z hF r n)
theorem RVs.cut {K : PySem.W.Frag} {G : Gx} (z : Fz C) (hF : ∀ c u, C c = some u → g.F c = some u) : ∀ {w : List W} {v : List V}, RVs K G g w v → noCloL w = true → RVs K G (g.cut C) w v
  | _, _, .nil, _ => .nil
  | _, _, .cons a r, n => by
    have n : (noClo _ && noCloL _) = true := n
    rw [Bool.and_eq_true] at n
    exact .cons (RV.cut z hF a n.1) (RVs.cut z hF r n.2)
theorem RVk.cut {K : PySem.W.Frag} {G : Gx} (z : Fz C) (hF : ∀ c u, C c = some u → g.F c = some u) : ∀ {w : List (Ky × W)} {v : List (Key × V)}, RVk K G g w v → noCloK w = true → RVk K G (g.cut C) w v
  | _, _, .nil, _ => .nil
  | _, _, .cons a r, n => by
    have n : (noClo _ && noCloK _) = true := n
    rw [Bool.and_eq_true] at n
    exact .cons (RV.cut z hF a n.1) (RVk.cut z hF r n.2)
end
end
end Ev
end
end
section
set_option Elab.async false
set_option linter.all false
set_option maxRecDepth 100000
set_option maxHeartbeats 2000000
/-! EvOv2: frames over such heaps. -/
noncomputable section
namespace Ev
open PySem L2
set_option autoImplicit false
variable {C : Addr → Option HO} {f : Fm} {g g' : Gh} {b b' : Nat} {sl sl' : Sl} {σ σ' : St} {H H' : Hp}
theorem dA_some (R : Rl f g b sl σ H) {a : Addr} (h : a ∈ dAdr g.D) : ∃ o, H a = some o := by
  cases hd : g.D with
  | none => rw [hd] at h; exact (List.not_mem_nil h).elim
  | some d =>
    rw [hd] at h
    exact (R.orc d hd).some h
theorem orc_of {d : Addr × Addr × Addr} {H H' : Hp} (o : OrcAt b d H) (e : ∀ a ∈ dAdr (some d), H' a = H a) : OrcAt b d H' := o.le (Nat.le_refl _) fun a h x q => by rw [e a h]; exact q
/-- a call's frame, nothing handed over, over a heap with frozen things -/
theorem Rl.ov (R : Rl f g b sl σ H) (z : Fz C) (n : ∀ c u, C c = some u → H c = none) : Rl (f.into (g.ov C) (Ev.ov C H) []) (g.ov C) b [] [] (Ev.ov C H) := by
  have nF : ∀ c u, C c = some u → g.F c = none := fun c u k => R.freeF (n c u k)
  have out : ∀ {a : Addr} {o : HO}, H a = some o → C a = none := fun {a o} e => by
    cases k : C a with
    | none => rfl
    | some u => rw [n a u k] at e; cases e
  exact {
    le0 := Gh.le.refl _
    sub := fun a o e => by
      have e : Ev.ov C g.F a = some o := e
      rcases ov_some e with e | ⟨k, e⟩
      · exact ov_in e
      · rw [ov_out k]; exact R.sub a o e
    kee := fun c o h _ _ => .inl h
    tab := tabs_ov n R.tab
    new := fun c o h => .inl h
    nT := fun a ps e => by
      have e : Ev.ov C g.F a = some (.tbl ps) := e
      rcases ov_some e with e | ⟨k, e⟩
      · exact (fz_ne z e).2.1 ps rfl
      · exact R.nT a ps e
    dF := fun a h => by
      obtain ⟨o, e⟩ := dA_some R h
      show Ev.ov C g.F a = none
      rw [ov_out (out e)]
      exact R.dF a h
    orc := fun d hd => orc_of (R.orc d hd) fun a ha => by
      obtain ⟨o, e⟩ := (R.orc d hd).some ha
      exact ov_out (out e)
    d0 := fun c h => .inl h
    dn := R.dn
    ioS := fun c h => (List.not_mem_nil h).elim
    len := rfl
    frz := fun i w h => by simp at h
    own := fun i w h => by simp at h
    inj := fun i j w w' a h => by simp at h }
/-- behind it -/
theorem Rl.unov (R : Rl f g b sl σ H) (z : Fz C) (n : ∀ c u, C c = some u → H c = none) (l : (g.ov C).le g') (R' : Rl (f.into (g.ov C) (Ev.ov C H) []) g' b' sl' σ' H') :
    g.le (g'.cut C) ∧ Rl f (g'.cut C) b' sl σ (cutC C H') ∧ (∀ c u, C c = some u → g'.F c = some u) := by
  have nF : ∀ c u, C c = some u → g.F c = none := fun c u k => R.freeF (n c u k)
  have out : ∀ {a : Addr} {o : HO}, H a = some o → C a = none := fun {a o} e => by
    cases k : C a with
    | none => rfl
    | some u => rw [n a u k] at e; cases e
  have hF : ∀ c u, C c = some u → g'.F c = some u := fun c u k => l.1 c u (ov_in k)
  have l1 : g.le (g'.cut C) := ⟨fun a o e => by
    show cutC C g'.F a = some o
    have k : C a = none := out (R.sub a o e)
    rw [cut_out k]
    exact l.1 a o (by show Ev.ov C g.F a = some o; rw [ov_out k]; exact e), fun d hd => l.2.1 d hd, l.2.2⟩
  have R2 : Rl (f.into g H []) (g'.cut C) b' [] [] (cutC C H') := {
    le0 := l1
    sub := fun a o e => by
      obtain ⟨k, e⟩ := cut_some e
      rw [cut_out k]
      exact R'.sub a o e
    kee := fun a o e1 e2 e3 => by
      have e1 : H a = some o := e1
      have k := out e1
      rw [cut_out k]
      exact R'.kee a o (by show Ev.ov C H a = some o; rw [ov_out k]; exact e1) e2 e3
    tab := tabs_cut (fun c u k => R'.sub c u (hF c u k)) z R'.tab
    new := fun a o e => by
      obtain ⟨k, e⟩ := cut_some e
      rcases R'.new a o e with y | y | y | y
      · have y : Ev.ov C g.F a = some o := y
        rw [ov_out k] at y
        exact .inl y
      · have y : Ev.ov C H a = none := y
        rw [ov_out k] at y
        exact .inr (.inl y)
      · exact (List.not_mem_nil y).elim
      · exact .inr (.inr (.inr y))
    nT := fun a ps e => by
      obtain ⟨k, e⟩ := cut_some e
      exact R'.nT a ps e
    dF := fun a h => by
      show cutC C g'.F a = none
      cases k : C a with
      | none => rw [cut_out k]; exact R'.dF a h
      | some u => exact cut_in k
    orc := fun d hd => orc_of (R'.orc d hd) fun a ha => by
      refine cut_out ?_
      cases k : C a with
      | none => rfl
      | some u =>
        have y := hF a u k
        rw [R'.dF a (by rw [show g'.D = some d from hd]; exact ha)] at y
        cases y
    d0 := fun a h => by
      rcases R'.d0 a h with y | y
      · exact .inl y
      · have y : Ev.ov C H a = none := y
        refine .inr ?_
        show H a = none
        cases e : H a with
        | none => rfl
        | some o =>
          rw [ov_out (out e), e] at y
          cases y
    dn := R'.dn
    ioS := fun a h => (List.not_mem_nil h).elim
    len := rfl
    frz := fun i w h => by simp at h
    own := fun i w h => by simp at h
    inj := fun i j w w' a h => by simp at h }
  exact ⟨l1, R.back .nil l1 R2, hF⟩
/-- a lambda's frame, over the heap without what it captured -/
theorem Rl.cut (R : Rl f g b sl σ H) (z : Fz C) (hF : ∀ c u, C c = some u → g.F c = some u) (hl : sl'.length = σ'.length) (hs : ∀ (i : Nat) w, sl'[i]? = some (some w) → w.2 = false ∧ ∃ v, σ'[i]? = some (some v) ∧ RV f.K f.G (g.cut C) w.1 v) :
    Rl (f.into (g.cut C) (cutC C H) []) (g.cut C) b sl' σ' (cutC C H) := {
  le0 := Gh.le.refl _
  sub := fun a o e => by
    obtain ⟨k, e⟩ := cut_some e
    rw [cut_out k]
    exact R.sub a o e
  kee := fun c o h _ _ => .inl h
  tab := tabs_cut (fun c u k => R.sub c u (hF c u k)) z R.tab
  new := fun c o h => .inl h
  nT := fun a ps e => by
    obtain ⟨k, e⟩ := cut_some e
    exact R.nT a ps e
  dF := fun a h => by
    show cutC C g.F a = none
    cases k : C a with
    | none => rw [cut_out k]; exact R.dF a h
    | some u => exact cut_in k
  orc := fun d hd => orc_of (R.orc d hd) fun a ha => by
    refine cut_out ?_
    cases k : C a with
    | none => rfl
    | some u =>
      have y := hF a u k
      rw [R.dF a (by rw [show g.D = some d from hd]; exact ha)] at y
      cases y
  d0 := fun c h => .inl h
  dn := R.dn
  ioS := fun c h => (List.not_mem_nil h).elim
  len := hl
  frz := fun i w h => (hs i _ h).2
  own := fun i w h => by
    have := (hs i _ h).1
    cases this
  inj := fun i j w w' a h => by
    have := (hs i _ h).1
    cases this }
/-- behind it -/
theorem Rl.uncut (R : Rl f g b sl σ H) (z : Fz C) (hF : ∀ c u, C c = some u → g.F c = some u) (nH : ∀ c u, C c = some u → H' c = none) (l : (g.cut C).le g') (R' : Rl (f.into (g.cut C) (cutC C H) []) g' b' sl' σ' H') :
    g.le (g'.ov C) ∧ g'.le (g'.ov C) ∧ Rl f (g'.ov C) b' sl σ (Ev.ov C H') := by
  have nF : ∀ c u, C c = some u → g'.F c = none := fun c u k => R'.freeF (nH c u k)
  have l1 : g.le (g'.ov C) := ⟨fun a o e => by
    show Ev.ov C g'.F a = some o
    cases k : C a with
    | none =>
      rw [ov_out k]
      exact l.1 a o (by show cutC C g.F a = some o; rw [cut_out k]; exact e)
    | some u =>
      have := hF a u k
      rw [e] at this
      rw [ov_in k, this], fun d hd => l.2.1 d hd, l.2.2⟩
  have outD : ∀ a ∈ dAdr g'.D, C a = none := fun a ha => by
    cases k : C a with
    | none => rfl
    | some u =>
      obtain ⟨o, e⟩ := dA_some R' ha
      rw [nH a u k] at e
      cases e
  have R2 : Rl (f.into g H []) (g'.ov C) b' [] [] (Ev.ov C H') := {
    le0 := l1
    sub := fun a o e => by
      have e : Ev.ov C g'.F a = some o := e
      rcases ov_some e with e | ⟨k, e⟩
      · exact ov_in e
      · rw [ov_out k]; exact R'.sub a o e
    kee := fun a o e1 e2 e3 => by
      have e1 : H a = some o := e1
      cases k : C a with
      | none =>
        rw [ov_out k]
        exact R'.kee a o (by show cutC C H a = some o; rw [cut_out k]; exact e1) e2 e3
      | some u =>
        have := R.sub a u (hF a u k)
        rw [e1] at this
        cases this
        rw [ov_in k]
        exact .inl rfl
    tab := tabs_ov nH R'.tab
    new := fun a o e => by
      have e : Ev.ov C g'.F a = some o := e
      rcases ov_some e with e | ⟨k, e⟩
      · exact .inl (hF a o e)
      · rcases R'.new a o e with y | y | y | y
        · exact .inl (cut_some y).2
        · have y : cutC C H a = none := y
          rw [cut_out k] at y
          exact .inr (.inl y)
        · exact (List.not_mem_nil y).elim
        · exact .inr (.inr (.inr y))
    nT := fun a ps e => by
      have e : Ev.ov C g'.F a = some (.tbl ps) := e
      rcases ov_some e with e | ⟨k, e⟩
      · exact (fz_ne z e).2.1 ps rfl
      · exact R'.nT a ps e
    dF := fun a h => by
      show Ev.ov C g'.F a = none
      rw [ov_out (outD a h)]
      exact R'.dF a h
    orc := fun d hd => orc_of (R'.orc d hd) fun a ha => ov_out (outD a (by rw [show g'.D = some d from hd]; exact ha))
    d0 := fun a h => by
      rcases R'.d0 a h with y | y
      · exact .inl y
      · have y : cutC C H a = none := y
        rw [cut_out (outD a h)] at y
        exact .inr y
    dn := R'.dn
    ioS := fun a h => (List.not_mem_nil h).elim
    len := rfl
    frz := fun i w h => by simp at h
    own := fun i w h => by simp at h
    inj := fun i j w w' a h => by simp at h }
  exact ⟨l1, le_ov nF, R.back .nil l1 R2⟩
end Ev
end
end
section
set_option Elab.async false
set_option linter.all false
set_option maxRecDepth 100000
set_option maxHeartbeats 2000000
/-! EvEn: what is known, with another frame's cells. -/
noncomputable section
namespace Ev
open PySem PySem.Spec L2
set_option autoImplicit false
def Gh.en (g : Gh) (e : Nat → Option (Str × Addr)) : Gh := ⟨g.F, g.D, e⟩
def Fm.en (f : Fm) (e : Nat → Option (Str × Addr)) : Fm := ⟨f.K, f.G, f.H0, f.g0.en e, f.IO, f.nod⟩
section
variable {f : Fm} {g g' : Gh} {b b' : Nat} {sl : Sl} {σ : St} {H H' : Hp} {e : Nat → Option (Str × Addr)}
mutual
theorem RV.en {K : PySem.W.Frag} {G : Gx} : ∀ {w : W} {v : V}, RV K G g w v → noClo w = true → RV K G (g.en e) w v
  | _, _, .non, _ => .non
  | _, _, .bl b, _ => .bl b
  | _, _, .int i, _ => .int i
  | _, _, .str x, _ => .str x
  | _, _, .rpr d, _ => .rpr d
  | _, _, .tup q r, n => .tup q (RVs.en r n)
  | _, _, .lst q r, n => .lst q (RVs.en r n)
  | _, _, .dct q r, n => .dct q (RVk.en r n)
  | _, _, .fn h, _ => .fn h
  | _, _, .orc h, _ => .orc h
  | _, _, .scr h e, _ => .scr h e
  | _, _, .clo _ _ _ _ _ _ _ _ _, n => by cases n
  | _, _, .clr _ _ _ _ _ _ _ _, n => by cases n
  | _, _, .err h1 h2 h3 h4 h5 h6 r, n => .err h1 h2 h3 h4 h5 h6 (RVs.en r n)
theorem RVs.en {K : PySem.W.Frag} {G : Gx} : ∀ {w : List W} {v : List V}, RVs K G g w v → noCloL w = true → RVs K G (g.en e) w v
  | _, _, .nil, _ => .nil
  | _, _, .cons a r, n => by
    have n : (noClo _ && noCloL _) = true := n
    rw [Bool.and_eq_true] at n
    exact .cons (RV.en a n.1) (RVs.en r n.2)
theorem RVk.en {K : PySem.W.Frag} {G : Gx} : ∀ {w : List (Ky × W)} {v : List (Key × V)}, RVk K G g w v → noCloK w = true → RVk K G (g.en e) w v
  | _, _, .nil, _ => .nil
  | _, _, .cons a r, n => by
    have n : (noClo _ && noCloK _) = true := n
    rw [Bool.and_eq_true] at n
    exact .cons (RV.en a n.1) (RVk.en r n.2)
end
theorem OA.en {K : PySem.W.Frag} {G : Gx} {w : W} {a : Addr} (h : OA K G g H w a) (n : noClo w = true) : OA K G (g.en e) H w a := by
  cases w <;> first
    | exact h.elim
    | (obtain ⟨vs, h1, h2⟩ := h
       first
         | exact ⟨vs, h1, RVs.en h2 n⟩
         | exact ⟨vs, h1, RVk.en h2 n⟩)
theorem le_en (l : g.le g') : (g.en e).le (g'.en e) := ⟨l.1, l.2.1, rfl⟩
theorem le_unen (l : (g.en e).le g') : g.le (g'.en g.E) := ⟨l.1, l.2.1, rfl⟩
theorem Rl.en (R : Rl f g b sl σ H) (n : ∀ (i : Nat) w fr, sl[i]? = some (some (w, fr)) → noClo w = true) : Rl (f.en e) (g.en e) b sl σ H where
  le0 := le_en R.le0
  sub := R.sub
  kee := R.kee
  tab := R.tab
  new := R.new
  nT := R.nT
  dF := R.dF
  orc := R.orc
  d0 := R.d0
  dn := R.dn
  ioS := R.ioS
  len := R.len
  frz := fun i w h => by
    obtain ⟨v, h1, h2⟩ := R.frz i w h
    exact ⟨v, h1, h2.en (n i w _ h)⟩
  own := fun i w h => by
    obtain ⟨a, h1, h2, h3⟩ := R.own i w h
    exact ⟨a, h1, h2.en (n i w _ h), h3⟩
  inj := R.inj
/-- back to the cells of before -/
theorem Rl.unen {as : List Addr} {H0 : Hp} (R : Rl ((f.into g H0 as).en e) g' b sl σ H) : Rl (f.into g H0 as) (g'.en g.E) b [] [] H :=
  R.bare.en (e := g.E) fun i w fr h => by simp at h
theorem noClo_at : ∀ {ws : List W} {i : Nat} {w : W}, noCloL ws = true → ws[i]? = some w → noClo w = true
  | [], _, _, _, h => by simp at h
  | z :: zs, 0, w, n, h => by
    have n : (noClo z && noCloL zs) = true := n
    rw [Bool.and_eq_true] at n
    have h : z = w := by simpa using h
    rw [← h]
    exact n.1
  | z :: zs, i + 1, w, n, h => by
    have n : (noClo z && noCloL zs) = true := n
    rw [Bool.and_eq_true] at n
    exact noClo_at n.2 (by simpa using h)
theorem XR.en {K : PySem.W.Frag} {G : Gx} {c : Nat} {fs : List W} {cls : Value} {d : Option Addr} (x : XR K G g c fs cls d) (n : noCloL fs = true) : XR K G (g.en e) c fs cls d := by
  obtain ⟨C, dd, nm, x, xs, h1, h2, h3, h4, h5, h6, h7⟩ := x
  refine ⟨C, dd, nm, x, xs, h1, h2, h3, h4, h5, h6, fun i w y e1 e2 => ?_⟩
  obtain ⟨v, a, b⟩ := h7 i w y e1 e2
  exact ⟨v, a, b.en (noClo_at n e1)⟩
theorem Vl.unen {as : List Addr} {H0 : Hp} {r : R} {v : V} (vl : Vl ((f.into g H0 as).en e) g' H sl σ r v) (n : noClo r.1 = true) : Vl (f.into g H0 as) (g'.en g.E) H sl σ r v := by
  obtain ⟨w, fr⟩ := r
  cases fr with
  | false => exact RV.en vl n
  | true =>
    obtain ⟨a, rfl, oa, v1, v2, v3, v4⟩ := vl
    exact ⟨a, rfl, oa.en n, v1, v2, v3, v4⟩
theorem TmR.en : ∀ {as : List Addr} {ws : List W}, TmR f g H as ws → noCloL ws = true → TmR f (g.en e) H as ws
  | _, _, .nil, _ => .nil
  | _, _, .cons h1 h2 h3 r, n => by
    have n : (noClo _ && noCloL _) = true := n
    rw [Bool.and_eq_true] at n
    exact .cons (h1.en n.1) h2 h3 (TmR.en r n.2)
end
end Ev
end
end
section
set_option Elab.async false
set_option linter.all false
set_option maxRecDepth 100000
set_option maxHeartbeats 2000000
/-! EvMk: a lambda is made. -/
noncomputable section
namespace Ev
open PySem PySem.Spec L2
set_option autoImplicit false
section
variable {X : Cx} {pins : List (Addr × Obj)} {σ : St} {H : Hp} {s : Shared} {f : Fm} {m : Lm}
theorem kp_refl (H : Hp) : ∀ a o, H a = some o → Kp o (H a) := fun a o e => .inl e
theorem kp_trans {H H1 H2 : Hp} (a : ∀ c o, H c = some o → Kp o (H1 c)) (b : ∀ c o, H1 c = some o → Kp o (H2 c)) : ∀ c o, H c = some o → Kp o (H2 c) := fun c o e => by
  have k := a c o e
  obtain ⟨o1, e1⟩ := k.some
  rw [e1] at k
  exact k.trans (b c o1 e1)
theorem kp_upd {H : Hp} {a : Addr} {u : HO} (n : H a = none) : ∀ c o, H c = some o → Kp o (upd H a u c) := fun c o e => by
  rw [upd_ne (ne_of_none e n)]
  exact .inl e
abbrev lamQ (X : Cx) : Str := X.env.qual ++ "<lambda>"
/-- the function object -/
theorem mk_tail (I : Inv X pins σ H s) (ho : HearOk X f) (tab : LamX.Tabs f.G.tabs H) (hfree : ∀ y ∈ m.scope.names, y.2 = .free → ∃ c, X.env.cells.lookup y.1 = some c) {dV : Value} {pos : Pos} {fl : Nat} {Q : Value → Shared → Prop} {E : Value → Shared → Prop}
    (h : ∀ (fL c' : Addr) (doc pm ctv : Value) (H1 : Hp) (s1 : Shared), Inv X pins σ H1 s1 → (∀ a o, H a = some o → Kp o (H1 a)) → LamX.Tabs f.G.tabs H1 → H fL = none → s.heap.objs.size ≤ fL → H1 fL = some (.frz (lamO m (lamQ X) dV doc (cloFrom X.env.cells m.scope.names []) pm c' ctv) (.ext fun _ => True)) → H1 c' = some (LamX.CodeO c' (lamQ X)) → Q (.ref fL) s1) :
    wpAny (model X.prog X.w) X.A (makeTail "<lambda>" (lamQ X) m.params (.expr m.body) m.scope X.env dV .none none pos fl) Q E s := by
  obtain ⟨⟨c, P, hcode, TB, hmT, hu⟩, _, _, _, _, _⟩ := ho
  obtain ⟨ps, hP, ht, ha⟩ := tab _ hmT
  have hP' : s.heap.get? P = some { cls := .none, data := .fields ps } := I.hok P _ hP
  have bP : s.heap.BuiltinsAt X.mg P := TB.bm.keeps I.bk
  cases hc : codeAmong pos ps.toList with
  | none =>
    refine PySem.W.kdv_makeTail (mg := X.mg) (c := c) (P := P) (ps := ps) (closure_ok hfree) I.ok.glob (I.mod.glob.keeps I.bk) hcode (TB.code.keeps I.bk) hP' ht hc TB.gP bP fun c' ctv doc h' tk hx hge hlt hrec htb => ?_
    obtain ⟨c2, oc, vs, t, e2, hoc, hd, hv⟩ := hrec
    cases e2
    have sz : s.heap.objs.size ≤ h'.objs.size := Nat.le_trans hge (Nat.le_of_lt hlt)
    have nC : H c' = none := I.hok.fresh hge
    have nF : H h'.objs.size = none := I.hok.fresh sz
    have I1 := LamX.inv_table (t' := tk) (more := #[rawInt pos.line, rawInt pos.col, .ref c']) (q := lamQ X) I hP (fun b o hb e => hx b o hb e) htb hge ⟨oc, vs, t, hoc, hd, hv⟩
    generalize hH1 : upd (upd H P (.tbl (ps ++ #[rawInt pos.line, rawInt pos.col, .ref c']))) c' (LamX.CodeO c' (lamQ X)) = H1 at I1
    have nPc : P ≠ c' := ne_of_none hP nC
    have k1 : ∀ a o, H a = some o → Kp o (H1 a) := fun a o e => by
      subst hH1
      rw [upd_ne (ne_of_none e nC)]
      by_cases hb : a = P
      · subst hb
        rw [upd_same]
        rw [hP] at e
        cases e
        exact .inr ⟨_, _, rfl, rfl⟩
      · rw [upd_ne hb]
        exact .inl e
    have nF1 : H1 h'.objs.size = none := I1.hok.fresh (Nat.le_refl _)
    have I2 := I1.laid (a := h'.objs.size) (o := .frz (lamO m (lamQ X) dV doc (cloFrom X.env.cells m.scope.names []) ((X.mg "__name__").getD .none) c' ctv) (.ext fun _ => True)) (t' := tk) (h' := h'.push (lamO m (lamQ X) dV doc (cloFrom X.env.cells m.scope.names []) ((X.mg "__name__").getD .none) c' ctv))
      (fun b o e => Heap.get?_push_of_some _ e) (Nat.le_refl _) ⟨Heap.get?_push_size _ rfl, trivial, ⟨_, Heap.get?_push_size _ rfl⟩, fun _ _ _ _ => trivial⟩
    refine h h'.objs.size c' doc _ ctv _ _ I2 (kp_trans k1 (kp_upd nF1)) (fun p hp => ?_) nF sz upd_same ?_
    · by_cases hb : p.1 = P
      · rw [hu p hp hb, hb]
        have eP : H1 P = some (.tbl (ps ++ #[rawInt pos.line, rawInt pos.col, .ref c'])) := by
          subst hH1
          rw [upd_ne nPc, upd_same]
        refine ⟨_, by rw [upd_ne (ne_of_none eP nF1)]; exact eP, by rw [Array.toList_append]; exact PySem.TriplesOk_snoc _ _ _ _ ht, fun p' cv hcv => ?_⟩
        rw [Array.toList_append] at hcv
        rcases LamX.among_app _ ht hcv with z | z
        · obtain ⟨c0, e1, e2⟩ := ha p' cv z
          exact ⟨c0, e1, ((kp_trans k1 (kp_upd nF1)) c0 _ e2).same (LamX.codeO_ne)⟩
        · exact ⟨c', z, by rw [upd_ne (Nat.ne_of_lt hlt)]; subst hH1; exact upd_same⟩
      · obtain ⟨ps', a1, a2, a3⟩ := tab p hp
        refine ⟨ps', ?_, a2, fun pos' cv hcv => ?_⟩
        · have e : H1 p.1 = some (.tbl ps') := by
            subst hH1
            rw [upd_ne (ne_of_none a1 nC), upd_ne hb]
            exact a1
          rw [upd_ne (ne_of_none e nF1)]
          exact e
        · obtain ⟨c0, e1, e2⟩ := a3 pos' cv hcv
          exact ⟨c0, e1, ((kp_trans k1 (kp_upd nF1)) c0 _ e2).same (LamX.codeO_ne)⟩
    · rw [upd_ne (Nat.ne_of_lt hlt)]
      subst hH1
      exact upd_same
  | some cv =>
    obtain ⟨c', e, hco⟩ := ha pos cv hc
    subst e
    refine PySem.W.kdv_makeTailHit (mg := X.mg) (c := c) (P := P) (ps := ps) (closure_ok hfree) I.ok.glob (I.mod.glob.keeps I.bk) hcode (TB.code.keeps I.bk) hP' ht hc bP fun ctv doc h' tk hx sz => ?_
    have nF : H h'.objs.size = none := I.hok.fresh sz
    have I2 := I.laid (a := h'.objs.size) (o := .frz (lamO m (lamQ X) dV doc (cloFrom X.env.cells m.scope.names []) ((X.mg "__name__").getD .none) c' ctv) (.ext fun _ => True)) (t' := tk) (h' := h'.push (lamO m (lamQ X) dV doc (cloFrom X.env.cells m.scope.names []) ((X.mg "__name__").getD .none) c' ctv))
      (fun b o e => Heap.get?_push_of_some _ (hx b o e)) sz ⟨Heap.get?_push_size _ rfl, trivial, ⟨_, Heap.get?_push_size _ rfl⟩, fun _ _ _ _ => trivial⟩
    refine h h'.objs.size c' doc _ ctv _ _ I2 (kp_upd nF) (tab.ext fun b o e => ?_) nF sz upd_same ?_
    · rw [upd_ne (ne_of_none e nF)]
      exact e
    · rw [upd_ne (ne_of_none hco nF)]
      exact hco
/-- the lambda -/
theorem mk_lam (I : Inv X pins σ H s) (ho : HearOk X f) (tab : LamX.Tabs f.G.tabs H) (hp : lamP m.params m.scope = true) (hfree : ∀ y ∈ m.scope.names, y.2 = .free → ∃ c, X.env.cells.lookup y.1 = some c) {lp : Pos} {Q : Value → Shared → Prop} {E : Value → Shared → Prop}
    (h : ∀ (fL c' : Addr) (dv doc pm ctv : Value) (H1 : Hp) (s1 : Shared), Inv X pins σ H1 s1 → (∀ a o, H a = some o → Kp o (H1 a)) → LamX.Tabs f.G.tabs H1 → H fL = none → H1 fL = some (.frz (lamO m (lamQ X) dv doc (cloFrom X.env.cells m.scope.names []) pm c' ctv) (.ext fun _ => True)) → H1 c' = some (LamX.CodeO c' (lamQ X)) →
      (m.params.args = [] ∧ dv = .none ∨ (∃ (a : Addr) (i : Int) (y : Arg), m.params.args = [y] ∧ m.scope.names.lookup y.arg = some .local ∧ dv = .ref a ∧ H a = none ∧ a ≠ fL ∧ H1 a = some (.tup [.int i]) ∧ m.params.defaults ≠ []) ∨ ∃ y : Arg, m.params.args = [y] ∧ m.params.defaults = [] ∧ m.scope.names.lookup y.arg = some .local ∧ dv = .none) → Q (.ref fL) s1) :
    wpAny (model X.prog X.w) X.A (eval (.Lambda m.params m.body m.scope lp) X.env) Q E s := by
  obtain ⟨N, params, body, scope⟩ := m
  obtain ⟨po, ar, va, ko, kd, kw, df⟩ := params
  simp only [lamP, Bool.and_eq_true, List.isEmpty_iff, Option.isNone_iff_eq_none] at hp
  obtain ⟨h1, h2, h3, h4, h5, h6⟩ := hp
  subst h1 h2 h3 h4 h5
  split at h6
  · refine PySem.W.kla_eval rfl ?_
    rw [makeFunction_eq]
    simp only [List.zip_nil_right, List.filterMap_nil, List.isEmpty_nil, if_true, pure_bind]
    exact mk_tail (m := ⟨N, ⟨[], [], none, [], [], none, []⟩, body, scope⟩) I ho tab hfree fun fL c' doc pm ctv H1 s1 I1 k t n _ e1 e2 => h fL c' .none doc pm ctv H1 s1 I1 k t n e1 e2 (.inl ⟨rfl, rfl⟩)
  · rename_i y iv jj pp
    refine PySem.W.kdv_lam rfl rfl (PySem.W.kdv_all1 (wpAny_Constant_int (PySem.W.kdv_all0 ?_)))
    rw [makeFunction_eq]
    simp only [List.zip_nil_right, List.filterMap_nil, List.isEmpty_nil, List.isEmpty_cons, Bool.false_eq_true, if_true, if_false, pure_bind]
    refine wpAny_bind (wpAny_newTextTuple ?_)
    have nT : H s.heap.objs.size = none := I.hok.fresh (Nat.le_refl _)
    have I0 := (I.tok (s.toks + 1)).laid (a := s.heap.objs.size) (o := .tup [.int iv]) (t' := s.toks + 1) (h' := s.heap.push { cls := .type "tuple", data := .seq [Value.int iv s.toks].toArray })
      (fun b o e => Heap.get?_push_of_some _ e) (Nat.le_refl _) ⟨Nat.le_trans (Nat.le_refl 1) (by rw [sizeLine_eq]; decide), [.int iv s.toks], .cons ⟨_, rfl⟩ .nil, ⟨_, Heap.get?_push_size _ rfl, rfl, _, rfl⟩⟩
    have hl : scope.names.lookup y.arg = some .local := by
      split at h6
      · assumption
      · cases h6
    refine mk_tail (m := ⟨N, ⟨[], [y], none, [], [], none, [.Constant (.int iv) jj pp]⟩, body, scope⟩) I0 ho (tab.ext fun b o e => by rw [upd_ne (ne_of_none e nT)]; exact e) hfree fun fL c' doc pm ctv H1 s1 I1 k t n _ e1 e2 => ?_
    have nf : fL ≠ s.heap.objs.size := fun z => by
      rw [z, upd_same] at n
      cases n
    refine h fL c' (.ref s.heap.objs.size) doc pm ctv H1 s1 I1 (kp_trans (kp_upd nT) k) t (by rw [upd_ne nf] at n; exact n) e1 e2 (.inr (.inl ⟨_, iv, y, rfl, hl, rfl, nT, Ne.symm nf, ?_, (by intro z; cases z)⟩))
    exact (k _ _ upd_same).same (fun _ z => nomatch z)
  · rename_i y
    have hl : scope.names.lookup y.arg = some .local := by
      split at h6
      · assumption
      · cases h6
    refine PySem.W.kla_eval rfl ?_
    rw [makeFunction_eq]
    simp only [List.zip_nil_right, List.filterMap_nil, List.isEmpty_nil, if_true, pure_bind]
    exact mk_tail (m := ⟨N, ⟨[], [y], none, [], [], none, []⟩, body, scope⟩) I ho tab hfree fun fL c' doc pm ctv H1 s1 I1 k t n _ e1 e2 => h fL c' .none doc pm ctv H1 s1 I1 k t n e1 e2 (.inr (.inr ⟨y, rfl, rfl, hl, rfl⟩))
  · cases h6
end
end Ev
end
end
section
set_option Elab.async false
set_option linter.all false
set_option maxRecDepth 100000
set_option maxHeartbeats 2000000
/-! EvHear: a def is called with a lambda. -/
noncomputable section
namespace Ev
open PySem PySem.Spec L2
set_option autoImplicit false
variable {XE : XP}
section
variable {f : Fm} {g g' : Gh} {b b' : Nat} {sl sl' : Sl} {σ σ' : St} {H H' : Hp}
theorem orc_kp {d : Addr × Addr × Addr} (o : OrcAt b d H) (k : ∀ a u, H a = some u → Kp u (H' a)) : OrcAt b d H' := by
  obtain ⟨cs, gs, n, h1, h2, h3, r⟩ := o.ex
  exact ⟨cs, gs, n, (k _ _ h1).same (fun _ z => nomatch z), (k _ _ h2).same (fun _ z => nomatch z), (k _ _ h3).same (fun _ z => nomatch z), r⟩
/-- tables grow -/
theorem Rl.grow (R : Rl f g b sl σ H) (k : ∀ a o, H a = some o → Kp o (H' a)) (t : LamX.Tabs f.G.tabs H') : Rl f g b sl σ H' where
  le0 := R.le0
  sub := fun a o e => (k a o (R.sub a o e)).same fun ps z => R.nT a ps (by rw [e, z])
  kee := fun a o h1 h2 h3 => by
    have q := R.kee a o h1 h2 h3
    obtain ⟨o1, e1⟩ := q.some
    rw [e1] at q
    exact q.trans (k a o1 e1)
  tab := t
  new := R.new
  nT := R.nT
  dF := R.dF
  orc := fun d hd => orc_kp (R.orc d hd) k
  d0 := R.d0
  dn := R.dn
  ioS := fun a h => let ⟨o, q⟩ := R.ioS a h; (k a o q).some
  len := R.len
  frz := R.frz
  own := fun i w h => by
    obtain ⟨a, h1, h2, h3⟩ := R.own i w h
    exact ⟨a, h1, h2.le (Gh.le.refl g) fun o ho => (k a o ho).same (h2.soft o ho).1, h3⟩
  inj := R.inj
/-- a thing by what is true of it becomes known -/
theorem Rl.know (R : Rl f g b sl σ H) {a : Addr} {φ : Heap → Prop} (h : H a = some (.ext φ)) : ∃ g', g.le g' ∧ Rl f g' b sl σ H ∧ g'.F a = some (.ext φ) := by
  cases e : g.F a with
  | some o =>
    have q := R.sub a o e
    rw [h] at q
    cases q
    exact ⟨g, Gh.le.refl g, R, e⟩
  | none =>
    refine ⟨g.add a _, Gh.le_add e, R.add e h (fun z => ?_) (.inr (.inr ⟨φ, rfl⟩)) (fun i w q z => ?_) (fun _ z => nomatch z), upd_same⟩
    · cases hd : g.D with
      | none => rw [hd] at z; exact (List.not_mem_nil z).elim
      | some d =>
        rw [hd] at z
        obtain ⟨cs, gs, n, h1, h2, h3, _⟩ := (R.orc d hd).ex
        obtain ⟨m, c, l⟩ := d
        simp only [dAdr, List.mem_cons, List.not_mem_nil, or_false] at z
        rcases z with y | y | y
        · subst y; rw [h] at h1; cases h1
        · subst y; rw [h] at h2; cases h2
        · subst y; rw [h] at h3; cases h3
    · obtain ⟨c, h1, h2, _⟩ := R.own i w q
      rw [z] at h1
      cases h1
      exact (h2.soft _ h).2 φ rfl
/-- what is captured -/
theorem capsV_ok : ∀ {caps : List Nat} {sl : Sl} {g : Gh} {P : List W × Sl → Nat → Prop}, Rl f g b sl σ H → (capsV caps sl).wb XE b P →
    ∃ ws sl' g' vs, P (ws, sl') b ∧ g.le g' ∧ Rl f g' b sl' σ H ∧ RVs f.K f.G g' ws vs ∧ noCloL ws = true ∧ vs.length = caps.length ∧ ∀ (i : Nat) k, caps[i]? = some k → ∃ v, vs[i]? = some v ∧ σ[k]? = some (some v)
  | [], sl, g, P, R, h => ⟨[], sl, g, [], h, Gh.le.refl g, R, .nil, rfl, rfl, fun i k e => by simp at e⟩
  | j :: r, sl, g, P, R, h => by
    obtain ⟨⟨w, fr⟩, e1, h1⟩ := rd_wb (T.wb_bind.mp (T.wb_bind.mp (show ((kVar j sl).bind _).wb XE b P from h)))
    obtain ⟨g1, v, l1, s1, rv, R1⟩ := R.read e1
    rw [← sett_eq] at R1
    obtain ⟨n1, h2⟩ := T.wb_guard h1
    obtain ⟨ws, sl2, g2, vs, p2, l2, R2, rvs, n2, el, at_⟩ := capsV_ok R1 (T.wb_bind.mp h2)
    refine ⟨w :: ws, sl2, g2, v :: vs, p2, l1.trans l2, R2, .cons (rv.le l2) rvs, ?_, congrArg (· + 1) el, fun i k e => ?_⟩
    · show (noClo w && noCloL ws) = true
      rw [Bool.and_eq_true]
      exact ⟨n1, n2⟩
    · cases i with
      | zero => cases e; exact ⟨v, rfl, s1⟩
      | succ i => exact at_ i k (by simpa using e)
end
theorem cells_ex {xs : List Str} {vs : List V} {cells : List (Str × Addr)} (nd : xs.Nodup) (inj : ∀ x y c, cells.lookup x = some c → cells.lookup y = some c → x = y) (h : Heap) :
    ∃ C : Addr → Option HO, ∀ c u, C c = some u ↔ ∃ (i : Nat) (x : Str) (v : V) (o : Obj), xs[i]? = some x ∧ vs[i]? = some v ∧ cells.lookup x = some c ∧ h.get? c = some o ∧ u = .frz o (cellO c v) := by
  classical
  have uniq : ∀ c u u', (∃ (i : Nat) (x : Str) (v : V) (o : Obj), xs[i]? = some x ∧ vs[i]? = some v ∧ cells.lookup x = some c ∧ h.get? c = some o ∧ u = HO.frz o (cellO c v)) → (∃ (i : Nat) (x : Str) (v : V) (o : Obj), xs[i]? = some x ∧ vs[i]? = some v ∧ cells.lookup x = some c ∧ h.get? c = some o ∧ u' = HO.frz o (cellO c v)) → u = u' := by
    rintro c u u' ⟨i, x, v, o, h1, h2, h3, h4, rfl⟩ ⟨i', x', v', o', k1, k2, k3, k4, rfl⟩
    have e := inj x x' c h3 k3
    subst e
    have l1 := List.getElem?_eq_some_iff.mp h1
    have ei : i = i' := (List.getElem?_inj l1.1 nd).mp (h1.trans k1.symm)
    subst ei
    rw [h2] at k2
    cases k2
    rw [h4] at k4
    cases k4
    rfl
  refine ⟨fun c => if hh : ∃ u, ∃ (i : Nat) (x : Str) (v : V) (o : Obj), xs[i]? = some x ∧ vs[i]? = some v ∧ cells.lookup x = some c ∧ h.get? c = some o ∧ u = HO.frz o (cellO c v) then some hh.choose else none, fun c u => ⟨fun e => ?_, fun q => ?_⟩⟩
  · by_cases hh : ∃ u, ∃ (i : Nat) (x : Str) (v : V) (o : Obj), xs[i]? = some x ∧ vs[i]? = some v ∧ cells.lookup x = some c ∧ h.get? c = some o ∧ u = HO.frz o (cellO c v)
    · have e : (if hh : ∃ u, ∃ (i : Nat) (x : Str) (v : V) (o : Obj), xs[i]? = some x ∧ vs[i]? = some v ∧ cells.lookup x = some c ∧ h.get? c = some o ∧ u = HO.frz o (cellO c v) then some hh.choose else none) = some u := e
      rw [dif_pos hh] at e
      have := hh.choose_spec
      rw [Option.some.inj e] at this
      exact this
    · have e : (if hh : ∃ u, ∃ (i : Nat) (x : Str) (v : V) (o : Obj), xs[i]? = some x ∧ vs[i]? = some v ∧ cells.lookup x = some c ∧ h.get? c = some o ∧ u = HO.frz o (cellO c v) then some hh.choose else none) = some u := e
      rw [dif_neg hh] at e
      cases e
  · have hh : ∃ u, ∃ (i : Nat) (x : Str) (v : V) (o : Obj), xs[i]? = some x ∧ vs[i]? = some v ∧ cells.lookup x = some c ∧ h.get? c = some o ∧ u = HO.frz o (cellO c v) := ⟨u, q⟩
    show (if hh : ∃ u, ∃ (i : Nat) (x : Str) (v : V) (o : Obj), xs[i]? = some x ∧ vs[i]? = some v ∧ cells.lookup x = some c ∧ h.get? c = some o ∧ u = HO.frz o (cellO c v) then some hh.choose else none) = some u
    rw [dif_pos hh]
    exact congrArg some (uniq c _ _ hh.choose_spec q)
theorem cells_fz {xs : List Str} {vs : List V} {cells : List (Str × Addr)} {h : Heap} {C : Addr → Option HO} (hC : ∀ c u, C c = some u ↔ ∃ (i : Nat) (x : Str) (v : V) (o : Obj), xs[i]? = some x ∧ vs[i]? = some v ∧ cells.lookup x = some c ∧ h.get? c = some o ∧ u = .frz o (cellO c v)) : Fz C := fun c u e => by
  obtain ⟨i, x, v, o, _, _, _, _, e⟩ := (hC c u).mp e
  exact ⟨o, _, e⟩
theorem clo_from {cells : List (Str × Addr)} {names : List (Str × NameKind)} {x : Str} {c : Addr} (e : (cloFrom cells names []).lookup x = some c) (hfree : ∀ y ∈ names, y.2 = .free → ∃ c, cells.lookup y.1 = some c) : cells.lookup x = some c ∧ (x, NameKind.free) ∈ names := by
  rcases cloFrom_mem (PySem.mem_of_lookup e) with hm | ⟨h1, h2⟩
  · cases hm
  · obtain ⟨c1, hc⟩ := hfree _ h1 rfl
    have hc : cells.lookup x = some c1 := hc
    refine ⟨?_, h1⟩
    rw [h2, hc] <;> rfl
section
variable {X : Cx} {f : Fm} {g : Gh} {b : Nat} {sl : Sl} {σ : St} {H : Hp} {cl : Cl} {m : Lm}
/-- x(lambda: ..) -/
theorem w_hear (ho : HearOk X f) (hK : X.K = f.K) (R : Rl f g b sl σ H) {j k : Nat} {x : Str} {fa : Addr} {p lp q : Pos} (hg : Gl X x) (hm : X.mg x = some (.ref fa)) (hk : PySem.W.keepIn X.K (.ref fa) = true) (hd : (x == ("__debug__" : Str)) = false)
    (hf : ∀ f', f'.K = f.K → f'.G = f.G → GivesE T.noX cl j fa X f') (hp : lamP m.params m.scope = true) (hl : f.G.lam k m) (nd : m.N.Nodup)
    (hfr : ∀ y ∈ m.scope.names, y.2 = .free → (X.env.scope.names.lookup y.1 = some .cell ∨ X.env.scope.names.lookup y.1 = some .free) ∧ y.1 ∈ m.N) {ws : List W} {vs : List V} {caps : List Nat} (rvs : RVs f.K f.G g ws vs) (lv : vs.length = m.N.length)
    (hx : ∀ (i : Nat) y, m.N[i]? = some y → ∃ (c : Nat) (v : V), X.N[c]? = some y ∧ vs[i]? = some v ∧ σ[c]? = some (some v) ∧ m.scope.names.lookup y = some .free) {Q : VK}
    (h : (cl j [(.clo k ws, false)]).wb T.noX b (fun r b' => noClo r.1.1 = true ∧ ∀ g' v H', g.le g' → Rl f g' b' sl σ H' → Vl f g' H' sl σ r.1 v → Q v H')) :
    tW X (.Call (.Name x p) [.Lambda m.params m.body m.scope lp] [] q) σ H Q := by
  intro pins s I
  have hfree : ∀ y ∈ m.scope.names, y.2 = .free → ∃ c, X.env.cells.lookup y.1 = some c := fun y hy e => I.ok.has _ (hfr y hy e).1
  refine wpAny_Call_Name_kw (ld_glob I hg hm ?_ hd)
  refine PySem.W.callWith_K (h₀ := X.base) I.ok.mod.kin hk ?_ (by rfl) (by rfl)
  show wpAny _ _ (spliced ((false, eval (.Lambda m.params m.body m.scope lp) X.env) :: backTo q (starEach [] X.env))) _ _ s
  refine Calls.spliced_cons (mk_lam I ho R.tab hp hfree fun fL c' dv doc pm ctv H1 s1 I1 k1 t1 nL e1 e2 dflt => ?_)
  refine Calls.spliced_nil ⟨I1.kIn, ?_⟩
  show wpAny _ _ (call (.ref fa) [.ref fL]) _ _ s1
  -- what is known
  have R1 := R.grow k1 t1
  obtain ⟨g1, l1, R1', kL1⟩ : ∃ g1, g.le g1 ∧ Rl f g1 b sl σ H1 ∧ g1.F fL = some (.frz (lamO m (lamQ X) dv doc (cloFrom X.env.cells m.scope.names []) pm c' ctv) (.ext fun _ => True)) :=
    ⟨_, Gh.le_add (R.freeF nL), R1.add (a := fL) (R.freeF nL) e1 (R.freeD nL) (.inl (R.free0 nL)) (R.freeS nL) (fun _ z => nomatch z), upd_same⟩
  obtain ⟨g2, l2, R2, kc⟩ := R1'.know e2
  have kL := l2.1 _ _ kL1
  obtain ⟨g3, l3, R3, bo⟩ : ∃ g3, g2.le g3 ∧ Rl f g3 b sl σ H1 ∧ BindsOff g3.F m dv := by
    rcases dflt with z | ⟨a, i, y, z1, z2, z3, z4, z5, z6, z7⟩ | z
    · exact ⟨g2, Gh.le.refl g2, R2, .inl z⟩
    · cases e : g2.F a with
      | some o =>
        have y2 := R2.sub a o e
        rw [z6] at y2
        cases y2
        exact ⟨g2, Gh.le.refl g2, R2, .inr (.inl ⟨a, i, y, z1, z2, z3, e, z7⟩)⟩
      | none =>
        have d1 : a ∉ dAdr g2.D := fun w => by
          rcases R2.d0 a w with y | y
          · obtain ⟨o, eo⟩ := dA_some R (le_dAdr R.le0 y)
            rw [z4] at eo
            cases eo
          · have w' : a ∈ dAdr g2.D := w
            cases hd2 : g2.D with
            | none => rw [hd2] at w'; exact (List.not_mem_nil w').elim
            | some d =>
              rw [hd2] at w'
              obtain ⟨cs, gs, n, q1, q2, q3, _⟩ := (R2.orc d hd2).ex
              obtain ⟨m1, c1, l1⟩ := d
              simp only [dAdr, List.mem_cons, List.not_mem_nil, or_false] at w'
              rcases w' with y | y | y
              · subst y; rw [z6] at q1; cases q1
              · subst y; rw [z6] at q2; cases q2
              · subst y; rw [z6] at q3; cases q3
        exact ⟨g2.add a _, Gh.le_add e, R2.add e z6 d1 (.inl (R.free0 z4)) (R.freeS z4) (fun _ z => nomatch z), .inr (.inl ⟨a, i, y, z1, z2, z3, upd_same, z7⟩)⟩
    · exact ⟨g2, Gh.le.refl g2, R2, .inr (.inr z)⟩
  have lg : g.le g3 := (l1.trans l2).trans l3
  -- the cells
  have inj : ∀ x y c, (cloFrom X.env.cells m.scope.names []).lookup x = some c → (cloFrom X.env.cells m.scope.names []).lookup y = some c → x = y := fun x y c h1 h2 => I1.ok.inj x y c (clo_from h1 hfree).1 (clo_from h2 hfree).1
  obtain ⟨C, hC⟩ := cells_ex (vs := vs) nd inj s1.heap
  have z := cells_fz hC
  have cellOf : ∀ c u, C c = some u → ∃ y, X.env.cells.lookup y = some c := fun c u e => by
    obtain ⟨i, y, v, o, _, _, h3, _⟩ := (hC c u).mp e
    exact ⟨y, (clo_from h3 hfree).1⟩
  have n : ∀ c u, C c = some u → H1 c = none := fun c u e => by
    obtain ⟨y, hy⟩ := cellOf c u e
    exact I1.freeC y c hy
  have above : ∀ c u, C c = some u → X.s_0.heap.objs.size ≤ c := fun c u e => by
    obtain ⟨y, hy⟩ := cellOf c u e
    exact I1.ok.cab y c (ho.fnT y) hy
  have at_ : ∀ (i : Nat) y, m.N[i]? = some y → ∃ c v o u, (cloFrom X.env.cells m.scope.names []).lookup y = some c ∧ vs[i]? = some v ∧ s1.heap.get? c = some o ∧ RelV v u ∧ o.data = .cell (some u) ∧ C c = some (.frz o (cellO c v)) := fun i y e => by
    obtain ⟨sx, v, q1, q2, q3, q4⟩ := hx i y e
    have fm := PySem.mem_of_lookup q4
    obtain ⟨cc, hcc⟩ := mem_lookup (cloFrom_has (cells := X.env.cells) (acc := []) fm)
    have ce := (clo_from hcc hfree).1
    obtain ⟨mm, hn, lk⟩ := I1.loc
    have kd := (hfr _ fm rfl).1
    have vis : Vis X.env.scope y := .inr kd
    obtain ⟨u, ru, lo⟩ := lk sx y v q1 q3 vis
    rcases lo with ⟨y1, _⟩ | ⟨_, c2, y2, o, y3, y4⟩
    · have y1 : X.env.scope.names.lookup y = some .local := y1
      rcases kd with kd | kd <;> (have kd : X.env.scope.names.lookup y = _ := kd; rw [y1] at kd; cases kd)
    · rw [ce] at y2
      cases y2
      exact ⟨cc, v, o, u, hcc, q2, y3, ru, y4, (hC cc _).mpr ⟨i, y, v, o, e, q2, hcc, y3, rfl⟩⟩
  have okC : ∀ c ob φ, C c = some (.frz ob (.ext φ)) → s1.heap.get? c = some ob ∧ φ s1.heap ∧ ∀ h1 h2 : Heap, φ h1 → (∀ o, h1.get? c = some o → h2.get? c = some o) → φ h2 := fun c ob φ e => by
    obtain ⟨i, y, v, o, h1, h2, h3, h4, h5⟩ := (hC c _).mp e
    obtain ⟨c2, v2, o2, u2, k1, k2, k3, k4, k5, _⟩ := at_ i y h1
    rw [h3] at k1
    cases k1
    rw [h2] at k2
    cases k2
    rw [h4] at k3
    cases k3
    have h5 : HO.frz ob (.ext φ) = HO.frz o (.ext fun h => ∃ u, RelV v u ∧ h.IsCell c (some u)) := h5
    cases h5
    exact ⟨h4, ⟨u2, k4, _, h4, k5⟩, fun ha hb ⟨u, r, oo, q1, q2⟩ st => ⟨u, r, oo, st oo q1, q2⟩⟩
  have e0 : Env0 X.prog X.w X.K X.mg X.base X.A X.stack s1 (ov C H1) := by
    have e := I1.env0
    refine ⟨e.frames, e.mod, fun a o q => ?_, e.bsz, e.funs, fun a ha => ?_, hok_ov n okC z e.hok, e.bare⟩
    · refine ⟨(e.bs a o q).1, ?_⟩
      cases y : C a with
      | none => rw [ov_out y]; exact (e.bs a o q).2
      | some u =>
        have h1 := above a u y
        have h2 := Heap.lt_size q
        exact absurd (Nat.lt_of_lt_of_le (Nat.lt_of_lt_of_le h2 I1.ok.bsz) h1) (Nat.lt_irrefl _)
    · cases y : C a with
      | none => rw [ov_out y]; exact e.frf a ha
      | some u =>
        obtain ⟨nm, hnm⟩ := cellOf a u y
        rw [ho.stk] at ha
        unfold frs at ha
        rw [List.filterMap_cons, ho.fr] at ha
        rcases List.mem_cons.mp ha with w | w
        · exact (I1.cne nm a hnm w).elim
        · obtain ⟨_, oo, q1, _⟩ := I1.ok.funs.mem w
          exact absurd (Nat.lt_of_lt_of_le (Heap.lt_size q1) (above a u y)) (Nat.lt_irrefl _)
  have rvL : RV f.K f.G (g3.ov C) (.clo k ws) (.ref fL) := by
    have lo : g3.le (g3.ov C) := le_ov fun c u e => R3.freeF (n c u e)
    refine .clo hl (lo.1 _ _ (l3.1 _ _ kL)) (lo.1 _ _ (l3.1 _ _ kc)) (bo.le lo.1) (fun i y e => ?_) (fun y c e => ?_) inj lv (rvs.le (lg.trans lo))
    · obtain ⟨c, v, o, u, k1, k2, k3, k4, k5, k6⟩ := at_ i y e
      exact ⟨c, v, k1, k2, o, ov_in k6⟩
    · exact (hfr _ (clo_from e hfree).2 rfl).2
  have gv := hf (f.into (g3.ov C) (ov C H1) []) rfl rfl (g3.ov C) b [] [] (ov C H1) [(.clo k ws, false)] [.ref fL] [] (fun v H' => Q v (cutC C H')) (R3.ov z n) (.frz rvL .nil) (T.wb_mono (fun r b' q g' v H' l' R' _ vl _ => ?_) h)
  · have rc := gv s1 [.ref fL] e0 (.cons rfl .nil)
    refine wpAny_call (codeAny_mono rc fun r s2 hq => ?_)
    cases r with
    | error e =>
      obtain ⟨_, _, _, _, _, _, _, _, _, _, _, _, y⟩ := hq
      obtain ⟨_, _, _, _, y, _⟩ := y
      exact y.elim
    | ok fl =>
      cases fl with
      | ret u =>
        obtain ⟨v, H', os, bare, un, hok, rv, q⟩ := hq
        have hH : ∀ c u, C c = some u → H' c = some u := fun c u e => by
          obtain ⟨o, φ, rfl⟩ := z c u e
          exact un.frzs c o _ (ov_in e)
        exact I1.after ⟨v, cutC C H', os, bare, un_cut n z (fun c ob φ e => (okC c ob φ e).1) hok un, hok_cut z hH hok, rv, q⟩
      | next => exact hq.elim
      | brk => exact hq.elim
      | cont => exact hq.elim
  · obtain ⟨nc, q⟩ := q
    obtain ⟨l4, R4, hF⟩ := R3.unov z n l' R'
    refine q _ v _ (lg.trans l4) R4 ?_
    obtain ⟨⟨w, fr⟩, rest⟩ := r
    cases fr with
    | false => exact RV.cut z hF vl nc
    | true =>
      obtain ⟨a, rfl, oa, v1, v2, v3, _⟩ := vl
      have outA : C a = none := by
        cases y : C a with
        | none => rfl
        | some u =>
          rw [hF a u y] at v1
          cases v1
      have v3 : ov C H1 a = none := v3
      rw [ov_out outA] at v3
      refine ⟨a, rfl, ?_, ?_, v2, R3.free0 v3, R3.freeS v3⟩
      · cases w <;> first
          | exact oa.elim
          | (obtain ⟨us, q1, q2⟩ := oa
             first
               | exact ⟨us, by rw [cut_out outA]; exact q1, RVs.cut z hF q2 nc⟩
               | exact ⟨us, by rw [cut_out outA]; exact q1, RVk.cut z hF q2 nc⟩)
      · show cutC C g'.F a = none
        rw [cut_out outA]
        exact v1
end
end Ev
end
end
section
set_option Elab.async false
set_option linter.all false
set_option maxRecDepth 100000
set_option maxHeartbeats 2000000
/-! EvClr: lambdas that are kept for a while, in lists too; a call hands them over. -/
noncomputable section
namespace Ev
open PySem PySem.Spec L2
set_option autoImplicit false
variable {XE : XP}
section
variable {X : Cx} {f : Fm} {g g' : Gh} {b b' : Nat} {sl sl' : Sl} {σ σ' : St} {H H' : Hp} {cl : Cl} {m : Lm}
/-- what mk_lam gives is known from now on -/
theorem lam_known {pins : List (Addr × Obj)} (R : Rl f g b sl σ H) {H1 : Hp} (k1 : ∀ a o, H a = some o → Kp o (H1 a)) (t1 : LamX.Tabs f.G.tabs H1) {fL c' : Addr} {dv doc pm ctv : Value} {cells : List (Str × Addr)} {q : Str} (nL : H fL = none)
    (e1 : H1 fL = some (.frz (lamO m q dv doc cells pm c' ctv) (.ext fun _ => True))) (e2 : H1 c' = some (LamX.CodeO c' q))
    (dflt : m.params.args = [] ∧ dv = .none ∨ (∃ (a : Addr) (i : Int) (y : Arg), m.params.args = [y] ∧ m.scope.names.lookup y.arg = some .local ∧ dv = .ref a ∧ H a = none ∧ a ≠ fL ∧ H1 a = some (.tup [.int i]) ∧ m.params.defaults ≠ []) ∨ ∃ y : Arg, m.params.args = [y] ∧ m.params.defaults = [] ∧ m.scope.names.lookup y.arg = some .local ∧ dv = .none) :
    ∃ g3, g.le g3 ∧ Rl f g3 b sl σ H1 ∧ g3.F fL = some (.frz (lamO m q dv doc cells pm c' ctv) (.ext fun _ => True)) ∧ g3.F c' = some (LamX.CodeO c' q) ∧ BindsOff g3.F m dv := by
  have R1 := R.grow k1 t1
  obtain ⟨g1, l1, R1', kL1⟩ : ∃ g1, g.le g1 ∧ Rl f g1 b sl σ H1 ∧ g1.F fL = some (.frz (lamO m q dv doc cells pm c' ctv) (.ext fun _ => True)) :=
    ⟨_, Gh.le_add (R.freeF nL), R1.add (a := fL) (R.freeF nL) e1 (R.freeD nL) (.inl (R.free0 nL)) (R.freeS nL) (fun _ z => nomatch z), upd_same⟩
  obtain ⟨g2, l2, R2, kc⟩ := R1'.know e2
  have kL := l2.1 _ _ kL1
  obtain ⟨g3, l3, R3, bo⟩ : ∃ g3, g2.le g3 ∧ Rl f g3 b sl σ H1 ∧ BindsOff g3.F m dv := by
    rcases dflt with z | ⟨a, i, y, z1, z2, z3, z4, z5, z6, z7⟩ | z
    · exact ⟨g2, Gh.le.refl g2, R2, .inl z⟩
    · cases e : g2.F a with
      | some o =>
        have y2 := R2.sub a o e
        rw [z6] at y2
        cases y2
        exact ⟨g2, Gh.le.refl g2, R2, .inr (.inl ⟨a, i, y, z1, z2, z3, e, z7⟩)⟩
      | none =>
        have d1 : a ∉ dAdr g2.D := fun w => by
          rcases R2.d0 a w with y | y
          · obtain ⟨o, eo⟩ := dA_some R (le_dAdr R.le0 y)
            rw [z4] at eo
            cases eo
          · have w' : a ∈ dAdr g2.D := w
            cases hd2 : g2.D with
            | none => rw [hd2] at w'; exact (List.not_mem_nil w').elim
            | some d =>
              rw [hd2] at w'
              obtain ⟨cs, gs, n, q1, q2, q3, _⟩ := (R2.orc d hd2).ex
              obtain ⟨m1, c1, l1⟩ := d
              simp only [dAdr, List.mem_cons, List.not_mem_nil, or_false] at w'
              rcases w' with y | y | y
              · subst y; rw [z6] at q1; cases q1
              · subst y; rw [z6] at q2; cases q2
              · subst y; rw [z6] at q3; cases q3
        exact ⟨g2.add a _, Gh.le_add e, R2.add e z6 d1 (.inl (R.free0 z4)) (R.freeS z4) (fun _ z => nomatch z), .inr (.inl ⟨a, i, y, z1, z2, z3, upd_same, z7⟩)⟩
    · exact ⟨g2, Gh.le.refl g2, R2, .inr (.inr z)⟩
  exact ⟨g3, (l1.trans l2).trans l3, R3, l3.1 _ _ kL, l3.1 _ _ kc, bo⟩
/-- lambda: .. as a value -/
theorem w_lamr (ho : HearOk X f) (R : Rl f g b sl σ H) {k : Nat} {lp : Pos} (hp : lamP m.params m.scope = true) (hl : f.G.lam k m)
    (hfr : ∀ y ∈ m.scope.names, y.2 = .free → (X.env.scope.names.lookup y.1 = some .cell ∨ X.env.scope.names.lookup y.1 = some .free) ∧ y.1 ∈ m.N) {caps : List Nat} (lc : caps.length = m.N.length)
    (hx : ∀ (i : Nat) y, m.N[i]? = some y → ∃ s : Nat, caps[i]? = some s ∧ X.N[s]? = some y ∧ m.scope.names.lookup y = some .free) {Q : VK}
    (h : ∀ g' fL H1, g.le g' → Rl f g' b sl σ H1 → RV f.K f.G g' (.clr k caps) (.ref fL) → Q (.ref fL) H1) : tW X (.Lambda m.params m.body m.scope lp) σ H Q := by
  intro pins s I
  have hfree : ∀ y ∈ m.scope.names, y.2 = .free → ∃ c, X.env.cells.lookup y.1 = some c := fun y hy e => I.ok.has _ (hfr y hy e).1
  refine mk_lam I ho R.tab hp hfree fun fL c' dv doc pm ctv H1 s1 I1 k1 t1 nL e1 e2 dflt => ?_
  obtain ⟨g3, lg, R3, kL, kc, bo⟩ := lam_known (pins := pins) R k1 t1 nL e1 e2 dflt
  refine ⟨.ref fL, H1, I1, rfl, h g3 fL H1 lg R3 (.clr hl kL kc bo (fun i y e => ?_) (fun y c e => ?_) (fun x y c h1 h2 => I1.ok.inj x y c (clo_from h1 hfree).1 (clo_from h2 hfree).1) lc)⟩
  · obtain ⟨sx, q1, q3, q4⟩ := hx i y e
    have fm := PySem.mem_of_lookup q4
    obtain ⟨cc, hcc⟩ := mem_lookup (cloFrom_has (cells := X.env.cells) (acc := []) fm)
    have ce := (clo_from hcc hfree).1
    refine ⟨sx, cc, q1, ?_, hcc⟩
    rw [R3.le0.2.2, ho.en]
    unfold envE
    rw [q3]
    show (X.env.cells.lookup y).map _ = _
    rw [ce]
    rfl
  · exact (hfr _ (clo_from e hfree).2 rfl).2
theorem lookN_ok {K : PySem.W.Frag} {G : Gx} : ∀ {cs : List Nat} {ws : List W} {vs : List V} {k : Nat} {w : W}, RVs K G g ws vs → lookN cs ws k = some w → ∃ (i : Nat) (v : V), cs[i]? = some k ∧ vs[i]? = some v ∧ RV K G g w v
  | [], _, _, _, _, _, h => by cases h
  | c :: cs, _, _, k, w, .nil, h => by cases h
  | c :: cs, _, _, k, w, .cons (w := w0) (ws := ws0) a r, h => by
    have h : cond (Nat.beq c k) (some w0) (lookN cs ws0 k) = some w := h
    cases e : Nat.beq c k with
    | true =>
      rw [e] at h
      have h : w0 = w := Option.some.inj h
      subst h
      have e := Nat.eq_of_beq_eq_true e
      subst e
      exact ⟨0, _, rfl, rfl, a⟩
    | false =>
      rw [e] at h
      obtain ⟨i, v, h1, h2, h3⟩ := lookN_ok r h
      exact ⟨i + 1, v, by simpa using h1, by simpa using h2, h3⟩
theorem lookNs_ok {K : PySem.W.Frag} {G : Gx} {cs : List Nat} {ws : List W} {vs : List V} (r : RVs K G g ws vs) : ∀ {caps : List Nat} {us : List W}, lookNs cs ws caps = some us → ∃ xs, RVs K G g us xs ∧ xs.length = caps.length ∧ ∀ (i s : Nat), caps[i]? = some s → ∃ (j : Nat) (v : V), cs[j]? = some s ∧ vs[j]? = some v ∧ xs[i]? = some v
  | [], us, h => by
    cases h
    exact ⟨[], .nil, rfl, fun i s e => by simp at e⟩
  | k :: caps, us, h => by
    unfold lookNs at h
    cases e : lookN cs ws k with
    | none => rw [e] at h; cases h
    | some w =>
      rw [e] at h
      cases e2 : lookNs cs ws caps with
      | none => rw [e2] at h; cases h
      | some us' =>
        rw [e2] at h
        cases h
        obtain ⟨j, v, h1, h2, h3⟩ := lookN_ok r e
        obtain ⟨xs, q1, q2, q3⟩ := lookNs_ok r e2
        refine ⟨v :: xs, .cons h3 q1, congrArg (· + 1) q2, fun i s ei => ?_⟩
        cases i with
        | zero =>
          have ei : k = s := by simpa using ei
          subst ei
          exact ⟨j, v, h1, h2, rfl⟩
        | succ i => exact q3 i s (by simpa using ei)
/-- what a frame's cells hold, by slots -/
structure CellC (g : Gh) (C : Addr → Option HO) (cs : List Nat) (vs : List V) : Prop where
  at_ : ∀ (j s : Nat) y c, cs[j]? = some s → g.E s = some (y, c) → ∃ (v : V) (o : Obj), vs[j]? = some v ∧ C c = some (.frz o (cellO c v))
mutual
theorem convW_ok {K : PySem.W.Frag} {G : Gx} {C : Addr → Option HO} {cs : List Nat} {ws : List W} {vs : List V} (r : RVs K G g ws vs) (lo : g.le (g.ov C)) (cc : CellC g C cs vs) : ∀ {w w' : W} {v : V}, RV K G g w v → convW cs ws w = some w' → RV K G (g.ov C) w' v
  | _, w', _, .non, h => by cases h; exact .non
  | _, w', _, .bl b, h => by cases h; exact .bl b
  | _, w', _, .int i, h => by cases h; exact .int i
  | _, w', _, .str x, h => by cases h; exact .str x
  | _, w', _, .rpr d, h => by cases h; exact .rpr d
  | _, w', _, .tup (ws := us) q r0, h => by
    have h : (convL cs ws us).map .tup = some w' := h
    cases e : convL cs ws us with
    | none => rw [e] at h; cases h
    | some us' =>
      rw [e] at h
      cases h
      exact .tup (SqT.le lo.1 q) (convL_ok r lo cc r0 e)
  | _, w', _, .lst (ws := us) q r0, h => by
    have h : (convL cs ws us).map .lst = some w' := h
    cases e : convL cs ws us with
    | none => rw [e] at h; cases h
    | some us' =>
      rw [e] at h
      cases h
      exact .lst (lo.1 _ _ q) (convL_ok r lo cc r0 e)
  | _, w', _, .dct (ws := us) q r0, h => by
    have h : cond (noCloK us) (some (W.dct us)) none = some w' := h
    cases e : noCloK us with
    | false => rw [e] at h; cases h
    | true => rw [e] at h; cases h; exact RV.le lo (.dct q r0)
  | _, w', _, .fn q, h => by cases h; exact .fn q
  | _, w', _, .orc q, h => by cases h; exact RV.le lo (.orc q)
  | _, w', _, .scr q e, h => by cases h; exact RV.le lo (.scr q e)
  | _, w', _, .clo _ _ _ _ _ _ _ _ _, h => by cases h
  | _, w', _, .clr (k := k) (caps := caps) h1 h2 h3 h4 h5 h6 h7 h8, h => by
    have h : (lookNs cs ws caps).map (.clo k ·) = some w' := h
    cases e : lookNs cs ws caps with
    | none => rw [e] at h; cases h
    | some us =>
      rw [e] at h
      cases h
      obtain ⟨xs, q1, q2, q3⟩ := lookNs_ok r e
      refine .clo h1 (lo.1 _ _ h2) (lo.1 _ _ h3) (h4.le lo.1) (fun i y ey => ?_) h6 h7 (q2.trans h8) (RVs.le lo q1)
      obtain ⟨s, c, a1, a2, a3⟩ := h5 i y ey
      obtain ⟨j, v, b1, b2, b3⟩ := q3 i s a1
      obtain ⟨v', o, d1, d2⟩ := cc.at_ j s y c b1 a2
      rw [b2] at d1
      cases d1
      exact ⟨c, v, a3, b3, o, ov_in d2⟩
  | _, w', _, .err (c := c) (fs := fs) h1 h2 h3 h4 h5 h6 r0, h => by
    have h : cond (noCloL fs) (some (W.err c fs)) none = some w' := h
    cases e : noCloL fs with
    | false => rw [e] at h; cases h
    | true => rw [e] at h; cases h; exact RV.le lo (.err h1 h2 h3 h4 h5 h6 r0)
theorem convL_ok {K : PySem.W.Frag} {G : Gx} {C : Addr → Option HO} {cs : List Nat} {ws : List W} {vs : List V} (r : RVs K G g ws vs) (lo : g.le (g.ov C)) (cc : CellC g C cs vs) : ∀ {us us' : List W} {xs : List V}, RVs K G g us xs → convL cs ws us = some us' → RVs K G (g.ov C) us' xs
  | _, us', _, .nil, h => by cases h; exact .nil
  | _, us', _, .cons (w := u) (ws := us) a r0, h => by
    have h : (match convW cs ws u with
      | some y => (convL cs ws us).map (y :: ·)
      | none => none) = some us' := h
    cases e : convW cs ws u with
    | none => rw [e] at h; cases h
    | some u' =>
      rw [e] at h
      cases e2 : convL cs ws us with
      | none => rw [e2] at h; cases h
      | some us2 =>
        rw [e2] at h
        cases h
        exact .cons (convW_ok r lo cc a e) (convL_ok r lo cc r0 e2)
end
/-- a call in the frame of the slots σ -/
def CallSg (X : Cx) (fv : Value) (vs : List V) (σ : St) (H : Hp) (Q : VK) : Prop := ∀ (pins : List (Addr × Obj)) (s : Shared) (us : List Value), Inv X pins σ H s → Vals vs us → wpAny (model X.prog X.w) X.A (call fv us) (EP X pins σ Q) X.xe s
theorem w_callS {Q : VK} {x : Str} {p pos : Pos} {e : Expr} {es : List Expr} {fa : Addr} (hg : Gl X x) (hm : X.mg x = some (.ref fa)) (hk : PySem.W.keepIn X.K (.ref fa) = true) (hd : (x == ("__debug__" : Str)) = false) (hs : (e :: es).all (fun e => !starB e) = true)
    (h : tWA X (e :: es) σ H fun vs H1 => CallSg X (.ref fa) vs σ H1 Q) : tW X (.Call (.Name x p) (e :: es) [] pos) σ H Q := by
  rw [List.all_cons, Bool.and_eq_true] at hs
  have h1 : starB e = false := by
    cases q : starB e with
    | false => rfl
    | true => rw [q] at hs; cases hs.1
  intro pins s I
  refine wpAny_Call_Name_kw (ld_glob I hg hm (PySem.W.callWith_K (h₀ := X.base) I.ok.mod.kin hk (thn (h pos pins s I) fun us s1 hq => ?_) (star_cons h1) (star_any hs.2)) hd)
  obtain ⟨vs, H1, I1, r, q⟩ := hq
  exact ⟨I1.kIn, q pins s1 us I1 r⟩
theorem args_frz : ∀ {ws : List W} {vs : List V}, RVs f.K f.G g ws vs → ArgsR f g H sl σ (ws.map fun w => (w, false)) vs []
  | _, _, .nil => .nil
  | _, _, .cons a r => .frz a (args_frz r)
/-- a def is called, lambdas are handed over -/
theorem call_clr (ho : HearOk X f) (hK : X.K = f.K) (R : Rl f g b sl σ H) {j : Nat} {fa : Addr} (hf : ∀ f', f'.K = f.K → f'.G = f.G → GivesE T.noX cl j fa X f') {cs : List Nat} {xs : List Str} (nd : xs.Nodup)
    (kds : ∀ y ∈ xs, X.env.scope.names.lookup y = some .cell ∨ X.env.scope.names.lookup y = some .free) {wcs : List W} {vcs : List V} (rcs : RVs f.K f.G g wcs vcs)
    (hx : ∀ (i : Nat) y, xs[i]? = some y → ∃ (s : Nat) (v : V), cs[i]? = some s ∧ X.N[s]? = some y ∧ vcs[i]? = some v ∧ σ[s]? = some (some v)) (hc : ∀ (i s : Nat), cs[i]? = some s → ∃ y, xs[i]? = some y ∧ X.N[s]? = some y)
    {ws ws' : List W} {vs : List V} (rvs : RVs f.K f.G g ws vs) (cv : convL cs wcs ws = some ws') {Q : VK}
    (h : (cl j (ws'.map fun w => (w, false))).wb T.noX b (fun r b' => noClo r.1.1 = true ∧ ∀ g' v H', g.le g' → Rl f g' b' sl σ H' → Vl f g' H' sl σ r.1 v → Q v H')) : CallSg X (.ref fa) vs σ H Q := by
  intro pins s1 us I1 rus
  have inj : ∀ x y c, X.env.cells.lookup x = some c → X.env.cells.lookup y = some c → x = y := fun x y c h1 h2 => I1.ok.inj x y c h1 h2
  obtain ⟨C, hC⟩ := cells_ex (vs := vcs) nd inj s1.heap
  have z := cells_fz hC
  have cellOf : ∀ c u, C c = some u → ∃ y, X.env.cells.lookup y = some c := fun c u e => by
    obtain ⟨i, y, v, o, _, _, h3, _⟩ := (hC c u).mp e
    exact ⟨y, h3⟩
  have n : ∀ c u, C c = some u → H c = none := fun c u e => by
    obtain ⟨y, hy⟩ := cellOf c u e
    exact I1.freeC y c hy
  have above : ∀ c u, C c = some u → X.s_0.heap.objs.size ≤ c := fun c u e => by
    obtain ⟨y, hy⟩ := cellOf c u e
    exact I1.ok.cab y c (ho.fnT y) hy
  have at_ : ∀ (i : Nat) y, xs[i]? = some y → ∃ c v o u, X.env.cells.lookup y = some c ∧ vcs[i]? = some v ∧ s1.heap.get? c = some o ∧ RelV v u ∧ o.data = .cell (some u) ∧ C c = some (.frz o (cellO c v)) := fun i y e => by
    obtain ⟨sx, v, q0, q1, q2, q3⟩ := hx i y e
    have kd := kds y (List.mem_of_getElem? e)
    obtain ⟨mm, hn, lk⟩ := I1.loc
    have vis : Vis X.env.scope y := .inr kd
    obtain ⟨u, ru, lo⟩ := lk sx y v q1 q3 vis
    rcases lo with ⟨y1, _⟩ | ⟨_, c2, y2, o, y3, y4⟩
    · have y1 : X.env.scope.names.lookup y = some .local := y1
      rcases kd with kd | kd <;> (have kd : X.env.scope.names.lookup y = _ := kd; rw [y1] at kd; cases kd)
    · exact ⟨c2, v, o, u, y2, q2, y3, ru, y4, (hC c2 _).mpr ⟨i, y, v, o, e, q2, y2, y3, rfl⟩⟩
  have okC : ∀ c ob φ, C c = some (.frz ob (.ext φ)) → s1.heap.get? c = some ob ∧ φ s1.heap ∧ ∀ h1 h2 : Heap, φ h1 → (∀ o, h1.get? c = some o → h2.get? c = some o) → φ h2 := fun c ob φ e => by
    obtain ⟨i, y, v, o, h1, h2, h3, h4, h5⟩ := (hC c _).mp e
    obtain ⟨c2, v2, o2, u2, k1, k2, k3, k4, k5, _⟩ := at_ i y h1
    rw [h3] at k1
    cases k1
    rw [h2] at k2
    cases k2
    rw [h4] at k3
    cases k3
    have h5 : HO.frz ob (.ext φ) = HO.frz o (.ext fun h => ∃ u, RelV v u ∧ h.IsCell c (some u)) := h5
    cases h5
    exact ⟨h4, ⟨u2, k4, _, h4, k5⟩, fun ha hb ⟨u, r, oo, q1, q2⟩ st => ⟨u, r, oo, st oo q1, q2⟩⟩
  have e0 : Env0 X.prog X.w X.K X.mg X.base X.A X.stack s1 (ov C H) := by
    have e := I1.env0
    refine ⟨e.frames, e.mod, fun a o q => ?_, e.bsz, e.funs, fun a ha => ?_, hok_ov n okC z e.hok, e.bare⟩
    · refine ⟨(e.bs a o q).1, ?_⟩
      cases y : C a with
      | none => rw [ov_out y]; exact (e.bs a o q).2
      | some u =>
        have h1 := above a u y
        have h2 := Heap.lt_size q
        exact absurd (Nat.lt_of_lt_of_le (Nat.lt_of_lt_of_le h2 I1.ok.bsz) h1) (Nat.lt_irrefl _)
    · cases y : C a with
      | none => rw [ov_out y]; exact e.frf a ha
      | some u =>
        obtain ⟨nm, hnm⟩ := cellOf a u y
        rw [ho.stk] at ha
        unfold frs at ha
        rw [List.filterMap_cons, ho.fr] at ha
        rcases List.mem_cons.mp ha with w | w
        · exact (I1.cne nm a hnm w).elim
        · obtain ⟨_, oo, q1, _⟩ := I1.ok.funs.mem w
          exact absurd (Nat.lt_of_lt_of_le (Heap.lt_size q1) (above a u y)) (Nat.lt_irrefl _)
  have lo : g.le (g.ov C) := le_ov fun c u e => R.freeF (n c u e)
  have cc : CellC g C cs vcs := ⟨fun jj s y c e1 e2 => by
    obtain ⟨y', e3, e4⟩ := hc jj s e1
    rw [R.le0.2.2, ho.en] at e2
    unfold envE at e2
    rw [e4] at e2
    have e2 : (X.env.cells.lookup y').map (fun a => (y', a)) = some (y, c) := e2
    cases e5 : X.env.cells.lookup y' with
    | none => rw [e5] at e2; cases e2
    | some c' =>
      rw [e5] at e2
      cases e2
      obtain ⟨c2, v, o, u, k1, k2, k3, k4, k5, k6⟩ := at_ jj y e3
      rw [e5] at k1
      cases k1
      exact ⟨v, o, k2, k6⟩⟩
  have rv' := convL_ok rcs lo cc rvs cv
  have gv := hf (f.into (g.ov C) (ov C H) []) rfl rfl (g.ov C) b [] [] (ov C H) (ws'.map fun w => (w, false)) vs [] (fun v H' => Q v (cutC C H')) (R.ov z n) (args_frz rv') (T.wb_mono (fun r b' q g' v H' l' R' _ vl _ => ?_) h)
  · have rc := gv s1 us e0 rus
    refine wpAny_call (codeAny_mono rc fun r s2 hq => ?_)
    cases r with
    | error e =>
      obtain ⟨_, _, _, _, _, _, _, _, _, _, _, _, y⟩ := hq
      obtain ⟨_, _, _, _, y, _⟩ := y
      exact y.elim
    | ok fl =>
      cases fl with
      | ret u =>
        obtain ⟨v, H', os, bare, un, hok, rv, q⟩ := hq
        have hH : ∀ c u, C c = some u → H' c = some u := fun c u e => by
          obtain ⟨o, φ, rfl⟩ := z c u e
          exact un.frzs c o _ (ov_in e)
        exact I1.after ⟨v, cutC C H', os, bare, un_cut n z (fun c ob φ e => (okC c ob φ e).1) hok un, hok_cut z hH hok, rv, q⟩
      | next => exact hq.elim
      | brk => exact hq.elim
      | cont => exact hq.elim
  · obtain ⟨nc, q⟩ := q
    obtain ⟨l4, R4, hF⟩ := R.unov z n l' R'
    refine q _ v _ l4 R4 ?_
    obtain ⟨⟨w, fr⟩, rest⟩ := r
    cases fr with
    | false => exact RV.cut z hF vl nc
    | true =>
      obtain ⟨a, rfl, oa, v1, v2, v3, _⟩ := vl
      have outA : C a = none := by
        cases y : C a with
        | none => rfl
        | some u =>
          rw [hF a u y] at v1
          cases v1
      have v3 : ov C H a = none := v3
      rw [ov_out outA] at v3
      refine ⟨a, rfl, ?_, ?_, v2, R.free0 v3, R.freeS v3⟩
      · cases w <;> first
          | exact oa.elim
          | (obtain ⟨us, q1, q2⟩ := oa
             first
               | exact ⟨us, by rw [cut_out outA]; exact q1, RVs.cut z hF q2 nc⟩
               | exact ⟨us, by rw [cut_out outA]; exact q1, RVk.cut z hF q2 nc⟩)
      · show cutC C g'.F a = none
        rw [cut_out outA]
        exact v1
end
end Ev
end
end
section
set_option Elab.async false
set_option linter.all false
set_option maxRecDepth 100000
set_option maxHeartbeats 2000000
/-! EvLamC: a lambda is called. -/
noncomputable section
namespace Ev
open PySem PySem.Spec L2
set_option autoImplicit false
/-- the context of a lambda's body -/
def cxL (P : Program) (w : World) (K : PySem.W.Frag) (mg : Str → Option Value) (base : Heap) (m : Lm) (q : Str) (cells : List (Str × Addr)) (fL c' : Addr) (A : Around) (outer : List Env) (s : Shared) (H : Hp) (E : XK) : Cx where
  prog := P
  w := w
  K := K
  mg := mg
  base := base
  A := A.deeper (PySem.W.envX q m.scope s.heap.objs.size fL (.ref c') cells)
  N := m.N ++ lamPs m.params
  s_0 := s
  H_0 := H
  env := PySem.W.envX q m.scope s.heap.objs.size fL (.ref c') cells
  outer := outer
  stack := PySem.W.envX q m.scope s.heap.objs.size fL (.ref c') cells :: outer
  ex := []
  fn := fun _ => false
  calm := true
  pn := []
  xe := fun e s' => wpAny (model P w) (A.deeper (PySem.W.envX q m.scope s.heap.objs.size fL (.ref c') cells)) (leaving (PySem.W.envX q m.scope s.heap.objs.size fL (.ref c') cells) e) (fun _ s'' => L2.CX P w outer H s E e s'') (fun e' s'' => L2.CX P w outer H s E e' s'') s'
/-- what is known of a lambda's syntax -/
structure LamSt (m : Lm) : Prop where
  kind : m.scope.kind = .function
  co : m.scope.isCoroutine = false
  gen : m.scope.isGenerator = false
  nce : ∀ y ∈ m.scope.names, y.2 ≠ .cell
  fre : ∀ y ∈ m.scope.names, y.2 = .free → y.1 ∈ m.N
  has : ∀ x ∈ m.N, m.scope.names.lookup x = some .free
  par : lamP m.params m.scope = true
  nd : (m.N ++ lamPs m.params).Nodup
section
variable {P : Program} {w : World} {K : PySem.W.Frag} {mg : Str → Option Value} {base : Heap} {A : Around} {outer : List Env} {s : Shared} {H : Hp} {f : Fm} {g : Gh} {b : Nat} {sl : Sl} {σ : St} {j : Nat} {ws : List W} {a : Addr} {k : Nat}
theorem lam_binds {m : Lm} (S : LamSt m) {q : Str} {dv doc pm cdv ct : Value} {cells : List (Str × Addr)} (hb : BindsOff H m dv) (hok : HOk P w H s.heap) {us : List Value} (hu : us.length = (lamPs m.params).length) : ∃ bs : List (Str × Value), BindsTo s (PySem.W.kdv_fn "<lambda>" q m.params (.expr m.body) m.scope cells dv doc pm cdv ct) ⟨us, []⟩ bs ∧ (∀ y ∈ bs, m.scope.names.lookup y.1 = some .local) ∧
    ∀ (i : Nat) p, (lamPs m.params)[i]? = some p → ∃ u, us[i]? = some u ∧ bs.reverse.lookup p = some u := by
  obtain ⟨N, params, body, scope⟩ := m
  obtain ⟨po, ar, va, ko, kd, kw, df⟩ := params
  have hp := S.par
  simp only [lamP, Bool.and_eq_true, List.isEmpty_iff, Option.isNone_iff_eq_none] at hp
  obtain ⟨h1, h2, h3, h4, h5, h6⟩ := hp
  subst h1 h2 h3 h4 h5
  rcases hb with ⟨z1, z2⟩ | ⟨T0, i, y, z1, z2, z3, z4, z5⟩ | ⟨y, z1, z2, z3, z4⟩
  · have z1 : ar = [] := z1
    subst z1 z2
    have lp : lamPs ⟨[], [], none, [], [], none, df⟩ = [] := by cases df <;> rfl
    rw [lp] at hu ⊢
    have hu := List.eq_nil_of_length_eq_zero hu
    subst hu
    exact ⟨[], BindsTo.of_eq rfl, fun y hy => (List.not_mem_nil hy).elim, fun i p e => by simp at e⟩
  · have z1 : ar = [y] := z1
    subst z1 z3
    have lp : lamPs ⟨[], [y], none, [], [], none, df⟩ = [] := by
      cases df with
      | nil => exact absurd rfl z5
      | cons _ _ => rfl
    rw [lp] at hu ⊢
    have hu := List.eq_nil_of_length_eq_zero hu
    subst hu
    obtain ⟨_, its, r, ob, e1, e2, n, e3⟩ := hok T0 _ z4
    cases r with
    | cons r rs =>
      cases rs
      obtain ⟨t, rfl⟩ := r
      exact ⟨[(y.arg, .int i t)], BindsTo.of_defaults rfl e1 e3 rfl (by simp [PySem.W.kdv_fn]), fun x hx => by
        rcases List.mem_cons.mp hx with e | e
        · rw [e]; exact z2
        · exact (List.not_mem_nil e).elim, fun i p e => by simp at e⟩
  · have z1 : ar = [y] := z1
    have z2 : df = [] := z2
    subst z1 z2 z4
    match us, hu with
    | [u], _ =>
      refine ⟨[(y.arg, u)], BindsTo.of_eq (bind_plain (ps := [y.arg]) (by show (true && (true && (true && (true && decide ([y.arg] = [y.arg]) && decide ([y.arg].Nodup))))) = true; simp) rfl [u] rfl), fun x hx => ?_, fun i p e => ?_⟩
      · rcases List.mem_cons.mp hx with e | e
        · rw [e]; exact z3
        · exact (List.not_mem_nil e).elim
      · cases i with
        | zero =>
          have e : y.arg = p := by simpa [lamPs] using e
          subst e
          exact ⟨u, rfl, by simp⟩
        | succ i => simp [lamPs] at e
/-- a lambda's call -/
theorem lam_call (e0 : Env0 P w K mg base A outer s H) (room : Room (k + 1) A) (hK : f.K = K) (R : Rl f g b sl σ H) (hst : ∀ m, f.G.lam j m → LamSt m) (rv : RV f.K f.G g (.clo j ws) (.ref a)) {vs0 : List V} {us0 : List Value} (rel : Vals vs0 us0) (hvl : ∀ m, f.G.lam j m → ws.length = m.N.length → vs0.length = (lamPs m.params).length) {Q : VK} {E : XK}
    (hbody : ∀ (m : Lm) (C : Addr → Option HO) (xs : List V) (q : Str) (cells : List (Str × Addr)) (c' : Addr), f.G.lam j m → Fz C → (∀ c u, C c = some u → g.F c = some u) → xs.length = m.N.length → RVs f.K f.G g ws xs →
      Room k (A.deeper (PySem.W.envX q m.scope s.heap.objs.size a (.ref c') cells)) →
      tW (cxL P w K mg base m q cells a c' A outer s (cutC C H) (fun cls d H' => (∀ c u, C c = some u → H' c = none) → E cls d (ov C H'))) m.body ((xs ++ vs0).map some) (cutC C H) (fun v H' => (∀ c u, C c = some u → H' c = none) → Q v (ov C H'))) :
    codeAny (model P w) A (.call (.ref a) ⟨us0, []⟩) (CR (L2.CX P w) outer P w H s Q E) s := by
  cases rv with
  | @clo _ _ c' m q dv doc pm ctv cells _ xs hl kL kc bo h5 h6 inj lv rvs =>
    have S := hst m hl
    -- what was captured
    obtain ⟨C, hC⟩ : ∃ C : Addr → Option HO, ∀ c u, C c = some u ↔ (∃ x, cells.lookup x = some c) ∧ g.F c = some u := by
      classical
      refine ⟨fun c => if ∃ x, cells.lookup x = some c then g.F c else none, fun c u => ⟨fun e => ?_, fun ⟨e1, e2⟩ => ?_⟩⟩
      · by_cases h : ∃ x, cells.lookup x = some c
        · have e : (if ∃ x, cells.lookup x = some c then g.F c else none) = some u := e
          rw [if_pos h] at e
          exact ⟨h, e⟩
        · have e : (if ∃ x, cells.lookup x = some c then g.F c else none) = some u := e
          rw [if_neg h] at e
          cases e
      · show (if ∃ x, cells.lookup x = some c then g.F c else none) = some u
        rw [if_pos e1]
        exact e2
    have cell : ∀ y c, cells.lookup y = some c → ∃ (i : Nat) (v : V) (o : Obj) (u : Value), m.N[i]? = some y ∧ xs[i]? = some v ∧ g.F c = some (.frz o (cellO c v)) ∧ s.heap.get? c = some o ∧ RelV v u ∧ s.heap.IsCell c (some u) := fun y c e => by
      obtain ⟨i, hi⟩ := List.getElem?_of_mem (h6 y c e)
      obtain ⟨c2, v, k1, k2, o, k3⟩ := h5 i y hi
      rw [e] at k1
      cases k1
      obtain ⟨g1, ⟨u, ru, ic⟩, _⟩ := e0.hok c _ (R.sub c _ k3)
      exact ⟨i, v, o, u, hi, k2, k3, g1, ru, ic⟩
    have z : Fz C := fun c u e => by
      obtain ⟨⟨y, hy⟩, e2⟩ := (hC c u).mp e
      obtain ⟨i, v, o, _, _, _, k3, _⟩ := cell y c hy
      rw [e2] at k3
      cases k3
      exact ⟨o, _, rfl⟩
    have hF : ∀ c u, C c = some u → g.F c = some u := fun c u e => ((hC c u).mp e).2
    have hH : ∀ c u, C c = some u → H c = some u := fun c u e => R.sub c u (hF c u e)
    have inC : ∀ y c, cells.lookup y = some c → ∃ u, C c = some u := fun y c e => by
      obtain ⟨i, v, o, _, _, _, k3, _⟩ := cell y c e
      exact ⟨_, (hC c _).mpr ⟨⟨y, e⟩, k3⟩⟩
    have fsC : ∀ c u, C c = some u → c ∉ frs outer := fun c u e hc => by
      have := e0.frf c hc
      rw [hH c u e] at this
      cases this
    have okS : ∀ c ob φ, C c = some (.frz ob (.ext φ)) → s.heap.get? c = some ob ∧ φ s.heap ∧ ∀ h1 h2 : Heap, φ h1 → (∀ o, h1.get? c = some o → h2.get? c = some o) → φ h2 := fun c ob φ e => by
      obtain ⟨g1, g2, _, g3⟩ := e0.hok c _ (hH c _ e)
      exact ⟨g1, g2, g3⟩
    -- the call
    have at1 : s.heap.get? a = some (lamO m q dv doc cells pm c' ctv) := (e0.hok a _ (R.sub a _ kL)).1
    obtain ⟨⟨oc, vs, t, hoc, hdc, hvc⟩, _, _⟩ := e0.hok c' _ (R.sub c' _ kc)
    have hul : us0.length = (lamPs m.params).length := by rw [← rel.length]; exact hvl m hl (rvs.len.trans lv)
    obtain ⟨bs, bt, bl, bp⟩ := lam_binds (P := P) (w := w) (s := s) (H := H) S (q := q) (doc := doc) (pm := pm) (cdv := .ref c') (ct := ctv) (cells := cells) (bo.le R.sub) e0.hok hul
    have noL : s.heap.NoLimit := e0.mod.nolimit.keeps fun c o e => (e0.bs c o e).1
    refine PySem.W.kla_callFunE room.depth at1 rfl S.co S.gen rfl ⟨c', oc, vs, t, rfl, hoc, hdc, hvc⟩ (bt _ _ _ _ ?_)
    refine wpAny_newFunctionEnv S.nce bl (fun h₁ hns hsb => ⟨noL.fresh _ hsb, ?_⟩) S.kind
    show codeAny _ _ (.expr m.body (PySem.W.envX q m.scope s.heap.objs.size a (.ref c') cells)) _ _
    have kp : ∀ b o, s.heap.get? b = some o → h₁.get? b = some o := fun b o e => hsb.extBut b o (Nat.ne_of_lt (Heap.lt_size e)) (Heap.get?_push_of_some _ e)
    have noA : ∀ b : Addr, b ∉ ([] : List Addr) := fun b => List.not_mem_nil
    have cutN : ∀ c, H c = none → cutC C H c = none := fun c e => by
      cases y : C c with
      | none => rw [cut_out y]; exact e
      | some u => exact cut_in y
    have J : Inv (cxL P w K mg base m q cells a c' A outer s (cutC C H) (fun cls d H' => (∀ c u, C c = some u → H' c = none) → E cls d (ov C H'))) [] ((xs ++ vs0).map some) (cutC C H) { s with heap := h₁, toks := s.toks + bs.length } := by
      refine ⟨⟨e0.mod, S.kind, rfl, rfl, Nat.le_refl _, fun y y' c e1 e2 => inj y y' c e1 e2, fun y hy => ?_, fun y c q => (by cases q), fun _ => room.hd, Around.frames_deeper e0.frames, .inr ⟨rfl, rfl⟩, fun b q => (noA b q).elim, fun b o q => ⟨(e0.bs b o q).1, cutN b (e0.bs b o q).2⟩, e0.bsz, fun b _ _ => noA b, fun b q => (noA b q).elim, e0.funs, fun b q => cutN b (e0.frf b q)⟩,
        rfl, e0.bare, Un.kept kp, ⟨_, hns, fun i y v e1 e2 e3 => ?_⟩, fun y c e => ?_, ?_, fun y c e => ?_, fun p q => ?_, (hok_cut z hH e0.hok).kept kp, ?_⟩
      · have hy : m.scope.names.lookup y = some .cell ∨ m.scope.names.lookup y = some .free := hy
        rcases hy with hy | hy
        · exact absurd rfl (S.nce _ (PySem.mem_of_lookup hy))
        · obtain ⟨i, hi⟩ := List.getElem?_of_mem (S.fre _ (PySem.mem_of_lookup hy) rfl)
          obtain ⟨c2, v, k1, _⟩ := h5 i y hi
          exact ⟨c2, k1⟩
      · have e1 : (m.N ++ lamPs m.params)[i]? = some y := e1
        have e2 : ((xs ++ vs0).map some)[i]? = some (some v) := e2
        rw [List.getElem?_map] at e2
        have e2 : (xs ++ vs0)[i]? = some v := by
          cases q : (xs ++ vs0)[i]? with
          | none => rw [q] at e2; cases e2
          | some z =>
            rw [q] at e2
            have e2 : some z = some v := Option.some.inj e2
            exact e2
        by_cases hi : i < m.N.length
        · rw [List.getElem?_append_left hi] at e1
          rw [List.getElem?_append_left (by rw [lv]; exact hi)] at e2
          obtain ⟨c2, v2, k1, k2, _⟩ := h5 i y e1
          obtain ⟨i2, v3, o, u, q1, q2, q3, q4, q5, q6⟩ := cell y c2 k1
          have ei : i2 = i := by
            have l1 := List.getElem?_eq_some_iff.mp q1
            exact (List.getElem?_inj l1.1 (List.nodup_append.mp S.nd).1).mp (q1.trans e1.symm)
          subst ei
          rw [q2] at e2
          cases e2
          obtain ⟨oo, p1, p2⟩ := q6
          exact ⟨u, q5, .inr ⟨.inr (S.has y (List.mem_of_getElem? e1)), c2, k1, oo, kp _ _ p1, p2⟩⟩
        · rw [List.getElem?_append_right (by omega)] at e1
          rw [List.getElem?_append_right (by omega), lv] at e2
          obtain ⟨u, hu1, hu2⟩ := bp _ y e1
          obtain ⟨u2, hu3, hu4⟩ := rel.get e2
          rw [hu1] at hu3
          cases hu3
          exact ⟨u, hu4, .inl ⟨bl (y, u) (List.mem_reverse.mp (PySem.mem_of_lookup hu2)), hu2⟩⟩
      · obtain ⟨_, _, _, u, _, _, _, _, _, oo, p1, p2⟩ := cell y c e
        exact ⟨some u, oo, kp _ _ p1, p2⟩
      · exact cutN _ (e0.hok.fresh (Nat.le_refl _))
      · obtain ⟨u, hu⟩ := inC y c e
        exact cut_in hu
      · exact (List.not_mem_nil (show p ∈ ([] : List (Addr × Obj)) ++ [] from q)).elim
      · rw [List.length_map]
        show (xs ++ vs0).length = (m.N ++ lamPs m.params).length
        rw [List.length_append, List.length_append, lv, hvl m hl (rvs.len.trans lv)]
    have body := hbody m C xs q cells c' hl z hF lv rvs (room.deeper _)
    refine PySem.W.kla_codeExpr (wpAny_mono (body [] _ J) (fun v s' hq => ?_) fun e s' hq => ?_)
    · obtain ⟨v', H', J', r', q'⟩ := hq
      have nH : ∀ c u, C c = some u → H' c = none := fun c u e => by
        obtain ⟨⟨y, hy⟩, _⟩ := (hC c u).mp e
        exact J'.freeC y c hy
      have un : Un (frs outer) [] (cutC C H) H' s.heap s'.heap := J'.base
      refine ⟨v', ov C H', J'.os, J'.bare, un_ov hH z un, hok_ov nH (fun c ob φ e => ?_) z J'.hok, r', q' nH⟩
      obtain ⟨g1, g2, g3⟩ := okS c ob φ e
      have k1 := un.keep c ob g1 (cut_in e) (fsC c _ e) (noA c)
      exact ⟨k1, g3 _ _ g2 fun o q => by rw [g1] at q; cases q; exact k1, g3⟩
    · -- it raises
      have conv : ∀ e' s'', L2.CX P w outer (cutC C H) s (fun cls d H' => (∀ c u, C c = some u → H' c = none) → E cls d (ov C H')) e' s'' → L2.CX P w outer H s E e' s'' := fun e' s'' ⟨x, B, H', cls, d, e1, fl, hokB, ub, na, os, ag, hE⟩ => by
        have nH : ∀ c u, C c = some u → H' c = none := fun c u e => by
          obtain ⟨ob, φ, rfl⟩ := z c u e
          exact ub.free c ob (okS c ob φ e).1 (cut_in e)
        have kB : ∀ c ob φ, C c = some (.frz ob (.ext φ)) → B.get? c = some ob := fun c ob φ e => ub.keep c ob (okS c ob φ e).1 (cut_in e) (fsC c _ e)
        refine ⟨x, B, ov C H', cls, d, e1, fl, hok_ov nH (fun c ob φ e => ?_) z hokB, ub_ov hH z ub, ?_, os, ag, hE nH⟩
        · obtain ⟨g1, g2, g3⟩ := okS c ob φ e
          exact ⟨kB c ob φ e, g3 _ _ g2 fun o q => by rw [g1] at q; cases q; exact kB c ob φ e, g3⟩
        · cases y : C x with
          | none => rw [ov_out y]; exact na
          | some u =>
            obtain ⟨ob, φ, rfl⟩ := z x u y
            have h1 := kB x ob φ y
            rw [fl.2.1] at h1
            cases h1
      refine wpAny_mono (show wpAny _ _ _ _ _ _ from hq) (fun _ s'' h => conv e s'' h) fun e' s'' h => conv e' s'' h
end
end Ev
end
end
section
set_option Elab.async false
set_option linter.all false
set_option maxRecDepth 100000
set_option maxHeartbeats 2000000
/-! EvCv: names of defs as values, calls of what a name holds, calls with a lambda. -/
noncomputable section
namespace Ev
open PySem PySem.Spec L2
set_option autoImplicit false
variable {XE : XP}
section
variable {tb : Tb} {N : List Str} {cl : Cl} {io : Nat → List Bool} {cn : Nat → W} {f : Fm}
variable {X : Cx} {sc : Scope} {e : Expr} {es : List Expr} {sl : Sl} {σ : St} {H : Hp} {g : Gh} {b : Nat} {Q : VK}
theorem se_fnv (j : Nat) : SE tb N cl io cn f (.fnv j) := ⟨fun {XE X sc e} o c {sl σ H g b Q} R h => by
  unfold chkE at c
  cases hn : asName e with
  | none => rw [hn] at c; cases c
  | some x =>
    rw [hn] at c
    obtain ⟨p, rfl⟩ := asName_ok hn
    simp only [Bool.and_eq_true, okN, Bool.not_eq_true'] at c
    obtain ⟨c1, c2, c3, _⟩ := c
    obtain ⟨fa, hm, hk, hG, _⟩ := o.fn j x (atB_ok c1)
    exact of_pe (pe_glob (v := .ref fa) (o.glo x c2) hm rfl c3) (h g (.ref fa) H (Gh.le.refl g) R (.fn hG))⟩
theorem argsR_frz {ws : List W} {vs : List V} : RVs f.K f.G g ws vs → ArgsR f g H sl σ (ws.map fun w => (w, false)) vs []
  | .nil => .nil
  | .cons a r => .frz a (argsR_frz r)
/-- x(..), x a name of the frame -/
theorem w_callV {x : Str} {p pos : Pos} {i : Nat} {fa : Addr} (hN : X.N[i]? = some x) (hv : Vis X.env.scope x) (hd : (x == ("__debug__" : Str)) = false) (hc : (x == ("__classdict__" : Str)) = false) (hσ : σ[i]? = some (some (.ref fa))) (hk : PySem.W.keepIn X.K (.ref fa) = true) (hs : (e :: es).all (fun e => !starB e) = true)
    (h : tWA X (e :: es) σ H fun vs H1 => CallW X (.ref fa) vs H1 Q) : tW X (.Call (.Name x p) (e :: es) [] pos) σ H Q := by
  intro pins s I
  refine wpAny_Call_Name_kw (thn ((pe_var (pos := p) (i := i) hN hv hd hc).run pins s σ H (fun v H1 => v = .ref fa ∧ H1 = H) I ⟨.ref fa, hσ, rfl, rfl⟩) fun u s1 ⟨v, H1, I1, r1, q1, q2⟩ => ?_)
  subst q1 q2
  obtain rfl : u = Value.ref fa := r1
  rw [List.all_cons, Bool.and_eq_true] at hs
  have h1 : starB e = false := by simpa using hs.1
  refine PySem.W.callWith_K (h₀ := X.base) I.ok.mod.kin hk (thn (h pos pins s1 I1) fun us s2 hq => ?_) (star_cons h1) (star_any hs.2)
  obtain ⟨vs, H2, I2, r, q⟩ := hq
  exact ⟨I2.kIn, q pins s2 σ us I2 r⟩
theorem w_callV0 {x : Str} {p pos : Pos} {i : Nat} {fa : Addr} (hN : X.N[i]? = some x) (hv : Vis X.env.scope x) (hd : (x == ("__debug__" : Str)) = false) (hc : (x == ("__classdict__" : Str)) = false) (hσ : σ[i]? = some (some (.ref fa))) (hk : PySem.W.keepIn X.K (.ref fa) = true)
    (h : CallW X (.ref fa) [] H Q) : tW X (.Call (.Name x p) [] [] pos) σ H Q := by
  intro pins s I
  refine wpAny_Call_Name_kw (thn ((pe_var (pos := p) (i := i) hN hv hd hc).run pins s σ H (fun v H1 => v = .ref fa ∧ H1 = H) I ⟨.ref fa, hσ, rfl, rfl⟩) fun u s1 ⟨v, H1, I1, r1, q1, q2⟩ => ?_)
  subst q1 q2
  obtain rfl : u = Value.ref fa := r1
  exact PySem.W.callWith_K0 I1.kIn hk (h pins s1 σ [] I1 .nil)
/-- x(), x a name that holds a lambda -/
theorem w_callL {x : Str} {p pos : Pos} {i : Nat} {fa : Addr} {o : Obj} {fd : FuncData} (hN : X.N[i]? = some x) (hv : Vis X.env.scope x) (hd : (x == ("__debug__" : Str)) = false) (hc : (x == ("__classdict__" : Str)) = false) (hσ : σ[i]? = some (some (.ref fa))) (ha : H fa = some (.frz o (.ext fun _ => True))) (ho : o.data = .func fd)
    (h : CallW X (.ref fa) [] H Q) : tW X (.Call (.Name x p) [] [] pos) σ H Q := by
  intro pins s I
  refine wpAny_Call_Name_kw (thn ((pe_var (pos := p) (i := i) hN hv hd hc).run pins s σ H (fun v H1 => v = .ref fa ∧ H1 = H) I ⟨.ref fa, hσ, rfl, rfl⟩) fun u s1 ⟨v, H1, I1, r1, q1, q2⟩ => ?_)
  subst q1 q2
  obtain rfl : u = Value.ref fa := r1
  obtain ⟨oc, od, dt, osl⟩ := o
  have ho : dt = .func fd := ho
  subst ho
  exact PySem.W.callWith_F0 ⟨oc, od, fd, osl, (I1.hok fa _ ha).1⟩ (h pins s1 σ [] I1 .nil)
theorem w_callLs {x : Str} {p pos : Pos} {i : Nat} {fa : Addr} {o : Obj} {fd : FuncData} (hN : X.N[i]? = some x) (hv : Vis X.env.scope x) (hd : (x == ("__debug__" : Str)) = false) (hc : (x == ("__classdict__" : Str)) = false) (hσ : σ[i]? = some (some (.ref fa))) (ha : H fa = some (.frz o (.ext fun _ => True))) (ho : o.data = .func fd) (hs : (e :: es).all (fun e => !starB e) = true)
    (h : tWA X (e :: es) σ H fun vs H1 => H1 fa = some (.frz o (.ext fun _ => True)) ∧ CallW X (.ref fa) vs H1 Q) : tW X (.Call (.Name x p) (e :: es) [] pos) σ H Q := by
  intro pins s I
  refine wpAny_Call_Name_kw (thn ((pe_var (pos := p) (i := i) hN hv hd hc).run pins s σ H (fun v H1 => v = .ref fa ∧ H1 = H) I ⟨.ref fa, hσ, rfl, rfl⟩) fun u s1 ⟨v, H1, I1, r1, q1, q2⟩ => ?_)
  subst q1 q2
  obtain rfl : u = Value.ref fa := r1
  rw [List.all_cons, Bool.and_eq_true] at hs
  have h1 : starB e = false := by simpa using hs.1
  obtain ⟨oc, od, dt, osl⟩ := o
  have ho : dt = .func fd := ho
  subst ho
  refine PySem.W.callWith_F (first := []) ⟨oc, od, fd, osl, (I1.hok fa _ ha).1⟩ (thn (h pos pins s1 I1) fun us s2 hq => ?_) (star_cons h1) (star_any hs.2)
  obtain ⟨vs, H2, I2, r, q1, q⟩ := hq
  exact ⟨⟨oc, od, fd, osl, (I2.hok fa _ q1).1⟩, q pins s2 σ us I2 r⟩
theorem fn_slot (R : Rl f g b sl σ H) {i j : Nat} {fr : Bool} (h : sl[i]? = some (some (.fn j, fr))) : ∃ fa, σ[i]? = some (some (.ref fa)) ∧ f.G.fn j = some fa := by
  cases fr with
  | false =>
    obtain ⟨v, h1, h2⟩ := R.frz i _ h
    cases h2 with
    | fn q => exact ⟨_, h1, q⟩
  | true =>
    obtain ⟨a, _, h2, _⟩ := R.own i _ h
    exact h2.elim
theorem clo_slot (R : Rl f g b sl σ H) {i j : Nat} {vs : List W} {fr : Bool} (h : sl[i]? = some (some (.clo j vs, fr))) : ∃ fa o fd, σ[i]? = some (some (.ref fa)) ∧ RV f.K f.G g (.clo j vs) (.ref fa) ∧ H fa = some (.frz o (.ext fun _ => True)) ∧ o.data = .func fd := by
  cases fr with
  | false =>
    obtain ⟨v, h1, h2⟩ := R.frz i _ h
    have h2' := h2
    cases h2 with
    | clo _ q => exact ⟨_, _, _, h1, h2', R.sub _ _ q, rfl⟩
  | true =>
    obtain ⟨a, _, h2, _⟩ := R.own i _ h
    exact h2.elim
theorem se_callv {i : Nat} {es : Exs} (S : AllX (SE tb N cl io cn f) es) : SX tb N cl io cn f (.callv i es) := by
  have go : SE tb N cl io cn f (.callv i es) := ⟨fun {XE X sc e} o c {sl σ H g b Q} R h => by
    unfold chkE at c
    cases hc : asCall e with
    | none => rw [hc] at c; cases c
    | some y =>
      rw [hc] at c
      obtain ⟨x, fs⟩ := y
      obtain ⟨p, q, rfl⟩ := asCall_ok hc
      simp only [Bool.and_eq_true, okN, Bool.not_eq_true'] at c
      obtain ⟨c1, c2, ⟨c3, c3', _⟩, c4⟩ := c
      have hN : X.N[i]? = some x := by rw [o.hN]; exact atB_ok c1
      obtain ⟨⟨w, fr⟩, e1, h⟩ := rd_wb (T.wb_bind.mp (show (kCallv cl i (evL cl io cn es) sl).wb XE b _ from h))
      cases w with
      | fn j =>
        obtain ⟨kj, h⟩ := T.wb_guard h
        obtain ⟨fa, s1, hG⟩ := fn_slot R e1
        obtain ⟨x', hx'⟩ := o.gfn j fa hG (Nat.le_of_ble_eq_true kj)
        obtain ⟨fa', hm, hk, hG', hf⟩ := o.fn j x' hx'
        rw [hG] at hG'
        cases hG'
        have inner : ∀ {ws : List W} {vs : List V} {sl1 : Sl} {b' : Nat} {g' : Gh} {H' : Hp}, g.le g' → Rl f g' b' sl1 σ H' → RVs f.K f.G g' ws vs →
            T.wb XE ((cl j (ws.map fun w => (w, false))).bind fun r => T.ok (r.1, sl1)) b' (fun r b' => ∀ g' v H', g.le g' → Rl f g' b' r.2 σ H' → Vl f g' H' r.2 σ r.1 v → Q v H') → CallW X (.ref fa) vs H' Q := fun {ws vs sl1 b' g' H'} l R' rvs k =>
          CallE.w o.tk (CallC.e (hf XE X f (Sib.refl X) rfl rfl g' b' sl1 σ H' _ vs [] Q R' (argsR_frz rvs) (T.wb_mono (fun r b3 k3 g3 v H3 l3 R3 tm vl nv => k3 g3 v H3 (l.trans l3) R3 vl) (T.wb_bind.mp k))))
        cases fs with
        | nil =>
          cases es with
          | cons _ _ => cases c4
          | nil => exact w_callV0 hN (o.vis x c2) c3 c3' s1 hk (inner (Gh.le.refl g) R .nil (ws := []) (T.wb_bind.mp h))
        | cons f1 fs =>
          refine w_callV hN (o.vis x c2) c3 c3' s1 hk (chkL_star c4) (lA_ok S o c4 R (T.wb_mono (fun r b' k g' vs H' l R' rvs => ?_) (T.wb_bind.mp h)))
          exact inner l R' rvs k
      | clo j vs =>
        obtain ⟨fa, ob, fd, s1, rv, ha, hob⟩ := clo_slot R e1
        have inner : ∀ {ws : List W} {xs : List V} {sl1 : Sl} {b' : Nat} {g' : Gh} {H' : Hp}, g.le g' → Rl f g' b' sl1 σ H' → RVs f.K f.G g' ws xs →
            T.wb XE ((cl j ((vs ++ ws).map fun w => (w, false))).bind fun r => T.ok (r.1, sl1)) b' (fun r b' => ∀ g' v H', g.le g' → Rl f g' b' r.2 σ H' → Vl f g' H' r.2 σ r.1 v → Q v H') → CallW X (.ref fa) xs H' Q := fun {ws xs sl1 b' g' H'} l R' rvs k =>
          CallE.w o.tk (CallC.e (o.lam XE X f (Sib.refl X) rfl rfl g' b' sl1 σ H' j vs ws fa xs Q R' (rv.le l) rvs (T.wb_mono (fun r b3 k3 g3 v H3 l3 R3 vl => k3 g3 v H3 (l.trans l3) R3 vl) (T.wb_bind.mp k))))
        cases fs with
        | nil =>
          cases es with
          | cons _ _ => cases c4
          | nil => exact w_callL hN (o.vis x c2) c3 c3' s1 ha hob (inner (Gh.le.refl g) R .nil (ws := []) (T.wb_bind.mp h))
        | cons f1 fs =>
          refine w_callLs hN (o.vis x c2) c3 c3' s1 ha hob (chkL_star c4) (lA_ok S o c4 R (T.wb_mono (fun r b' k g' vs' H' l R' rvs => ⟨?_, inner l R' rvs k⟩) (T.wb_bind.mp h)))
          have rv' := rv.le l
          obtain ⟨ob', hh⟩ : ∃ ob', g.F fa = some ob' := by
            cases rv with
            | clo _ q => exact ⟨_, q⟩
          have e1 := R.sub _ _ hh
          rw [ha] at e1
          cases e1
          exact R'.sub _ _ (l.1 _ _ hh)
      | _ => exact h.elim⟩
  refine ⟨go, ST.of go fun {sc e} c => ?_⟩
  unfold chkE at c
  cases hc : asCall e with
  | none => rw [hc] at c; cases c
  | some y =>
    obtain ⟨p, q, rfl⟩ := asCall_ok hc
    rfl
theorem capsN_at : ∀ {caps : List Nat} {xs : List Str}, capsN N caps = some xs → caps.length = xs.length ∧ ∀ (i : Nat) y, xs[i]? = some y → ∃ k, caps[i]? = some k ∧ N[k]? = some y
  | [], xs, h => by
    cases h
    exact ⟨rfl, fun i y e => by simp at e⟩
  | k :: r, xs, h => by
    unfold capsN at h
    cases hn : nth N k with
    | none => rw [hn] at h; cases h
    | some x =>
      rw [hn] at h
      cases hr : capsN N r with
      | none => rw [hr] at h; cases h
      | some ys =>
        rw [hr] at h
        cases h
        obtain ⟨h1, h2⟩ := capsN_at hr
        refine ⟨congrArg (· + 1) h1, fun i y e => ?_⟩
        cases i with
        | zero =>
          cases e
          exact ⟨k, rfl, by rw [← nth_eq]; exact hn⟩
        | succ i => exact h2 i y (by simpa using e)
theorem se_hear {j k : Nat} {caps : List Nat} : SX tb N cl io cn f (.hear j k caps) := by
  have go : SE tb N cl io cn f (.hear j k caps) := ⟨fun {XE X sc e} o c {sl σ H g b Q} R h => by
    unfold chkE at c
    cases hc : asHear e with
    | none => rw [hc] at c; cases c
    | some y =>
      obtain ⟨x, ps, bd, sp⟩ := y
      rw [hc] at c
      obtain ⟨p, lp, q, rfl⟩ := asHear_ok hc
      dsimp only at c
      cases hx : capsN N caps with
      | none => rw [hx] at c; simp at c
      | some xs =>
        rw [hx] at c
        simp only [Bool.and_eq_true, okN, Bool.not_eq_true'] at c
        obtain ⟨c1, c2, ⟨c3, _⟩, c4, c5, c6, c7, c8⟩ := c
        obtain ⟨fa, hm, hk, _, hf⟩ := o.fn j x (atB_ok c1)
        obtain ⟨ws, sl1, g1, vs, h, l1, R1, rvs, nc, lv, at_⟩ := capsV_ok R (T.wb_bind.mp (show (kHear cl j k caps sl).wb XE b _ from h))
        obtain ⟨q1, q2⟩ := capsN_at hx
        have h := T.wb_calm (T.wb_bind.mp h)
        unfold lamSc at c6
        simp only [Bool.and_eq_true, List.all_eq_true] at c6
        obtain ⟨d1, d2, d3, d4, d5, d6, d7⟩ := c6
        refine w_hear (m := ⟨xs, ps, bd, sp⟩) (caps := caps) (o.hea c4 c5) o.bx.hK R1 (o.glo x c2) hm hk c3 (fun f' k1 k2 => hf T.noX X f' (Sib.refl X) k1 k2) c7 (o.lmk _ _ _ _ _ c8) (of_decide_eq_true d7) (fun y hy ey => ?_) rvs (lv.trans q1) (fun i y e => ?_) (T.wb_mono (fun r b' q => ?_) h)
        · have := d5 y hy
          rw [ey] at this
          have this : (xs.any (fun x => eqS x y.1) && (match sc.names.lookup y.1 with
            | some .cell => true
            | some .free => true
            | _ => false)) = true := this
          simp only [Bool.and_eq_true, List.any_eq_true] at this
          obtain ⟨⟨z, z1, z2⟩, z3⟩ := this
          rw [eqS_iff.mp z2] at z1
          refine ⟨o.cf y.1 ?_, z1⟩
          split at z3
          · rename_i e; exact .inl e
          · rename_i e; exact .inr e
          · cases z3
        · obtain ⟨kk, e1, e2⟩ := q2 i y e
          obtain ⟨v, e3, e4⟩ := at_ i kk e1
          have := d6 y (List.mem_of_getElem? e)
          refine ⟨kk, v, by rw [o.hN]; exact e2, e3, e4, ?_⟩
          have z := this.2.2
          split at z
          · assumption
          · cases z
        · obtain ⟨k1, k2⟩ := T.wb_guard q
          exact ⟨k1, fun g' v H' l R' vl => k2 g' v H' (l1.trans l) R' vl⟩⟩
  refine ⟨go, ST.of go fun {sc e} c => ?_⟩
  unfold chkE at c
  cases hc : asHear e with
  | none => rw [hc] at c; cases c
  | some y =>
    obtain ⟨p, lp, q, rfl⟩ := asHear_ok hc
    rfl
theorem capsN_sc {sc : Scope} {xs : List Str} (h : cellsB sc xs = true) : xs.Nodup ∧ ∀ y ∈ xs, sc.names.lookup y = some .cell ∨ sc.names.lookup y = some .free := by
  unfold cellsB at h
  rw [Bool.and_eq_true, List.all_eq_true] at h
  refine ⟨of_decide_eq_true h.2, fun y hy => ?_⟩
  have z := h.1 y hy
  split at z
  · rename_i e; exact .inl e
  · rename_i e; exact .inr e
  · cases z
theorem se_lamr {k : Nat} {caps : List Nat} : SE tb N cl io cn f (.lamr k caps) := ⟨fun {XE X sc e} o c {sl σ H g b Q} R h => by
  unfold chkE at c
  cases hc : asLam e with
  | none => rw [hc] at c; cases c
  | some y =>
    obtain ⟨ps, bd, sp⟩ := y
    rw [hc] at c
    obtain ⟨lp, rfl⟩ := asLam_ok hc
    dsimp only at c
    cases hx : capsN N caps with
    | none => rw [hx] at c; simp at c
    | some xs =>
      rw [hx] at c
      simp only [Bool.and_eq_true] at c
      obtain ⟨c4, c5, c6, c7, c8⟩ := c
      obtain ⟨q1, q2⟩ := capsN_at hx
      unfold lamSc at c6
      simp only [Bool.and_eq_true, List.all_eq_true] at c6
      obtain ⟨d1, d2, d3, d4, d5, d6, d7⟩ := c6
      refine w_lamr (m := ⟨xs, ps, bd, sp⟩) (caps := caps) (k := k) (o.hea c4 c5) R c7 (o.lmk _ _ _ _ _ c8) (fun y hy ey => ?_) q1 (fun i y e => ?_) (fun g' fL H1 l R' rv => ?_)
      · have := d5 y hy
        rw [ey] at this
        have this : (xs.any (fun x => eqS x y.1) && (match sc.names.lookup y.1 with
          | some .cell => true
          | some .free => true
          | _ => false)) = true := this
        simp only [Bool.and_eq_true, List.any_eq_true] at this
        obtain ⟨⟨z, z1, z2⟩, z3⟩ := this
        rw [eqS_iff.mp z2] at z1
        refine ⟨o.cf y.1 ?_, z1⟩
        split at z3
        · rename_i e; exact .inl e
        · rename_i e; exact .inr e
        · cases z3
      · obtain ⟨kk, e1, e2⟩ := q2 i y e
        have := d6 y (List.mem_of_getElem? e)
        refine ⟨kk, e1, by rw [o.hN]; exact e2, ?_⟩
        have z := this.2.2
        split at z
        · assumption
        · cases z
      · exact (show ∀ g' v H', g.le g' → Rl f g' b sl σ H' → Vl f g' H' sl σ (.clr k caps, false) v → Q v H' from h) g' _ H1 l R' rv⟩
theorem se_callC {j : Nat} {cs : List Nat} {es : Exs} (S : AllX (SE tb N cl io cn f) es) : SX tb N cl io cn f (.callC j cs es) := by
  have go : SE tb N cl io cn f (.callC j cs es) := ⟨fun {XE X sc e} o c {sl σ H g b Q} R h => by
    unfold chkE at c
    cases hc : asCall e with
    | none => rw [hc] at c; cases c
    | some y =>
      obtain ⟨x, fs⟩ := y
      rw [hc] at c
      obtain ⟨p, q, rfl⟩ := asCall_ok hc
      dsimp only at c
      cases hx : capsN N cs with
      | none => rw [hx] at c; simp at c
      | some xs =>
        rw [hx] at c
        simp only [Bool.and_eq_true, okN, Bool.not_eq_true'] at c
        obtain ⟨c1, c2, ⟨c3, _⟩, c4, c5, c6, c7, c8⟩ := c
        obtain ⟨fa, hm, hk, _, hf⟩ := o.fn j x (atB_ok c1)
        obtain ⟨q1, q2⟩ := capsN_at hx
        obtain ⟨nd, kds⟩ := capsN_sc c6
        cases fs with
        | nil => cases c7
        | cons e1 es1 =>
          refine w_callS (o.glo x c2) hm hk c3 (chkL_star c8) (lA_ok S o c8 R (T.wb_mono (fun r b' k g' vs H' l R' rvs => ?_) (T.wb_bind.mp (show (kCallC cl j cs (evL cl io cn es) sl).wb XE b _ from h))))
          obtain ⟨wcs, sl1, g1, vcs, k, l1, R1, rcs, nc, lv, at_⟩ := capsV_ok R' (T.wb_bind.mp k)
          obtain ⟨ws', cv, k⟩ := T.wb_opt (T.wb_bind.mp k)
          have k := T.wb_calm (T.wb_bind.mp k)
          refine call_clr (o.hea c4 c5) o.bx.hK R1 (fun f' k1 k2 => hf T.noX X f' (Sib.refl X) k1 k2) nd (fun y hy => o.cf y (kds y hy)) rcs (fun i y e => ?_) (fun i s e => ?_) (RVs.le l1 rvs) cv (T.wb_mono (fun r2 b2 q => ?_) k)
          · obtain ⟨kk, e1, e2⟩ := q2 i y e
            obtain ⟨v, e3, e4⟩ := at_ i kk e1
            exact ⟨kk, v, e1, by rw [o.hN]; exact e2, e3, e4⟩
          · have hi : i < xs.length := by
              rw [← q1]
              exact (List.getElem?_eq_some_iff.mp e).1
            obtain ⟨kk, e1, e2⟩ := q2 i _ (List.getElem?_eq_getElem hi)
            rw [e] at e1
            cases e1
            exact ⟨_, List.getElem?_eq_getElem hi, by rw [o.hN]; exact e2⟩
          · obtain ⟨k1, k2⟩ := T.wb_guard q
            exact ⟨k1, fun g' v H' l' R' vl => k2 g' v H' ((l.trans l1).trans l') R' vl⟩⟩
  refine ⟨go, ST.of go fun {sc e} c => ?_⟩
  unfold chkE at c
  cases hc : asCall e with
  | none => rw [hc] at c; cases c
  | some y =>
    obtain ⟨p, q, rfl⟩ := asCall_ok hc
    rfl
/-- x.n, x an error that is known -/
theorem w_fld {x n : Str} {p pos : Pos} {i : Nat} {a C dd : Addr} {nm : List (Str × V)} {v : V} (hN : X.N[i]? = some x) (hv : Vis X.env.scope x) (hd : (x == ("__debug__" : Str)) = false) (hc : (x == ("__classdict__" : Str)) = false) (hσ : σ[i]? = some (some (.ref a))) (ha : H a = some (errO a (.ref C) (some dd))) (hdd : H dd = some (.xd nm)) (hl : nm.lookup n = some v)
    (T : XfC X.K C) (hno : PySem.W.findIn X.K (.ref C) n = some none) (h : Q v H) (hb : attributeBase (.Name x p) n X.env (eval (.Name x p) X.env) = eval (.Name x p) X.env) : tW X (.Attribute (.Name x p) n pos) σ H Q := by
  intro pins s I
  refine attr_of hb (thn ((pe_var (pos := p) (i := i) hN hv hd hc).run pins s σ H (fun v H1 => v = .ref a ∧ H1 = H) I ⟨.ref a, hσ, rfl, rfl⟩) fun u s1 ⟨v1, H1, I1, r1, q1, q2⟩ => ?_)
  subst q1 q2
  obtain rfl : u = Value.ref a := r1
  obtain ⟨⟨oe, vs, g1, g2, g3⟩, _⟩ := I1.hok a _ ha
  obtain ⟨mA, hns, hr⟩ := I1.hok dd _ hdd
  obtain ⟨od, ho, lk⟩ := lookIn_ns hns
  obtain ⟨w1, hu, ru⟩ := RelO.some_of (v := v) (o := mA n) (by rw [← hl]; exact hr n)
  have J : PySem.W.InstAt s1.heap a oe C (some od) := ⟨g1, g2.1, by unfold PySem.W.notCls; rw [g3] <;> rfl, by rw [g2.2]; exact ho⟩
  exact HandSPX.exc_get I1.kIn J T.ga T.gg T.exC (PySem.W.findObj_own T.hdC hno rfl (by rw [lk, hu])) (handed_of ru) ⟨v, H1, I1.tok _, ru, h⟩
theorem idxS_ok {x : Str} : ∀ {ys : List Str} {k n : Nat}, idxS x k ys = some n → ∃ j, n = k + j ∧ ys[j]? = some x
  | [], k, n, h => by cases h
  | y :: r, k, n, h => by
    unfold idxS at h
    cases e : eqS y x with
    | true =>
      rw [e] at h
      cases h
      exact ⟨0, rfl, by rw [eqS_iff.mp e]; rfl⟩
    | false =>
      rw [e] at h
      obtain ⟨j, h1, h2⟩ := idxS_ok (ys := r) h
      exact ⟨j + 1, by omega, by simpa using h2⟩
/-- what reading such a field asks -/
theorem fld_ok (R : Rl f g b sl σ H) {i : Nat} {y : Str} {P : W → Nat → Prop} (h : (fldS i y sl).wb XE b P) :
    ∃ c a C dd nm v x xs w, P w b ∧ σ[i]? = some (some (.ref a)) ∧ f.G.fn (clN + c) = some C ∧ H a = some (errO a (.ref C) (some dd)) ∧ H dd = some (.xd nm) ∧ nm.lookup y = some v ∧ errs[c]? = some (x, xs) ∧ y ∈ xs ∧ RV f.K f.G g w v := by
  obtain ⟨⟨w, fr⟩, e1, h⟩ := rd_wb (T.wb_bind.mp h)
  cases w with
  | err c fs =>
    have h : (fldW c fs y).wb XE b P := h
    have rv : ∃ a, σ[i]? = some (some (.ref a)) ∧ RV f.K f.G g (.err c fs) (.ref a) := by
      cases fr with
      | false =>
        obtain ⟨v, h1, h2⟩ := R.frz i _ e1
        have h2' := h2
        cases h2 with
        | err => exact ⟨_, h1, h2'⟩
      | true =>
        obtain ⟨a, _, h2, _⟩ := R.own i _ e1
        exact h2.elim
    obtain ⟨a, s1, rv⟩ := rv
    cases rv with
    | @err _ _ C od nm x xs _ vs q1 q2 q3 q4 q5 q6 q7 =>
      unfold fldW at h
      rw [nth_eq, q4] at h
      dsimp only at h
      cases ei : idxS y 0 xs with
      | none => rw [ei] at h; exact h.elim
      | some k =>
        rw [ei] at h
        obtain ⟨j, e2, e3⟩ := idxS_ok ei
        obtain rfl : k = j := by omega
        obtain ⟨w, e4, h⟩ := T.wb_opt h
        rw [nth_eq] at e4
        obtain ⟨v, e5, rv⟩ := q7.get e4
        have lk := q6 k y v e3 e5
        rcases q3 with ⟨z1, z2⟩ | ⟨dd, z1, q3⟩
        · rw [z2] at lk; cases lk
        · subst z1
          exact ⟨c, a, C, dd, nm, v, x, xs, w, h, s1, q1, R.sub _ _ q2, R.sub _ _ q3, lk, q4, List.mem_of_getElem? e3, rv⟩
  | _ => exact h.elim
theorem se_fld (i : Nat) (y : Str) : SE tb N cl io cn f (.fld i y) := ⟨fun {XE X sc e} o c {sl σ H g b Q} R h => by
  unfold chkE at c
  cases hn : asAttr e with
  | none => rw [hn] at c; cases c
  | some z =>
    rw [hn] at c
    obtain ⟨x, n⟩ := z
    obtain ⟨p, q, rfl⟩ := asAttr_ok hn
    simp only [Bool.and_eq_true, okN, Bool.not_eq_true'] at c
    obtain ⟨c1, c2, c3, c4, c5, _⟩ := c
    have c1 := eqS_iff.mp c1
    subst c1
    obtain ⟨cc, a, C, dd, nm, v, z, xs, w, k, s1, q1, q2, q3, q4, q5, q6, rv⟩ := fld_ok R (T.wb_bind.mp (show (kFld i n sl).wb XE b _ from h))
    obtain ⟨T1, T2⟩ := o.xf cc C q1
    exact w_fld (by rw [o.hN]; exact atB_ok c2) (o.vis x c3) c4 c5 s1 q2 q3 q4 T1 (T2 z xs n q5 q6) (k g v H (Gh.le.refl g) R rv) rfl⟩
end
end Ev
end
end
section
set_option Elab.async false
set_option linter.all false
set_option maxRecDepth 100000
set_option maxHeartbeats 2000000
/-! EvKw: calls of defs with all arguments by keywords. -/
noncomputable section
namespace Ev
open PySem L2
set_option autoImplicit false
variable {XE : XP}
theorem asCallK_ok {e : Expr} {x : Str} {ks : List Str} {fs : List Expr} (h : asCallK e = some (x, ks, fs)) : ∃ p q kws, e = .Call (.Name x p) [] kws q ∧ kwS kws = some (ks, fs) := by
  cases e with
  | Call f as kws pos =>
    unfold asCallK at h
    dsimp only at h
    cases hf : asName f with
    | none => rw [hf] at h; cases h
    | some y =>
      rw [hf] at h
      obtain ⟨p, rfl⟩ := asName_ok hf
      cases as with
      | cons _ _ => cases h
      | nil =>
        dsimp only at h
        cases hk : kwS kws with
        | none => rw [hk] at h; cases h
        | some z =>
          rw [hk] at h
          obtain ⟨ns, es⟩ := z
          cases h
          exact ⟨p, pos, kws, rfl, hk⟩
  | _ => cases h
theorem kwS_all {env : Env} {pos : Pos} : ∀ {kws : List Keyword} {ks : List Str} {fs : List Expr}, kwS kws = some (ks, fs) → (backToKw pos (keywordEach kws env)).map (·.1) = ks.map some
  | [], ks, fs, h => by
    cases h
    rfl
  | ⟨n, v, p⟩ :: kws, ks, fs, h => by
    unfold kwS at h
    cases n with
    | none => cases h
    | some n =>
      dsimp only at h
      cases hk : kwS kws with
      | none => rw [hk] at h; cases h
      | some z =>
        rw [hk] at h
        obtain ⟨ns, es⟩ := z
        cases h
        have ih := kwS_all (env := env) (pos := pos) hk
        show some n :: (backToKw pos (keywordEach kws env)).map (·.1) = _
        rw [ih]
        rfl
theorem all_some {α : Type} : ∀ {l : List (Option Str × α)} {ks : List Str}, l.map (·.1) = ks.map some → l.all (·.1.isSome) = true ∧ l.filterMap (·.1) = ks ∧ l.any (·.1.isNone) = false
  | [], [], _ => ⟨rfl, rfl, rfl⟩
  | [], _ :: _, h => by cases h
  | _ :: _, [], h => by cases h
  | (o, x) :: l, k :: ks, h => by
    rw [List.map_cons, List.map_cons, List.cons.injEq] at h
    obtain ⟨a, b, c⟩ := all_some h.2
    have e : o = some k := h.1
    subst e
    refine ⟨?_, ?_, ?_⟩
    · rw [List.all_cons, a]; rfl
    · rw [List.filterMap_cons, b]
    · rw [List.any_cons, c]; rfl
section
variable {X : Cx} {σ : L2.St} {H : Hp}
/-- the keywords' values -/
def tWK (X : Cx) (kws : List Keyword) : TA := fun σ H Q => ∀ (pos : Pos) (pins : List (Addr × Obj)) (s : Shared), Inv X pins σ H s → wpAny (model X.prog X.w) X.A (evalAll ((backToKw pos (keywordEach kws X.env)).map (·.2))) (AP X pins σ Q) X.xe s
theorem pk_w {kws : List Keyword} : PK X kws (tWK X kws) := ⟨fun pos pins s _ _ _ I h => h pos pins s I⟩
theorem k_nil {Q : List V → Hp → Prop} (h : Q [] H) : tWK X [] σ H Q := fun pos pins s I => pk_nil.run pos pins s σ H Q I h
theorem k_cons {n : Option Str} {e : Expr} {p : Pos} {kws : List Keyword} {Q : List V → Hp → Prop} (h : tW X e σ H fun v H1 => tWK X kws σ H1 fun vs H2 => Q (v :: vs) H2) : tWK X (⟨n, e, p⟩ :: kws) σ H Q := fun pos pins s I =>
  (pk_cons pe_w pk_w).run pos pins s σ H Q I h
/-- a call by keywords -/
theorem w_callK {x : Str} {p pos : Pos} {fa : Addr} {kws : List Keyword} {ks : List Str} {fs : List Expr} {Q : VK} (hg : Gl X x) (hm : X.mg x = some (.ref fa)) (hk : PySem.W.keepIn X.K (.ref fa) = true) (hd : (x == ("__debug__" : Str)) = false) (hs : kwS kws = some (ks, fs))
    (h : tWK X kws σ H fun vs H1 => ∀ (pins : List (Addr × Obj)) (s : Shared) (us : List Value), Inv X pins σ H1 s → Vals vs us → wpAny (model X.prog X.w) X.A (call (.ref fa) [] (ks.zip us)) (EP X pins σ Q) X.xe s) : tW X (.Call (.Name x p) [] kws pos) σ H Q := by
  intro pins s I
  obtain ⟨a1, a2, a3⟩ := all_some (kwS_all (env := X.env) (pos := pos) hs)
  refine wpAny_Call_Name_kw (ld_glob I hg hm ?_ hd)
  refine PySem.W.callWith_KW0 (h₀ := X.base) I.ok.mod.kin hk a1 (thn (h pos pins s I) fun us s1 ⟨vs, H1, I1, r, q⟩ => ?_) (by rw [a3]; rfl)
  rw [a2]
  exact ⟨I1.kIn, q pins s1 us I1 r⟩
end
section
variable {tb : Tb} {N : List Str} {cl : Cl} {io : Nat → List Bool} {cn : Nat → W} {f : Fm} {X : Cx} {sc : Scope} {σ : L2.St}
theorem lK_ok : ∀ {es : Exs} {fs : List Expr} {kws : List Keyword} {ks : List Str}, kwS kws = some (ks, fs) → AllX (SE tb N cl io cn f) es → Xok XE tb N cl io cn f X sc → chkL tb N sc es fs = true → ∀ {sl : Sl} {H : Hp} {g : Gh} {b : Nat} {Q : List V → Hp → Prop}, Rl f g b sl σ H →
    (lA (evL cl io cn es) sl).wb XE b (fun p b' => ∀ g' vs H', g.le g' → Rl f g' b' p.2 σ H' → RVs f.K f.G g' p.1 vs → Q vs H') → tWK X kws σ H Q
  | es, fs, [], ks, hk, S, o, c, sl, H, g, b, Q, R, h => by
    cases hk
    cases es with
    | nil => exact k_nil (h g [] H (Gh.le.refl g) R .nil)
    | cons _ _ => cases c
  | es, fs, ⟨n, e, p⟩ :: kws, ks, hk, S, o, c, sl, H, g, b, Q, R, h => by
    unfold kwS at hk
    cases n with
    | none => cases hk
    | some n =>
      dsimp only at hk
      cases hk2 : kwS kws with
      | none => rw [hk2] at hk; cases hk
      | some z =>
        rw [hk2] at hk
        obtain ⟨ns, es2⟩ := z
        cases hk
        cases es with
        | nil => cases c
        | cons x es =>
          have c : (!starB e && (chkE tb N sc x e && chkL tb N sc es es2)) = true := c
          simp only [Bool.and_eq_true, Bool.not_eq_true'] at c
          refine k_cons (S.1.kn o c.2.1 R (T.wb_mono (fun r b' k g' v H' l R' rv => ?_) (T.wb_bind.mp h)))
          refine lK_ok hk2 S.2 o c.2.2 R' (T.wb_mono (fun p b2 k2 g2 vs H2 l2 R2 rvs => ?_) (T.wb_bind.mp k))
          exact k2 g2 (v :: vs) H2 (l.trans l2) R2 (.cons (rv.le l2) rvs)
theorem kwS_len : ∀ {kws : List Keyword} {ks : List Str} {fs : List Expr}, kwS kws = some (ks, fs) → ks.length = fs.length
  | [], ks, fs, h => by cases h; rfl
  | ⟨n, v, p⟩ :: kws, ks, fs, h => by
    unfold kwS at h
    cases n with
    | none => cases h
    | some n =>
      dsimp only at h
      cases hk : kwS kws with
      | none => rw [hk] at h; cases h
      | some z =>
        rw [hk] at h
        obtain ⟨ns, es⟩ := z
        cases h
        simp [kwS_len hk]
theorem chkL_len : ∀ {es : Exs} {fs : List Expr}, chkL tb N sc es fs = true → (evL cl io cn es).length = fs.length
  | .nil, fs, c => by
    have c : fs.isEmpty = true := c
    rw [List.isEmpty_iff] at c
    subst c
    rfl
  | .cons x es, [], c => by cases c
  | .cons x es, e :: fs, c => by
    have c : (!starB e && (chkE tb N sc x e && chkL tb N sc es fs)) = true := c
    simp only [Bool.and_eq_true] at c
    show ((isV x, evE cl io cn x) :: evL cl io cn es).length = _
    rw [List.length_cons, List.length_cons, chkL_len c.2.2]
theorem lA_len {P : List W × Sl → Nat → Prop} : ∀ {es : List Sx} {sl : Sl} {b : Nat}, (lA es sl).wb XE b P → (lA es sl).wb XE b fun p b' => p.1.length = es.length ∧ P p b'
  | [], sl, b, h => ⟨rfl, h⟩
  | e :: es, sl, b, h => by
    refine T.wb_bind.mpr (T.wb_mono (fun r b' k => ?_) (T.wb_bind.mp h))
    refine T.wb_bind.mpr (T.wb_mono (fun p b2 k2 => ?_) (lA_len (T.wb_bind.mp k)))
    exact ⟨congrArg (· + 1) k2.1, k2.2⟩
/-- the values in the parameters' order -/
theorem permL_ok {K : PySem.W.Frag} {G : Gx} {g : Gh} {ws : List W} {vs : List V} (r : RVs K G g ws vs) : ∀ {is : List Nat} {us : List W}, permL ws is = some us → ∃ zs, is.map (fun i => vs[i]?) = zs.map some ∧ RVs K G g us zs
  | [], us, h => by cases h; exact ⟨[], rfl, .nil⟩
  | i :: is, us, h => by
    unfold permL at h
    rw [nth_eq] at h
    cases e : ws[i]? with
    | none => rw [e] at h; cases h
    | some w =>
      rw [e] at h
      dsimp only at h
      cases e2 : permL ws is with
      | none => rw [e2] at h; cases h
      | some us2 =>
        rw [e2] at h
        cases h
        obtain ⟨zs, z1, z2⟩ := permL_ok r e2
        obtain ⟨v, h1, h2⟩ := r.get e
        exact ⟨v :: zs, by rw [List.map_cons, List.map_cons, h1, z1], .cons h2 z2⟩
theorem vals_perm {vs : List V} {us : List Value} (r : Vals vs us) : ∀ {is : List Nat} {zs : List V}, is.map (fun i => vs[i]?) = zs.map some → ∃ ws, is.map (fun i => us[i]?) = ws.map some ∧ Vals zs ws
  | [], [], _ => ⟨[], rfl, .nil⟩
  | [], _ :: _, h => by cases h
  | _ :: _, [], h => by cases h
  | i :: is, z :: zs, h => by
    rw [List.map_cons, List.map_cons, List.cons.injEq] at h
    obtain ⟨ws, w1, w2⟩ := vals_perm r h.2
    obtain ⟨u, u1, u2⟩ := r.get h.1
    exact ⟨u :: ws, by rw [List.map_cons, List.map_cons, u1, w1], .cons u2 w2⟩
theorem CallKw.w {fv : Value} {ps : List Str} {vs : List V} {H : Hp} {Q : VK} {g : Gh} {sl : Sl} {σ' : L2.St} {pins : List (Addr × Obj)} {s : Shared} {us : List Value} {kw : List (Str × Value)} (tk : Takes X (wOf XE f)) (h : CallKw X fv ps vs H Q (exK XE f g sl σ)) (I : Inv X pins σ' H s) (r : Vals vs us) (k : KwOk ps ⟨[], kw⟩ us) : wpAny (model X.prog X.w) X.A (call fv [] kw) (EP X pins σ' Q) X.xe s :=
  wpAny_mono (Q := EP X pins σ' Q) (E := fun e s' => L2.CX X.prog X.w X.stack H s (exK XE f g sl σ) e s') (wpAny_call (codeAny_mono (h s us _ I.env0 r k) fun res s' q => by
    cases res with
    | error e => exact q
    | ok fl =>
      cases fl with
      | ret u => exact I.after q
      | next => exact q.elim
      | brk => exact q.elim
      | cont => exact q.elim)) (fun _ _ q => q) fun e s' c => passes_call tk (fun cls d _ H' ⟨c, fs, g', b', x1, x2, _, x3⟩ => ⟨c, fs, g', b', x1, x2, x3.bare⟩) pins σ' H s e s' I c
theorem se_callK {j : Nat} {is : List Nat} {es : Exs} (S : AllX (SE tb N cl io cn f) es) : SX tb N cl io cn f (.callK j is es) := by
  have go : SE tb N cl io cn f (.callK j is es) := ⟨fun {XE X sc e} o c {sl σ H g b Q} R h => by
    unfold chkE at c
    cases hc : asCallK e with
    | none => rw [hc] at c; cases c
    | some y =>
      rw [hc] at c
      obtain ⟨x, ks, fs⟩ := y
      obtain ⟨p, q, kws, rfl, hkw⟩ := asCallK_ok hc
      simp only [Bool.and_eq_true, okN, Bool.not_eq_true', kwB, decide_eq_true_eq] at c
      obtain ⟨c1, c2, ⟨c3, _⟩, ⟨d1, d2, d3, d4⟩, c4⟩ := c
      obtain ⟨fa, hm, hk, hf⟩ := o.fnk j x (atB_ok c1) (fun z => by rw [z] at d1; cases d1)
      refine w_callK (o.glo x c2) hm hk c3 hkw (lK_ok hkw S o c4 R (T.wb_mono (fun r1 b' k g' vs H' l R' rvs => ?_) (lA_len (T.wb_bind.mp (show (kCallK cl j is (evL cl io cn es) sl).wb XE b _ from h)))))
      obtain ⟨kl, k⟩ := k
      obtain ⟨ws, cv, k⟩ := T.wb_opt (T.wb_bind.mp k)
      obtain ⟨zs, z1, z2⟩ := permL_ok rvs cv
      intro pins s us I r
      obtain ⟨us2, u1, u2⟩ := vals_perm r z1
      have hl : us.length = ks.length := by
        rw [← r.length, ← rvs.len, kl, chkL_len c4, kwS_len hkw]
      have HC := hf XE X f (Sib.refl X) rfl rfl g' b' r1.2 σ H' _ zs [] Q R' (argsR_frz z2) (T.wb_mono (fun r b3 k3 g3 v H3 l3 R3 tm vl nv => k3 g3 v H3 (l.trans l3) R3 vl) (T.wb_bind.mp k))
      exact CallKw.w o.tk HC I u2 ⟨ks, us, is, rfl, hl, d2, d3, d4, u1⟩⟩
  refine ⟨go, ST.of go fun {sc e} c => ?_⟩
  unfold chkE at c
  cases hc : asCallK e with
  | none => rw [hc] at c; cases c
  | some y =>
    obtain ⟨x, ks, fs⟩ := y
    obtain ⟨p, q, kws, rfl, _⟩ := asCallK_ok hc
    rfl
end
end Ev
end
end
section
set_option Elab.async false
set_option linter.all false
set_option maxRecDepth 100000
set_option maxHeartbeats 2000000
/-! EvIs: isinstance of an error that is known. -/
noncomputable section
namespace Ev
open PySem L2
set_option autoImplicit false
variable {XE : XP}
section
variable {X : Cx} {σ : L2.St} {H : Hp}
theorem w_isE {y z : Str} {p p1 p2 pos : Pos} {i : Nat} {a C : Addr} {od : Option Addr} {D : V} {DV : Value} {nm : List (Str × V)} {bb : Bool} {Q : VK} (hcm : X.calm = true) (hN : X.N[i]? = some y) (hv : Vis X.env.scope y) (hd : (y == ("__debug__" : Str)) = false) (hc : (y == ("__classdict__" : Str)) = false) (hσ : σ[i]? = some (some (.ref a)))
    (ha : H a = some (errO a (.ref C) od)) (hdd : DictAt H od nm) (hg : Gl X "isinstance") (hm : X.mg "isinstance" = none) (hz : ∀ (Q : VK), Q D H → tW X (.Name z p2) σ H Q) (hD : ∀ u, RelV D u → u = DV)
    (T : IsC X.K C) (hk : PySem.W.kitOne X.K (.ref C) DV = some bb) (h : Q (.bl bb) H) : tW X (.Call (.Name "isinstance" p) [.Name y p1, .Name z p2] [] pos) σ H Q := by
  refine w_callB hg hm PyProof.Rows.boot_isinstance (by decide) (by decide) rfl (w_cons rfl (of_pe (pe_var hN hv hd hc) ⟨.ref a, hσ, w_cons rfl (hz _ (w_nil ?_))⟩))
  intro pins s σ' us I r
  cases r with
  | cons rx rr =>
    cases rr with
    | cons rt rr =>
      cases rr
      cases rx
      obtain rfl := hD _ rt
      obtain ⟨⟨oe, vs, g1, g2, g3⟩, _⟩ := I.hok a _ ha
      have nc : PySem.W.notCls oe = true := by unfold PySem.W.notCls; rw [g3] <;> rfl
      rcases hdd with ⟨z1, _⟩ | ⟨dd, z1, hdd⟩
      · subst z1
        have J : PySem.W.InstAt s.heap a oe C none := ⟨g1, g2.1, nc, by rw [g2.2]; trivial⟩
        exact PySem.W.kia_one (PySem.W.kitx_exc T.cl T.ga T.gt T.sub T.ha T.hn T.tk T.mr) I.kIn J hk (fun z => nomatch z) fun tk => ⟨.bl bb, H, I.kept (t' := tk) fun _ _ z => z, rfl, h⟩
      · subst z1
        obtain ⟨mA, hns, hr⟩ := I.hok dd _ hdd
        obtain ⟨od, ho, lk⟩ := lookIn_ns hns
        have J : PySem.W.InstAt s.heap a oe C (some od) := ⟨g1, g2.1, nc, by rw [g2.2]; exact ho⟩
        exact PySem.W.kia_one (PySem.W.kitx_exc T.cl T.ga T.gt T.sub T.ha T.hn T.tk T.mr) I.kIn J hk (fun z => nomatch z) fun tk => ⟨.bl bb, H, I.kept (t' := tk) fun _ _ z => z, rfl, h⟩
end
section
variable {tb : Tb} {N : List Str} {cl : Cl} {io : Nat → List Bool} {cn : Nat → W} {f : Fm} {X : Cx} {sc : Scope} {σ : L2.St}
theorem isE_ok {g : Gh} {b : Nat} {sl : Sl} {H : Hp} (R : Rl f g b sl σ H) {i d : Nat} {P : (W × Bool) × Sl → Nat → Prop} (h : (kIsE i d sl).wb XE b P) :
    ∃ c a C od nm, P ((W.bl (isEB c d), false), sl) b ∧ σ[i]? = some (some (.ref a)) ∧ f.G.fn (clN + c) = some C ∧ H a = some (errO a (.ref C) od) ∧ DictAt H od nm := by
  obtain ⟨⟨w, fr⟩, e1, h⟩ := rd_wb (T.wb_bind.mp h)
  cases w with
  | err c fs =>
    have rv : ∃ a, σ[i]? = some (some (.ref a)) ∧ RV f.K f.G g (.err c fs) (.ref a) := by
      cases fr with
      | false =>
        obtain ⟨v, h1, h2⟩ := R.frz i _ e1
        have h2' := h2
        cases h2 with
        | err => exact ⟨_, h1, h2'⟩
      | true =>
        obtain ⟨a, _, h2, _⟩ := R.own i _ e1
        exact h2.elim
    obtain ⟨a, s1, rv⟩ := rv
    cases rv with
    | @err _ _ C od nm x xs _ vs q1 q2 q3 q4 q5 q6 q7 => exact ⟨c, a, C, od, nm, h, s1, q1, R.sub _ _ q2, q3.le R.sub⟩
  | _ => exact h.elim
theorem famBoot : ∀ (k : Nat) (z : String) (v : Bool), famL[k]? = some (z, v) → bootBuiltins (z : Str) = some (.type z) ∧ (z : Str) ≠ "__name__" ∧ ((z : Str) == ("__debug__" : Str)) = false ∧ (z : Str) ∈ allBi
  | 0, _, _, h => by cases h; exact ⟨PyProof.Rows.Boot.«ValueError», by decide, by decide, by decide⟩
  | 1, _, _, h => by cases h; exact ⟨PyProof.Rows.Boot.«LookupError», by decide, by decide, by decide⟩
  | 2, _, _, h => by cases h; exact ⟨PyProof.Rows.Boot.«OverflowError», by decide, by decide, by decide⟩
  | 3, _, _, h => by cases h; exact ⟨PyProof.Rows.Boot.«TypeError», by decide, by decide, by decide⟩
  | _ + 4, _, _, h => by cases h
theorem se_isE {i d : Nat} : SX tb N cl io cn f (.isE i d) := by
  have go : SE tb N cl io cn f (.isE i d) := ⟨fun {XE X sc e} o c {sl σ H g b Q} R h => by
    unfold chkE at c
    cases hc : asIs e with
    | none => rw [hc] at c; cases c
    | some yz =>
      rw [hc] at c
      obtain ⟨x, y, z⟩ := yz
      obtain ⟨p, q, r, s, rfl⟩ := asIs_ok hc
      simp only [Bool.and_eq_true, okN, Bool.not_eq_true', eqS_iff] at c
      obtain ⟨c0, c1, c2, c3, ⟨c4, c5, _⟩, c6, ⟨c7, _⟩, c8⟩ := c
      subst c0
      obtain ⟨cc, a, C, od, nm, k, s1, q1, q2, q3⟩ := isE_ok R (show (kIsE i d sl).wb XE b _ from h)
      have kk : Q (.bl (isEB cc d)) H := k g _ H (Gh.le.refl g) R (.bl _)
      unfold isEB at kk
      unfold errIs at c8
      cases e8 : Nat.blt 99 d with
      | false =>
        rw [e8] at c8 kk
        have c8 : errNm tb d z = true := c8
        unfold errNm at c8
        rw [Bool.and_eq_true] at c8
        obtain ⟨c10, c9⟩ := c8
        rw [nth_eq] at c9
        cases e9 : errs[d]? with
        | none => rw [e9] at c9; cases c9
        | some pr =>
          rw [e9] at c9
          obtain ⟨zn, xs⟩ := pr
          have c9 := eqS_iff.mp c9
          subst c9
          obtain ⟨D, hD, hk⟩ := o.xis.2 d _ xs c10 e9
          exact w_isE (D := .ref D) o.bx.calm (by rw [o.hN]; exact atB_ok c2) (o.vis y c3) c4 c5 s1 q2 q3 (o.glo _ c1) (o.bi _ (by decide +kernel)) (fun Q' hq => of_pe (pe_glob (v := .ref D) (o.glo _ c6) hD rfl c7) hq) (fun u ru => ru) (o.xis.1 cc C q1) (hk cc C q1) kk
      | true =>
        rw [e8] at c8 kk
        dsimp only [cond_true] at c8 kk
        rw [nth_eq] at c8 kk
        cases e9 : famL[d - 100]? with
        | none => rw [e9] at c8; cases c8
        | some pr =>
          rw [e9] at c8 kk
          obtain ⟨zn, bb⟩ := pr
          have c9 := eqS_iff.mp c8
          subst c9
          obtain ⟨b1, b2, b3, b4⟩ := famBoot _ _ _ e9
          exact w_isE (D := .ty zn) o.bx.calm (by rw [o.hN]; exact atB_ok c2) (o.vis y c3) c4 c5 s1 q2 q3 (o.glo _ c1) (o.bi _ (by decide +kernel)) (fun Q' hq => of_pe (pe_bltn (v := .ty zn) (o.glo _ c6) (o.bi _ b4) b1 rfl b2 b3) hq) (fun u ru => ru) (o.xis.1 cc C q1) (o.xib _ _ _ e9 cc C q1) kk⟩
  refine ⟨go, ST.of go fun {sc e} c => ?_⟩
  unfold chkE at c
  cases hc : asIs e with
  | none => rw [hc] at c; cases c
  | some yz =>
    obtain ⟨x, y, z⟩ := yz
    obtain ⟨p, q, r, s, rfl⟩ := asIs_ok hc
    rfl
end
end Ev
end
end
section
set_option Elab.async false
set_option linter.all false
set_option maxRecDepth 100000
set_option maxHeartbeats 2000000
/-! EvMkX: an error made as a value. -/
noncomputable section
namespace Ev
open PySem L2
set_option autoImplicit false
variable {XE : XP}
theorem RVs.takeX {K : PySem.W.Frag} {G : Gx} {g : Gh} {ws : List W} {vs : List V} (r : RVs K G g ws vs) (n : Nat) : RVs K G g (ws.take n) (vs.take n) := r.take n
/-- something new, known from now on -/
theorem Rl.newX {f : Fm} {g : Gh} {b : Nat} {sl : Sl} {σ : L2.St} {H : Hp} (R : Rl f g b sl σ H) {p : Addr} {o : HO} (h : H p = none) (nt : ∀ ps, o ≠ .tbl ps) : g.le (g.add p o) ∧ Rl f (g.add p o) b sl σ (upd H p o) := by
  have hF := R.freeF h
  exact ⟨Gh.le_add hF, (R.mono (same_upd h)).add hF upd_same (R.freeD h) (.inl (R.free0 h)) (R.freeS h) nt⟩
theorem errNew_ok {f : Fm} {g : Gh} {b : Nat} {sl : Sl} {σ : L2.St} {H H' : Hp} (R : Rl f g b sl σ H) {a C : Addr} {c : Nat} {x : Str} {xs : List Str} {ws : List W} {vs : List V} (hC : f.G.fn (clN + c) = some C) (he : errs[c]? = some (x, xs)) (ha : H a = none) (rv : RVs f.K f.G g ws vs) (hl : xs.length ≤ ws.length) (n : ErrNew H a C xs vs H') :
    ∃ g', g.le g' ∧ Rl f g' b sl σ H' ∧ RV f.K f.G g' (.err c (ws.take xs.length)) (.ref a) := by
  have tk : xs.length = (ws.take xs.length).length := by
    rw [List.length_take]
    omega
  rcases n with ⟨z, rfl⟩ | ⟨d, nm, hd, hda, rfl, lk⟩
  · obtain ⟨l1, R1⟩ := R.newX (p := a) (o := errO a (.ref C) none) ha (fun ps z => by cases z)
    refine ⟨_, l1, R1, .err (nm := []) (vs := vs.take xs.length) hC upd_same (.inl ⟨rfl, rfl⟩) he tk (fun i y v e1 _ => ?_) ((rv.take _).le l1)⟩
    rw [z] at e1
    simp at e1
  · obtain ⟨l1, R1⟩ := R.newX (p := d) (o := .xd nm) hd (fun ps z => by cases z)
    have ha1 : upd H d (.xd nm) a = none := by
      rw [upd_ne (Ne.symm hda)]
      exact ha
    obtain ⟨l2, R2⟩ := R1.newX (p := a) (o := errO a (.ref C) (some d)) ha1 (fun ps z => by cases z)
    refine ⟨_, l1.trans l2, R2, .err (nm := nm) (vs := vs.take xs.length) hC upd_same (.inr ⟨d, rfl, ?_⟩) he tk (fun i y v e1 e2 => ?_) ((rv.take _).le (l1.trans l2))⟩
    · exact l2.1 _ _ upd_same
    · refine lk i y v e1 ?_
      have hi : i < xs.length := (List.getElem?_eq_some_iff.mp e1).1
      rw [List.getElem?_take_of_lt hi] at e2
      exact e2
section
variable {tb : Tb} {N : List Str} {cl : Cl} {io : Nat → List Bool} {cn : Nat → W} {f : Fm} {X : Cx} {sc : Scope} {σ : L2.St}
theorem errNm_ok {c : Nat} {x : Str} (h : errNm tb c x = true) : tb.ers.contains c = true ∧ ∃ xs, errs[c]? = some (x, xs) := by
  unfold errNm at h
  rw [Bool.and_eq_true] at h
  obtain ⟨h1, h2⟩ := h
  rw [nth_eq] at h2
  cases e : errs[c]? with
  | none => rw [e] at h2; cases h2
  | some p =>
    rw [e] at h2
    obtain ⟨y, xs⟩ := p
    have h2 := eqS_iff.mp h2
    subst h2
    exact ⟨h1, xs, rfl⟩
theorem args_le {c : Nat} {x : Str} {xs : List Str} (h : errs[c]? = some (x, xs)) : xs.length ≤ argsN c ∧ errN c = xs.length := by
  have e : errN c = xs.length := by
    unfold errN
    rw [nth_eq, h]
  refine ⟨?_, e⟩
  unfold argsN
  cases q : Nat.beq c cTop with
  | false => rw [← e]; exact Nat.le_refl _
  | true =>
    have := Nat.eq_of_beq_eq_true q
    subst this
    cases h
    exact Nat.zero_le _
theorem se_mkE {kw : Bool} {c0 : Nat} {is : List Nat} {es : Exs} (S : AllX (SE tb N cl io cn f) es) : SX tb N cl io cn f (.mkE kw c0 is es) := by
  have go : SE tb N cl io cn f (.mkE kw c0 is es) := ⟨fun {XE X sc e} o c {sl σ H g b Q} R h => by
    have h : (kMkE kw c0 is (evL cl io cn es) sl).wb XE b _ := h
    unfold chkE at c
    cases kw with
    | false =>
      dsimp only at c
      cases hc : asCall e with
      | none => rw [hc] at c; cases c
      | some y =>
        rw [hc] at c
        obtain ⟨x, fs⟩ := y
        obtain ⟨p, q, rfl⟩ := asCall_ok hc
        simp only [Bool.and_eq_true, okN, Bool.not_eq_true'] at c
        obtain ⟨c1, c2, ⟨c3, _⟩, c4⟩ := c
        obtain ⟨ce, xs, ex⟩ := errNm_ok c1
        obtain ⟨x', xs', C, e1, e2, e3, e4, mk⟩ := o.mko c0 ce X (Sib.refl X)
        rw [ex] at e1
        cases e1
        obtain ⟨al, ae⟩ := args_le ex
        have fin : ∀ {r1 : List W × Sl} {b' : Nat} {g' : Gh} {vs : List V} {H' : Hp}, g.le g' → Rl f g' b' r1.2 σ H' → RVs f.K f.G g' r1.1 vs → ((T.ofOpt (cond false (permL r1.1 is) (some r1.1))).bind fun ws => T.guard (Nat.beq ws.length (argsN c0)) (.ok ((W.err c0 (ws.take (errN c0)), false), r1.2))).wb XE b' (fun r b' => ∀ g' v H', g.le g' → Rl f g' b' r.2 σ H' → Vl f g' H' r.2 σ r.1 v → Q v H') → CallW X (.ref C) vs H' Q := fun {r1 b' g' vs H'} l R' rvs k => by
          obtain ⟨ws, cv, k⟩ := T.wb_opt (T.wb_bind.mp k)
          have cv : some r1.1 = some ws := cv
          cases cv
          obtain ⟨kl, k⟩ := T.wb_guard k
          have kl := Nat.eq_of_beq_eq_true kl
          intro pins s σ' us I r
          refine mk pins σ' H' s us [] us vs Q I (.inl ⟨rfl, rfl⟩) r (rvs.len.symm.trans kl) fun a H2 ha hn => ?_
          obtain ⟨g2, l2, R2, rv⟩ := errNew_ok R' e2 ex ha rvs (by omega) hn
          rw [ae] at k
          exact k g2 (.ref a) H2 (l.trans l2) R2 rv
        have h := T.wb_bind.mp h
        cases fs with
        | nil =>
          cases es with
          | cons _ _ => cases c4
          | nil => exact w_callF0 (o.glo _ c2) e3 e4 c3 (fin (r1 := ([], sl)) (Gh.le.refl g) R .nil h)
        | cons e0 fs => exact w_callF (o.glo _ c2) e3 e4 c3 (chkL_star c4) (lA_ok S o c4 R (T.wb_mono (fun r1 b' k g' vs H' l R' rvs => fin (r1 := r1) l R' rvs k) h))
    | true =>
      dsimp only at c
      cases hc : asCallK e with
      | none => rw [hc] at c; cases c
      | some y =>
        rw [hc] at c
        obtain ⟨x, ks, fs⟩ := y
        obtain ⟨p, q, kws, rfl, hkw⟩ := asCallK_ok hc
        simp only [Bool.and_eq_true, okN, Bool.not_eq_true', kwB, decide_eq_true_eq] at c
        obtain ⟨c1, c2, ⟨c3, _⟩, ⟨d1, d2, d3, d4⟩, c4⟩ := c
        obtain ⟨ce, xs, ex⟩ := errNm_ok c1
        obtain ⟨x', xs', C, e1, e2, e3, e4, mk⟩ := o.mko c0 ce X (Sib.refl X)
        rw [ex] at e1
        cases e1
        obtain ⟨al, ae⟩ := args_le ex
        have ef : errF c0 = xs := by
          unfold errF
          rw [nth_eq, ex]
        rw [ef] at d3 d4
        refine w_callK (o.glo x c2) e3 e4 c3 hkw (lK_ok hkw S o c4 R (T.wb_mono (fun r1 b' k g' vs H' l R' rvs => ?_) (lA_len (T.wb_bind.mp h))))
        obtain ⟨kl, k⟩ := k
        obtain ⟨ws, cv, k⟩ := T.wb_opt (T.wb_bind.mp k)
        have cv : permL r1.1 is = some ws := cv
        obtain ⟨zs, z1, z2⟩ := permL_ok rvs cv
        obtain ⟨kn, k⟩ := T.wb_guard k
        have kn := Nat.eq_of_beq_eq_true kn
        intro pins s us I r
        obtain ⟨us2, u1, u2⟩ := vals_perm r z1
        have hl : us.length = ks.length := by
          rw [← r.length, ← rvs.len, kl, chkL_len c4, kwS_len hkw]
        refine mk pins _ H' s [] (ks.zip us) us2 zs Q I (.inr ⟨rfl, ks, us, is, rfl, hl, d2, d3, d4, u1⟩) u2 (z2.len.symm.trans kn) fun a H2 ha hn => ?_
        obtain ⟨g2, l2, R2, rv⟩ := errNew_ok R' e2 ex ha z2 (by omega) hn
        rw [ae] at k
        exact k g2 (.ref a) H2 (l.trans l2) R2 rv⟩
  refine ⟨go, ST.of go fun {sc e} c => ?_⟩
  unfold chkE at c
  cases kw with
  | false =>
    dsimp only at c
    cases hc : asCall e with
    | none => rw [hc] at c; cases c
    | some y =>
      obtain ⟨p, q, rfl⟩ := asCall_ok hc
      rfl
  | true =>
    dsimp only at c
    cases hc : asCallK e with
    | none => rw [hc] at c; cases c
    | some y =>
      obtain ⟨x, ks, fs⟩ := y
      obtain ⟨p, q, kws, rfl, _⟩ := asCallK_ok hc
      rfl
end
end Ev
end
end
section
set_option Elab.async false
set_option linter.all false
set_option maxRecDepth 100000
set_option maxHeartbeats 2000000
/-! EvAll: all expressions. -/
noncomputable section
namespace Ev
open PySem L2
set_option autoImplicit false
section
variable {tb : Tb} {N : List Str} {cl : Cl} {io : Nat → List Bool} {cn : Nat → W}
theorem pl_name {o : Option Str} {e : Expr} {F : Str → Bool} (h : (match asName e with
    | some x => F x
    | none => false) = true) : plainT e = true := by
  cases hn : asName e with
  | none => rw [hn] at h; cases h
  | some x =>
    obtain ⟨p, rfl⟩ := asName_ok hn
    rfl
mutual
theorem sndE : ∀ (x : Ex) (f : Fm), SX tb N cl io cn f x
  | .bad, f => se_bad
  | .var i, f => ST.no (se_var i) fun {sc e} c => by
    unfold chkE at c
    exact pl_name (o := none) c
  | .con w, f => ST.no (se_con w) fun {sc e} c => by
    unfold chkE at c
    cases hn : asCon e with
    | none => rw [hn] at c; cases c
    | some x =>
      obtain ⟨p, q, rfl⟩ := asCon_ok hn
      rfl
  | .glo k, f => ST.no (se_glo k) fun {sc e} c => by
    unfold chkE at c
    exact pl_name (o := none) c
  | .tup es, f => ST.no (se_tup ((sndL es f).mono fun _ h => h.1)) fun {sc e} c => by
    unfold chkE at c
    cases hn : asTup e with
    | none => rw [hn] at c; cases c
    | some x =>
      obtain ⟨p, q, rfl⟩ := asTup_ok hn
      rfl
  | .lst es, f => ST.no (se_lst ((sndL es f).mono fun _ h => h.1)) fun {sc e} c => by
    unfold chkE at c
    cases hn : asLst e with
    | none => rw [hn] at c; cases c
    | some x =>
      obtain ⟨p, rfl⟩ := asLst_ok hn
      rfl
  | .tupS l ms es, f => ST.no (se_tupS ((sndL es f).mono fun _ h => h.1)) fun {sc e} c => by
    unfold chkE at c
    cases l with
    | true =>
      cases hn : asLst e with
      | none => rw [hn] at c; cases c
      | some x =>
        obtain ⟨p, rfl⟩ := asLst_ok hn
        rfl
    | false =>
      cases hn : asTup e with
      | none => rw [hn] at c; cases c
      | some x =>
        obtain ⟨p, q, rfl⟩ := asTup_ok hn
        rfl
  | .dnew, f => ST.no se_dnew fun {sc e} c => by
    unfold chkE at c
    cases hn : asDct e with
    | none => rw [hn] at c; cases c
    | some x =>
      obtain ⟨p, rfl⟩ := asDct_ok hn
      rfl
  | .op o a b, f => se_op (sndE a f).1 (sndE b f).1
  | .chain o p a b c, f => se_chain (sndE a f).1 (sndE b f).1 (sndE c f).1
  | .neg a, f => ST.no (se_neg (sndE a f).1) fun {sc e} c => by
    unfold chkE at c
    split at c
    · rename_i hc
      obtain ⟨p, rfl⟩ := asUn_ok hc
      rfl
    · cases c
  | .not a, f => se_not (sndE a f)
  | .and es, f => se_and (sndL es f)
  | .or es, f => se_or (sndL es f)
  | .ite c a b, f => se_ite2 (sndE c f) (sndE a f) (sndE b f)
  | .idx a i, f => ST.no (se_idx (sndE a f).1 (sndE i f).1) fun {sc e} c => by
    unfold chkE at c
    split at c
    · rename_i hc
      obtain ⟨p, rfl⟩ := asSub_ok hc
      rfl
    · cases c
  | .sli a lo hi, f => ST.no (se_sli (sndE a f).1 (sndO lo f) (sndO hi f)) fun {sc e} c => by
    unfold chkE at c
    split at c
    · rename_i hc
      obtain ⟨p, rfl⟩ := asSub_ok hc
      rfl
    · cases c
  | .call j es, f => se_call ((sndL es f).mono fun _ h => h.1)
  | .bi t es, f => se_bi ((sndL es f).mono fun _ h => h.1)
  | .mth m a es, f => ST.no (se_mth (sndE a f).1 ((sndL es f).mono fun _ h => h.1)) fun {sc e} c => by
    unfold chkE at c
    cases hc : asMeth e with
    | none => rw [hc] at c; cases c
    | some y =>
      obtain ⟨x, p, ap, cp, rfl, _⟩ := asMeth_ok hc
      rfl
  | .draw m l, f => ST.no (se_draw (sndE m f).1 (sndE l f).1) fun {sc e} c => by
    unfold chkE at c
    split at c
    · rename_i hc
      obtain ⟨p, q, rfl, _⟩ := calls_ok hc
      rfl
    · cases c
  | .conv tp it, f => ST.no (se_conv (sndI it f)) fun {sc e} c => by
    unfold chkE at c
    split at c
    · rename_i hc
      obtain ⟨p, q, rfl, _⟩ := calls_ok hc
      rfl
    · cases c
  | .lc own e g it ifs, f => ST.no (se_lc (fun f => sndE e f) (fun f => sndL ifs f) (si_all (sndI it f))) fun {sc e} c => by
    obtain ⟨e', g', it', ifs', scope, pos, rfl, _⟩ := chk_lc c
    rfl
  | .lc2 own own1 e g it g1 it1, f => ST.no (se_lc2 (fun f => sndE e f) (si_all (sndI it f)) (fun f => si_all (sndI it1 f))) fun {sc e} c => by
    obtain ⟨e', g', it', g1', it1', scope, pos, rfl, _⟩ := chk_lc2 c
    rfl
  | .fnv j, f => ST.no (se_fnv j) fun {sc e} c => by
    unfold chkE at c
    exact pl_name (o := none) c
  | .callv i es, f => se_callv ((sndL es f).mono fun _ h => h.1)
  | .hear j k caps, f => se_hear
  | .lamr k caps, f => ST.no se_lamr fun {sc e} c => by
    unfold chkE at c
    cases hc : asLam e with
    | none => rw [hc] at c; cases c
    | some y =>
      obtain ⟨lp, rfl⟩ := asLam_ok hc
      rfl
  | .callC j cs es, f => se_callC ((sndL es f).mono fun _ h => h.1)
  | .callK j is es, f => se_callK ((sndL es f).mono fun _ h => h.1)
  | .isE i d, f => se_isE
  | .mkE kw c is es, f => se_mkE ((sndL es f).mono fun _ h => h.1)
  | .dsp x is, f => ST.no se_dsp fun {sc e} c => by
    unfold chkE at c
    cases hn : asDct e with
    | none => rw [hn] at c; cases c
    | some x =>
      obtain ⟨p, rfl⟩ := asDct_ok hn
      rfl
  | .fld i y, f => ST.no (se_fld i y) fun {sc e} c => by
    unfold chkE at c
    cases hn : asAttr e with
    | none => rw [hn] at c; cases c
    | some x =>
      obtain ⟨p, q, rfl⟩ := asAttr_ok hn
      rfl
theorem sndL : ∀ (es : Exs) (f : Fm), AllX (SX tb N cl io cn f) es
  | .nil, f => trivial
  | .cons e es, f => ⟨sndE e f, sndL es f⟩
theorem sndO : ∀ (o : Option Ex) (f : Fm), AllO (SE tb N cl io cn f) o
  | none, f => trivial
  | some e, f => (sndE e f).1
theorem sndI : ∀ (it : It) (f : Fm), AllI (SE tb N cl io cn f) it
  | .seq e, f => (sndE e f).1
  | .txt e, f => (sndE e f).1
  | .rng1 a, f => (sndE a f).1
  | .rng2 a b, f => ⟨(sndE a f).1, (sndE b f).1⟩
  | .rng3 a b c, f => ⟨(sndE a f).1, (sndE b f).1, (sndE c f).1⟩
  | .enum e, f => (sndE e f).1
  | .zip a b, f => ⟨(sndE a f).1, (sndE b f).1⟩
  | .enumZip a b, f => ⟨(sndE a f).1, (sndE b f).1⟩
end
end
end Ev
end
end
section
set_option Elab.async false
set_option linter.all false
set_option maxRecDepth 100000
set_option maxHeartbeats 2000000
/-! EvSt: statements: when a term is a statement; the simple ones. -/
noncomputable section
namespace Ev
open PySem L2
set_option autoImplicit false
variable {XE : XP}

/-! ### syntax -/
def asExpr : Stmt → Option Expr
  | .Expr e _ => some e
  | _ => none
theorem asExpr_ok {st : Stmt} {e : Expr} (h : asExpr st = some e) : ∃ p, st = .Expr e p := by
  cases st <;> first
    | (cases h; done)
    | (cases h; exact ⟨_, rfl⟩)
def asRaise : Stmt → Option (Str × List Expr)
  | .Raise (some (.Call (.Name x _) es [] _)) none _ => some (x, es)
  | _ => none
theorem asRaise_ok {st : Stmt} {x : Str × List Expr} (h : asRaise st = some x) : ∃ p q r, st = .Raise (some (.Call (.Name x.1 p) x.2 [] q)) none r := by
  unfold asRaise at h
  split at h
  · cases h
    exact ⟨_, _, _, rfl⟩
  · cases h
def asAsg : Stmt → Option (Expr × Expr)
  | .Assign [t] e _ => some (t, e)
  | _ => none
theorem asAsg_ok {st : Stmt} {x : Expr × Expr} (h : asAsg st = some x) : ∃ p, st = .Assign [x.1] x.2 p := by
  cases st with
  | Assign ts e p =>
    cases ts with
    | nil => cases h
    | cons t r =>
      cases r with
      | nil => cases h; exact ⟨_, rfl⟩
      | cons _ _ => cases h
  | _ => cases h
def asAug : Stmt → Option (Str × Operator × Expr)
  | .AugAssign (.Name x _) op e _ => some (x, op, e)
  | _ => none
theorem asAug_ok {st : Stmt} {y : Str × Operator × Expr} (h : asAug st = some y) : ∃ p q, st = .AugAssign (.Name y.1 p) y.2.1 y.2.2 q := by
  unfold asAug at h
  split at h
  · cases h
    exact ⟨_, _, rfl⟩
  · cases h
def asRet : Stmt → Option (Option Expr)
  | .Return e _ => some e
  | _ => none
theorem asRet_ok {st : Stmt} {e : Option Expr} (h : asRet st = some e) : ∃ p, st = .Return e p := by
  cases st <;> first
    | (cases h; done)
    | (cases h; exact ⟨_, rfl⟩)
def asIfS : Stmt → Option (Expr × List Stmt × List Stmt)
  | .If c a b _ => some (c, a, b)
  | _ => none
theorem asIfS_ok {st : Stmt} {x : Expr × List Stmt × List Stmt} (h : asIfS st = some x) : ∃ p, st = .If x.1 x.2.1 x.2.2 p := by
  cases st <;> first
    | (cases h; done)
    | (cases h; exact ⟨_, rfl⟩)
def asWhile : Stmt → Option (Expr × List Stmt)
  | .While c b [] _ => some (c, b)
  | _ => none
theorem asWhile_ok {st : Stmt} {x : Expr × List Stmt} (h : asWhile st = some x) : ∃ p, st = .While x.1 x.2 [] p := by
  cases st with
  | While c b o p =>
    cases o with
    | nil => cases h; exact ⟨_, rfl⟩
    | cons _ _ => cases h
  | _ => cases h
def asFor : Stmt → Option (Expr × Expr × List Stmt)
  | .For t i b [] _ => some (t, i, b)
  | _ => none
theorem asFor_ok {st : Stmt} {x : Expr × Expr × List Stmt} (h : asFor st = some x) : ∃ p, st = .For x.1 x.2.1 x.2.2 [] p := by
  cases st with
  | For t i b o p =>
    cases o with
    | nil => cases h; exact ⟨_, rfl⟩
    | cons _ _ => cases h
  | _ => cases h
def passB : Stmt → Bool
  | .Pass _ => true
  | _ => false
def brkB : Stmt → Bool
  | .Break _ => true
  | _ => false
def contB : Stmt → Bool
  | .Continue _ => true
  | _ => false
/-- x.extend(e) -/
def asExt : Expr → Option (Str × Expr)
  | .Call (.Attribute (.Name x _) n ap) [e] [] cp => cond (eqS n "extend" && (ap.endLine == cp.line)) (some (x, e)) none
  | _ => none
theorem asExt_ok {e : Expr} {x : Str × Expr} (h : asExt e = some x) : ∃ p ap cp, e = .Call (.Attribute (.Name x.1 p) "extend" ap) [x.2] [] cp ∧ (ap.endLine == cp.line) = true := by
  unfold asExt at h
  split at h
  · rename_i y p n ap a cp
    cases hb : eqS n "extend" && (ap.endLine == cp.line) with
    | false => rw [hb] at h; cases h
    | true =>
      rw [hb] at h
      cases h
      rw [Bool.and_eq_true] at hb
      have e1 := eqS_iff.mp hb.1
      subst e1
      exact ⟨p, ap, cp, rfl, hb.2⟩
  · cases h
/-- x.append(e) -/
def asApp : Expr → Option (Str × Expr)
  | .Call (.Attribute (.Name x _) n ap) [e] [] cp => cond (eqS n "append" && (ap.endLine == cp.line)) (some (x, e)) none
  | _ => none
theorem asApp_ok {e : Expr} {x : Str × Expr} (h : asApp e = some x) : ∃ p ap cp, e = .Call (.Attribute (.Name x.1 p) "append" ap) [x.2] [] cp ∧ (ap.endLine == cp.line) = true := by
  unfold asApp at h
  split at h
  · rename_i y p n ap a cp
    cases hb : eqS n "append" && (ap.endLine == cp.line) with
    | false => rw [hb] at h; cases h
    | true =>
      rw [hb] at h
      cases h
      rw [Bool.and_eq_true] at hb
      have e1 := eqS_iff.mp hb.1
      subst e1
      exact ⟨_, _, _, rfl, hb.2⟩
  · cases h
def asNames : List Expr → Option (List Str)
  | [] => some []
  | e :: es => match asName e with
    | some x => (asNames es).map (x :: ·)
    | none => none
/-- comprehensions of all kinds -/
def compB : Expr → Bool
  | .ListComp .. => true
  | .SetComp .. => true
  | .DictComp .. => true
  | _ => false
theorem swap_no {e : Expr} {o : Option Expr} {l : Nat} {env : Env} (h : compB e = false) : swapsWith e o l env = pure false := by
  cases e <;> first
    | rfl
    | cases h
def offB (pr l : List Nat) : Bool := l.all fun i => !pr.elem i
theorem offB_ok {pr l : List Nat} (h : offB pr l = true) : ∀ i ∈ pr, i ∉ l := fun i hi hl => by
  unfold offB at h
  rw [List.all_eq_true] at h
  have := h i hl
  simp only [Bool.not_eq_true', List.elem_eq_mem, decide_eq_false_iff_not] at this
  exact this hi
/-- name = [..] : the list goes into the name before the block's end -/
def lcSwap (sc : Scope) (t e : Expr) : Bool := match t with
  | .Name y p => (match e with
    | .ListComp _ _ s q => (match sc.names.lookup y with
      | some .local => (p.line == q.line) && !(s.names.any fun (n, k) => n == y && (k == .local || k == .cell))
      | _ => false)
    | _ => false)
  | _ => false
def swN (sc : Scope) (ts : List Expr) : List Str := ts.filterMap fun
  | .Name id pos => if sc.names.lookup id == some .local && pos.line == (ts.head?.map (·.pos.line)).getD 0 then some id else none
  | _ => none
/-- which names are stored from the right -/
def swO (sc : Scope) (ts vs : List Expr) : Option (Option (List Str)) :=
  if !(ts.length == 2 || ts.length == 3) || vs.length != ts.length then some none
  else if vs.any starB then some none
  else if (swN sc ts).length != ts.length || (swN sc ts).eraseDups.length != (swN sc ts).length then some none
  else if vs.all (foldedForSure 8) then some none
  else if vs.all (constantsAlone 8) then none
  else some (some (swN sc ts))
theorem swO_ok {sc : Scope} {ts vs : List Expr} {r : Option (List Str)} {env : Env} {k k2 : Nat} {p p2 : Pos} (hs : env.scope = sc) (hb : env.blockKind = .function) (h : swO sc ts vs = some r) :
    swappedStores [.Tuple ts k p] (.Tuple vs k2 p2) env = pure r := by
  subst hs
  unfold swO at h
  unfold swappedStores
  have hb' : (env.blockKind != ScopeKind.function) = false := by rw [hb]; rfl
  simp only [hb', Bool.or_false]
  split at h
  · rename_i q
    cases h
    exact if_pos q
  · rename_i q
    refine (if_neg q).trans ?_
    split at h
    · rename_i q2
      cases h
      exact if_pos q2
    · rename_i q2
      refine (if_neg q2).trans ?_
      split at h
      · rename_i q3
        cases h
        exact if_pos q3
      · rename_i q3
        refine (if_neg q3).trans ?_
        split at h
        · rename_i q4
          cases h
          exact if_pos q4
        · rename_i q4
          refine (if_neg q4).trans ?_
          split at h
          · cases h
          · rename_i q5
            cases h
            exact if_neg q5
def eqSs : List Str → List Str → Bool
  | [], [] => true
  | a :: r, b :: q => eqS a b && eqSs r q
  | _, _ => false
theorem eqSs_ok : ∀ {a b : List Str}, eqSs a b = true → a = b
  | [], [], _ => rfl
  | [], _ :: _, h => by cases h
  | _ :: _, [], h => by cases h
  | a :: r, b :: q, h => by
    have h : (eqS a b && eqSs r q) = true := h
    rw [Bool.and_eq_true] at h
    rw [eqS_iff.mp h.1, eqSs_ok h.2]
/-- the names of slots, each the def's own -/
def slB (N : List Str) (sc : Scope) : List Nat → List Str → Bool
  | [], [] => true
  | g :: gs, x :: xs => atB N g x && (locB sc x && slB N sc gs xs)
  | _, _ => false
/-- all of them plain locals -/
def plB (sc : Scope) : List Str → Bool
  | [] => true
  | x :: xs => (match sc.names.lookup x with
    | some .local => true
    | _ => false) && plB sc xs
def ndB : List Nat → Bool
  | [] => true
  | g :: gs => !gs.elem g && ndB gs
def lenX : Exs → Nat
  | .nil => 0
  | .cons _ es => lenX es + 1
/-- try: one statement, with clauses -/
def asTry : Stmt → Option (Stmt × List ExceptHandler)
  | .Try [b] (h :: hs) [] [] _ => some (b, h :: hs)
  | _ => none
theorem asTry_ok {st : Stmt} {y : Stmt × List ExceptHandler} (h : asTry st = some y) : ∃ h0 hs p, y.2 = h0 :: hs ∧ st = .Try [y.1] (h0 :: hs) [] [] p := by
  unfold asTry at h
  split at h
  · cases h
    exact ⟨_, _, _, rfl, rfl⟩
  · cases h
/-- except x as n: -/
def asHd : ExceptHandler → Option (Str × Option Str × Stmt × List Stmt)
  | .ExceptHandler (some (.Name x _)) n (b :: r) _ => some (x, n, b, r)
  | _ => none
theorem asHd_ok {h : ExceptHandler} {y : Str × Option Str × Stmt × List Stmt} (e : asHd h = some y) : ∃ np p, h = .ExceptHandler (some (.Name y.1 np)) y.2.1 (y.2.2.1 :: y.2.2.2) p := by
  unfold asHd at e
  split at e
  · cases e
    exact ⟨_, _, rfl⟩
  · cases e
section
variable (N : List Str) (sc : Scope)
mutual
def chkHx (x : Hx) (e : Expr) : Bool := match x with
  | .con w => (match asCon e with
    | some c => conB w c
    | none => false)
  | .var i => (match asName e with
    | some x => atB N i x && (visB sc x && okN x)
    | none => false)
  | .fld i y => (match asAttr e with
    | some (x, n) => eqS n y && (atB N i x && (visB sc x && okN x))
    | none => false)
  | .tup xs => (match asTup e with
    | some es => chkHxs xs es
    | none => false)
def chkHxs (xs : List Hx) (es : List Expr) : Bool := match xs with
  | [] => es.isEmpty
  | x :: xs => (match es with
    | [] => false
    | e :: es => !starB e && (chkHx x e && chkHxs xs es))
end
def chkH1 (pr : List Nat) (s : Hs) (st : Stmt) : Bool := match s with
  | .asg i x => (match asAsg st with
    | some (t, e) => (match asName t with
      | some n => atB N i n && (locB sc n && (!pr.elem i && chkHx N sc x e))
      | none => false)
    | none => false)
  | .ret x => (match asRet st with
    | some (some e) => chkHx N sc x e
    | _ => false)
  | .app i x => (match asExpr st with
    | some c => (match asApp c with
      | some (n, e) => atB N i n && (visB sc n && (okN n && (!starB e && chkHx N sc x e)))
      | none => false)
    | none => false)
  | .pass => passB st
def chkHs (pr : List Nat) : List Hs → List Stmt → Bool
  | [], [] => true
  | s :: r, st :: sts => chkH1 N sc pr s st && chkHs pr r sts
  | _, _ => false
end
/-- the class that is named -/
def selN (tb : Tb) (s : Sel) (x : Str) : Bool := match s with
  | .any => eqS x "VerbError"
  | .one c => tb.ers.contains c && (match nth errs c with
    | some y => eqS y.1 x
    | none => false)
def chkHd (tb : Tb) (N : List Str) (sc : Scope) (pr : List Nat) : List Hd0 → List ExceptHandler → Bool
  | [], [] => true
  | h :: r, e :: es => (match asHd e with
    | some (x, n, b, st) => gloB sc x && (okN x && (selN tb h.sel x && ((match h.nm with
      | some i => (match n with
        | some n => atB N i n && (!pr.elem i && plB sc [n])
        | none => false)
      | none => n.isNone) && chkHs N sc pr h.body (b :: st))))
    | none => false) && chkHd tb N sc pr r es
  | _, _ => false
/-- what stands around the call in a try -/
def asTk (N : List Str) (sc : Scope) (pr : List Nat) (k : Tk) (st : Stmt) : Option Expr := match k with
  | .exp => (match asExpr st with
    | some e => some e
    | none => none)
  | .ret => (match asRet st with
    | some (some e) => some e
    | _ => none)
  | .retL => (match asRet st with
    | some (some e) => (match asLst e with
      | some [e] => cond (starB e) none (some e)
      | _ => none)
    | _ => none)
  | .asg i => (match asAsg st with
    | some (t, e) => (match asName t with
      | some n => cond (atB N i n && (locB sc n && !pr.elem i)) (some e) none
      | none => none)
    | none => none)
def tryX : Ex → Bool
  | .callv _ .nil => true
  | .call _ _ => true
  | _ => false
section
variable (tb : Tb) (N : List Str) (sc : Scope) (pr : List Nat) (no : Bool)
def chkPar (gs : List Nat) (t : Nat) (es : Exs) (tg e : Expr) : Bool := match asTup tg with
  | some ts => (match asTup e with
    | some vs => (match asNames ts with
      | some xs => slB N sc gs xs && (ndB gs && (gs.all (fun g => Nat.blt g t) && ((N.drop t).all (fun x => !visB sc x) && (Nat.beq (lenX es) gs.length && (Nat.ble (t + gs.length) N.length && (Nat.ble gs.length sizeLine && (offB pr gs && (pr.all (fun g => Nat.blt g t) && (chkL tb N sc es vs &&
          (match swO sc ts vs with
          | some none => true
          | some (some ys) => eqSs ys xs && plB sc xs
          | none => false))))))))))
      | none => false)
    | none => false)
  | none => false
mutual
def chkS (s : Sm) (st : Stmt) : Bool := match s with
  | .never => true
  | .raise c es => (match asRaise st with
    | some (x, fs) => (match nth errs c with
      | some (y, ys) => eqS y x && (gloB sc x && (okN x && ((tb.ers.contains c && !ys.isEmpty) && (!fs.isEmpty && chkL tb N sc es fs))))
      | none => false)
    | none => false)
  | .try_ k e hs => (match asTry st with
    | some (b, hds) => chkHd tb N sc pr hs hds && (tryX e && (match asTk N sc pr k b with
      | some e' => chkE tb N sc e e'
      | none => false))
    | none => false)
  | .exp e => (match asExpr st with
    | some e' => !compB e' && chkE tb N sc e e'
    | none => false)
  | .asg g e => (match asAsg st with
    | some (t, e') => offB pr (tIx g) && (!starB t && (chkG N sc g t && (chkE tb N sc e e' && (!(tupB t && tupB e') && (lcSwap sc t e' || !compB e')))))
    | none => false)
  | .par gs t es => (match asAsg st with
    | some (tg, e') => chkPar tb N sc pr gs t es tg e'
    | none => false)
  | .aug i m e => (match asAug st with
    | some (x, op, e') => atB N i x && (locB sc x && (!pr.elem i && ((match op with
      | .Add => !m
      | .Sub => m
      | _ => false) && chkE tb N sc e e')))
    | none => false)
  | .put i k v => (match asAsg st with
    | some (t, v') => (match asSub t with
      | some (o, k') => !sliceB k' && (!compB v' && (chkE tb N sc (.var i) o && (chkE tb N sc k k' && chkE tb N sc v v')))
      | none => false)
    | none => false)
  | .app i e => (match asExpr st with
    | some c => (match asApp c with
      | some (x, e') => atB N i x && (visB sc x && (okN x && (!starB e' && chkE tb N sc e e')))
      | none => false)
    | none => false)
  | .ret e => (match asRet st with
    | some (some e') => chkE tb N sc e e'
    | _ => false)
  | .retv i => (match asRet st with
    | some (some e') => no && chkE tb N sc (.var i) e'
    | _ => false)
  | .retN => (match asRet st with
    | some none => true
    | _ => false)
  | .ite c a b => (match asIfS st with
    | some (c', a', b') => chkE tb N sc c c' && (chkSs a a' && chkSs b b')
    | none => false)
  | .while_ c b => (match asWhile st with
    | some (c', b') => chkE tb N sc c c' && chkSs b b'
    | none => false)
  | .ext i e => (match asExpr st with
    | some c => (match asExt c with
      | some (x, e') => atB N i x && (visB sc x && (okN x && (!starB e' && chkE tb N sc e e')))
      | none => false)
    | none => false)
  | .for_ g it b => (match asFor st with
    | some (t, i, b') => offB pr (tIx g) && (chkG N sc g t && (chkI tb N sc t it i && chkSs b b'))
    | none => false)
  | .pass => passB st
  | .brk => brkB st
  | .cont => contB st
def chkSs (s : Sms) (sts : List Stmt) : Bool := match s with
  | .nil => sts.isEmpty
  | .cons s r => (match sts with
    | st :: sts => chkS s st && chkSs r sts
    | [] => false)
end
end

/-! ### errors -/
/-- C(e, ..): an error with its fields -/
def tErr (C : Addr) (xs : List Str) (ta : TA) : St → Hp → XK → Prop := fun σ H Q => ta σ H fun vs H1 => vs.length = xs.length ∧ ∀ (d : Addr) (fs : List (Str × V)) (H' : Hp), H1 d = none → H' d = some (.xd fs) → (∀ b, b ≠ d → H' b = H1 b) →
  (∀ (i : Nat) x v, xs[i]? = some x → vs[i]? = some v → fs.lookup x = some v) → Q (.ref C) (some d) H'
/-- how an error is made here -/
def Makes (X : Cx) (G : Gx) (c : Nat) : Prop := ∃ (x : Str) (xs : List Str) (C : Addr), errs[c]? = some (x, xs) ∧ G (clN + c) = some C ∧
  ∀ {e : Expr} {es : List Expr} {p pos : Pos}, Gl X x → starEach (e :: es) X.env = (false, eval e X.env) :: starEach es X.env → (backTo pos (starEach es X.env)).any (·.1) = false → PMk X (.Call (.Name x p) (e :: es) [] pos) (tErr C xs (tWA X (e :: es)))
/-! ### a def's frame -/
structure Fok (XE : XP) (tb : Tb) (N : List Str) (cl : Cl) (io : Nat → List Bool) (cn : Nat → W) (f : Fm) (X : Cx) (sc : Scope) (no : Bool) : Prop extends Xok XE tb N cl io cn f X sc where
  hsc : X.env.scope = sc
  hp : PassesOwn (model X.prog X.w) X.A X.env X.xe
  nio : no = true → f.IO = []
  mks : ∀ c, tb.ers.contains c = true → errF c ≠ [] → Makes X f.G c
  stk : X.stack = X.env :: X.outer
  frm : X.env.frame = some X.env.locals
  hdl : ∀ s x, selN tb s x = true → ∃ D, X.mg x = some (.ref D) ∧ ∀ c C, f.G.fn (clN + c) = some C → PySem.W.exmOne X.K (.ref C) (.ref D) = some (selB s c)
/-- where a statement ends -/
def FlOk (f : Fm) (g : Gh) (pr : List Nat) (σ : St) (D : Ends) (fl : Fl) (b' : Nat) : Prop := match fl with
  | .nx sl' => ∀ g' σ' H', g.le g' → Rl f g' b' sl' σ' H' → (∀ i ∈ pr, σ'[i]? = σ[i]?) → D.nx σ' H'
  | .brk sl' => ∀ g' σ' H', g.le g' → Rl f g' b' sl' σ' H' → (∀ i ∈ pr, σ'[i]? = σ[i]?) → D.bk σ' H'
  | .cont sl' => ∀ g' σ' H', g.le g' → Rl f g' b' sl' σ' H' → (∀ i ∈ pr, σ'[i]? = σ[i]?) → D.ct σ' H'
  | .ret r sl' => ∀ g' σ' v H', g.le g' → Rl f g' b' sl' σ' H' → Vl f g' H' sl' σ' r v → (∀ i ∈ pr, σ'[i]? = σ[i]?) → D.rt v H'
structure SS (tb : Tb) (N : List Str) (cl : Cl) (io : Nat → List Bool) (cn : Nat → W) (f : Fm) (pr : List Nat) (no : Bool) (s : Sm) : Prop where
  run : ∀ {XE : XP} {X : Cx} {sc : Scope} {st : Stmt}, Fok XE tb N cl io cn f X sc no → chkS tb N sc pr no s st = true → ∀ {sl : Sl} {σ : St} {H : Hp} {g : Gh} {b : Nat} {D : Ends}, Rl f g b sl σ H →
    (exS cl io cn s sl).wb XE b (FlOk f g pr σ D) → tWS X st D σ H
structure SSs (tb : Tb) (N : List Str) (cl : Cl) (io : Nat → List Bool) (cn : Nat → W) (f : Fm) (pr : List Nat) (no : Bool) (s : Sms) : Prop where
  run : ∀ {XE : XP} {X : Cx} {sc : Scope} {st : List Stmt}, Fok XE tb N cl io cn f X sc no → chkSs tb N sc pr no s st = true → ∀ {sl : Sl} {σ : St} {H : Hp} {g : Gh} {b : Nat} {D : Ends}, Rl f g b sl σ H →
    (exSs cl io cn s sl).wb XE b (FlOk f g pr σ D) → tWSs X st D σ H
section
variable {tb : Tb} {N : List Str} {cl : Cl} {io : Nat → List Bool} {cn : Nat → W} {f : Fm} {pr : List Nat} {no : Bool}
theorem FlOk.mono {g g' : Gh} {σ σ' : St} {D : Ends} {fl : Fl} {b : Nat} (l : g.le g') (e : ∀ i ∈ pr, σ'[i]? = σ[i]?) (h : FlOk f g pr σ D fl b) : FlOk f g' pr σ' D fl b := by
  cases fl with
  | nx sl => exact fun g2 σ2 H2 l2 R2 e2 => h g2 σ2 H2 (l.trans l2) R2 fun i hi => (e2 i hi).trans (e i hi)
  | brk sl => exact fun g2 σ2 H2 l2 R2 e2 => h g2 σ2 H2 (l.trans l2) R2 fun i hi => (e2 i hi).trans (e i hi)
  | cont sl => exact fun g2 σ2 H2 l2 R2 e2 => h g2 σ2 H2 (l.trans l2) R2 fun i hi => (e2 i hi).trans (e i hi)
  | ret r sl => exact fun g2 σ2 v H2 l2 R2 vl e2 => h g2 σ2 v H2 (l.trans l2) R2 vl fun i hi => (e2 i hi).trans (e i hi)
theorem allSE : ∀ {es : Exs}, AllX (SX tb N cl io cn f) es → AllX (SE tb N cl io cn f) es
  | .nil, _ => True.intro
  | .cons _ _, h => ⟨h.1.1, allSE h.2⟩
theorem ss_raise {c : Nat} {es : Exs} : SS tb N cl io cn f pr no (.raise c es) := ⟨fun {XE X sc st} o ck {sl σ H g b D} R h => by
  unfold chkS at ck
  cases hc : asRaise st with
  | none => rw [hc] at ck; cases ck
  | some y =>
    obtain ⟨x, fs⟩ := y
    obtain ⟨p, q, r, rfl⟩ := asRaise_ok hc
    rw [hc] at ck
    dsimp only at ck
    rw [nth_eq] at ck
    cases he : errs[c]? with
    | none => rw [he] at ck; cases ck
    | some y =>
      obtain ⟨x', xs⟩ := y
      rw [he] at ck
      simp only [Bool.and_eq_true] at ck
      obtain ⟨c1, c2, c3, c4, c5, c6⟩ := ck
      obtain rfl : x' = x := by rw [eqS_dec] at c1; exact of_decide_eq_true c1
      obtain ⟨x2, xs2, C, e1, e2, mk⟩ := o.mks c c4.1 (by
        unfold errF
        rw [nth_eq, he]
        intro z
        have z : xs = [] := z
        rw [z] at c4
        cases c4.2)
      rw [he] at e1
      cases e1
      cases fs with
      | nil => cases c5
      | cons e1 fs =>
        have sa := chkL_star c6
        rw [List.all_cons, Bool.and_eq_true] at sa
        have st1 : starB e1 = false := by simpa using sa.1
        refine of_ps (ps_raise o.bx.calm o.tk (mk (o.glo _ c2) (star_cons st1) (star_any sa.2))) ?_
        · refine lA_ok (allSE (sndL es f)) o.toXok c6 R (T.wb_mono (fun pp b' k g' vs H1 l R1 rvs => ?_) (T.wb_bind.mp (show (sRaise c _ sl).wb XE b _ from h)))
          obtain ⟨kl, k⟩ := T.wb_guard k
          have k : XE c pp.1 b' := k
          have kl : pp.1.length = xs.length := by
            have := Nat.eq_of_beq_eq_true kl
            rw [this]
            unfold errN
            rw [nth_eq, he]
          refine ⟨rvs.len.symm.trans kl, fun d nm H' h1 h2 h3 h4 => ?_⟩
          have R2 : Rl f g' b' pp.2 σ H' := R1.mono fun a u q => by
            rw [h3 a (fun z => by rw [z, h1] at q; cases q)]
            exact q
          have R3 := R2.add (a := d) (R1.freeF h1) h2 (R1.freeD h1) (.inl (R1.free0 h1)) (R1.freeS h1) (fun _ z => nomatch z)
          refine ⟨c, pp.1, g'.add d (.xd nm), b', k, ⟨C, d, nm, _, xs, e2, rfl, rfl, upd_same, he, kl.symm, fun i w y q1 q2 => ?_⟩, R3.bare⟩
          obtain ⟨v, v1, v2⟩ := rvs.get q1
          exact ⟨v, h4 i y v q2 v1, v2.le (Gh.le_add (R1.freeF h1))⟩⟩
theorem ss_never : SS tb N cl io cn f pr no .never := ⟨fun {XE X sc st} o c {sl σ H g b D} R h => (show T.wb XE .stk b _ from h).elim⟩
theorem ss_pass : SS tb N cl io cn f pr no .pass := ⟨fun {XE X sc st} o c {sl σ H g b D} R h => by
  have c : passB st = true := c
  cases st <;> first
    | (cases c; done)
    | exact of_ps ps_pass (h g σ H (Gh.le.refl g) R fun _ _ => rfl)⟩
theorem ss_brk : SS tb N cl io cn f pr no .brk := ⟨fun {XE X sc st} o c {sl σ H g b D} R h => by
  have c : brkB st = true := c
  cases st <;> first
    | (cases c; done)
    | exact of_ps ps_break (h g σ H (Gh.le.refl g) R fun _ _ => rfl)⟩
theorem ss_cont : SS tb N cl io cn f pr no .cont := ⟨fun {XE X sc st} o c {sl σ H g b D} R h => by
  have c : contB st = true := c
  cases st <;> first
    | (cases c; done)
    | exact of_ps ps_continue (h g σ H (Gh.le.refl g) R fun _ _ => rfl)⟩
theorem ss_exp {e : Ex} : SS tb N cl io cn f pr no (.exp e) := ⟨fun {XE X sc st} o c {sl σ H g b D} R h => by
  unfold chkS at c
  cases hc : asExpr st with
  | none => rw [hc] at c; cases c
  | some e' =>
    rw [hc] at c
    obtain ⟨p, rfl⟩ := asExpr_ok hc
    simp only [Bool.and_eq_true, Bool.not_eq_true'] at c
    refine of_ps (ps_expr pe_w (swap_no c.1)) ((sndE e f).1.run o.toXok c.2 R (T.wb_mono (fun r b' k g' v H' l R' vl => ?_) (T.wb_bind.mp (show (sExp _ sl).wb XE b _ from h))))
    exact k g' σ H' l R' fun _ _ => rfl⟩
theorem ss_ret {e : Ex} : SS tb N cl io cn f pr no (.ret e) := ⟨fun {XE X sc st} o c {sl σ H g b D} R h => by
  unfold chkS at c
  split at c
  · rename_i e' hc
    obtain ⟨p, rfl⟩ := asRet_ok hc
    refine of_ps (ps_ret pe_w) ((sndE e f).1.run o.toXok c R (T.wb_mono (fun r b' k g' v H' l R' vl => ?_) (T.wb_bind.mp (show (sRet _ sl).wb XE b _ from h))))
    exact k g' σ v H' l R' vl fun _ _ => rfl
  · cases c⟩
theorem ss_retN : SS tb N cl io cn f pr no .retN := ⟨fun {XE X sc st} o c {sl σ H g b D} R h => by
  unfold chkS at c
  split at c
  · rename_i hc
    obtain ⟨p, rfl⟩ := asRet_ok hc
    exact of_ps ps_retN (h g σ _ H (Gh.le.refl g) R .non fun _ _ => rfl)
  · cases c⟩
theorem ss_retv {i : Nat} : SS tb N cl io cn f pr no (.retv i) := ⟨fun {XE X sc st} o c {sl σ H g b D} R h => by
  unfold chkS at c
  split at c
  · rename_i e' hc
    obtain ⟨p, rfl⟩ := asRet_ok hc
    rw [Bool.and_eq_true] at c
    obtain ⟨c1, c⟩ := c
    unfold chkE at c
    cases hn : asName e' with
    | none => rw [hn] at c; cases c
    | some y =>
      rw [hn] at c
      obtain ⟨p, rfl⟩ := asName_ok hn
      simp only [Bool.and_eq_true, okN, Bool.not_eq_true'] at c
      obtain ⟨c3, c4, c5, c6, _⟩ := c
      obtain ⟨⟨w, fr⟩, e1, h⟩ := rd_wb (T.wb_bind.mp (show (sRetv i sl).wb XE b _ from h))
      have hN : X.N[i]? = some y := by rw [o.hN]; exact atB_ok c3
      rw [sett_eq] at h
      have R1 : Rl f g b (sl.set i none) σ H := R.setN
      cases fr with
      | false =>
        obtain ⟨v, s1, rv⟩ := R.frz i w e1
        exact of_ps (ps_ret pe_w) (w_var hN (o.vis y c4) c5 c6 s1 (h g σ v H (Gh.le.refl g) R1 rv fun _ _ => rfl))
      | true =>
        obtain ⟨a, s1, ho, hF, hD, h0⟩ := R.own i w e1
        refine of_ps (ps_ret pe_w) (w_var hN (o.vis y c4) c5 c6 s1 (h g σ _ H (Gh.le.refl g) R1 ⟨a, rfl, ho, hF, hD, ?_, fun j u q z => ?_⟩ fun _ _ => rfl))
        · rcases h0 with z | z
          · exact z
          · rw [o.nio c1] at z
            exact (List.not_mem_nil z).elim
        · rcases sl_set q with ⟨_, q'⟩ | ⟨e2, q'⟩
          · cases q'
          · exact e2 (R.inj i j w u a e1 q' s1 z)
  · cases c⟩
theorem ss_app {i : Nat} {e : Ex} : SS tb N cl io cn f pr no (.app i e) := ⟨fun {XE X sc st} o c {sl σ H g b D} R h => by
  unfold chkS at c
  cases hc : asExpr st with
  | none => rw [hc] at c; cases c
  | some e' =>
    rw [hc] at c
    obtain ⟨p, rfl⟩ := asExpr_ok hc
    dsimp only at c
    cases hc2 : asApp e' with
    | none => rw [hc2] at c; cases c
    | some y =>
      rw [hc2] at c
      obtain ⟨x, e1⟩ := y
      obtain ⟨p1, ap, cp, rfl, hline⟩ := asApp_ok hc2
      simp only [Bool.and_eq_true, okN, Bool.not_eq_true'] at c
      obtain ⟨c1, c2, ⟨c3, c4, _⟩, c5, c6⟩ := c
      obtain ⟨w0, e0, h⟩ := own_wb (T.wb_bind.mp (show (sApp i _ sl).wb XE b _ from h))
      obtain ⟨hl, h⟩ := T.wb_guard h
      obtain ⟨a, s1, ho, _⟩ := R.own i w0 e0
      have hN : X.N[i]? = some x := by rw [o.hN]; exact atB_ok c1
      refine of_ps (ps_expr (pe_bm PySem.F.plainAttrs_list PySem.F.slot_list_append PySem.F.type_list_append mt_append pe_w pa_w rfl (by rw [star_one c5]; rfl) hline (star_cons c5) rfl) (swap_no rfl)) ?_
      refine w_var hN (o.vis x c2) c3 c4 s1 ⟨?_, ?_⟩
      · cases w0 <;> first
          | (cases hl; done)
          | skip
        obtain ⟨vs, q1, _⟩ := ho
        exact .inl ⟨rfl, vs, .inl (.inl q1)⟩
      · refine w_cons c5 ((sndE e f).1.kn o.toXok c6 R (T.wb_mono (fun r b' k g' v H' l R' rv => w_nil ?_) (T.wb_bind.mp h)))
        obtain ⟨w1, e2, k⟩ := own_wb (T.wb_bind.mp k)
        obtain ⟨a', s2, ho2, hF, hD, h0⟩ := R'.own i w1 e2
        rw [s1] at s2
        cases s2
        cases w1 <;> first
          | exact ho2.elim
          | exact k.elim
          | skip
        obtain ⟨vs, q1, q2⟩ := ho2
        obtain ⟨k1, k⟩ := T.wb_guard (T.wb_bind.mp k)
        have k1 : _ < sizeLine := Nat.le_of_ble_eq_true k1
        refine ⟨a, vs, v, rfl, rfl, q1, by rw [← q2.len]; exact k1, ?_⟩
        have k : FlOk f g pr σ D (.nx (sett r.2 i (some (.lst (_ ++ [r.1.1]), true)))) b' := k
        rw [sett_eq] at k
        refine k g' σ _ l ?_ fun _ _ => rfl
        have no : NoSlot (r.2.set i none) σ a := fun j u q z => by
          rcases sl_set q with ⟨_, q'⟩ | ⟨e3, q'⟩
          · cases q'
          · exact e3 (R'.inj i j _ u a e2 q' s1 z)
        have R2 := (R'.setN (i := i)).chg (o := .lst (vs ++ [v])) hF hD h0 no (by rw [q1]; exact soft_lst)
        have R3 := R2.setO (i := i) (w := .lst (_ ++ [r.1.1])) (a := a) ⟨vs ++ [v], upd_same, q2.append (.cons rv .nil)⟩ hF hD h0 fun j u _ q => no j u q
        rw [set_same s1, List.set_set] at R3
        exact R3⟩
theorem ss_ext {i : Nat} {e : Ex} : SS tb N cl io cn f pr no (.ext i e) := ⟨fun {XE X sc st} o c {sl σ H g b D} R h => by
  unfold chkS at c
  cases hc : asExpr st with
  | none => rw [hc] at c; cases c
  | some e' =>
    rw [hc] at c
    obtain ⟨p, rfl⟩ := asExpr_ok hc
    dsimp only at c
    cases hc2 : asExt e' with
    | none => rw [hc2] at c; cases c
    | some y =>
      rw [hc2] at c
      obtain ⟨x, e1⟩ := y
      obtain ⟨p1, ap, cp, rfl, hline⟩ := asExt_ok hc2
      simp only [Bool.and_eq_true, okN, Bool.not_eq_true'] at c
      obtain ⟨c1, c2, ⟨c3, c4, _⟩, c5, c6⟩ := c
      obtain ⟨w0, e0, h⟩ := own_wb (T.wb_bind.mp (show (sExt i _ sl).wb XE b _ from h))
      obtain ⟨hl, h⟩ := T.wb_guard h
      obtain ⟨a, s1, ho, _⟩ := R.own i w0 e0
      have hN : X.N[i]? = some x := by rw [o.hN]; exact atB_ok c1
      refine of_ps (ps_expr (pe_bm PySem.F.plainAttrs_list PySem.F.slot_list_extend PySem.F.type_list_extend mt_extend pe_w pa_w rfl (by rw [star_one c5]; rfl) hline (star_cons c5) rfl) (swap_no rfl)) ?_
      refine w_var hN (o.vis x c2) c3 c4 s1 ⟨?_, ?_⟩
      · cases w0 <;> first
          | (cases hl; done)
          | skip
        obtain ⟨vs, q1, _⟩ := ho
        exact .inl ⟨rfl, vs, .inl (.inl q1)⟩
      · refine w_cons c5 ((sndE e f).1.kn o.toXok c6 R (T.wb_mono (fun r b' k g' v H' l R' rv => w_nil ?_) (T.wb_bind.mp h)))
        obtain ⟨w1, e2, k⟩ := own_wb (T.wb_bind.mp k)
        obtain ⟨a', s2, ho2, hF, hD, h0⟩ := R'.own i w1 e2
        rw [s1] at s2
        cases s2
        cases w1 <;> first
          | exact ho2.elim
          | exact k.elim
          | skip
        obtain ⟨vs, q1, q2⟩ := ho2
        have k := T.wb_bind.mp k
        obtain ⟨ys, er⟩ : ∃ ys, r.1.1 = .lst ys := by
          cases er : r.1.1 <;> first
            | exact ⟨_, rfl⟩
            | (rw [er] at k; exact k.elim)
        rw [er] at k rv
        obtain ⟨k1, k⟩ := T.wb_guard k
        have k1 := Nat.le_of_ble_eq_true k1
        cases rv with
        | @lst b2 zs _ hb r2 =>
          refine ⟨a, b2, vs, zs, rfl, rfl, q1, R'.sub _ _ hb, by rw [← q2.len, ← r2.len]; exact k1, ?_⟩
          have k : FlOk f g pr σ D (.nx (sett r.2 i (some (.lst (_ ++ ys), true)))) b' := k
          rw [sett_eq] at k
          refine k g' σ _ l ?_ fun _ _ => rfl
          have no : NoSlot (r.2.set i none) σ a := fun j u q z => by
            rcases sl_set q with ⟨_, q'⟩ | ⟨e3, q'⟩
            · cases q'
            · exact e3 (R'.inj i j _ u a e2 q' s1 z)
          have R2 := (R'.setN (i := i)).chg (o := .lst (vs ++ zs)) hF hD h0 no (by rw [q1]; exact soft_lst)
          have R3 := R2.setO (i := i) (w := .lst (_ ++ ys)) (a := a) ⟨vs ++ zs, upd_same, q2.append r2⟩ hF hD h0 fun j u _ q => no j u q
          rw [set_same s1, List.set_set] at R3
          exact R3⟩
end
end Ev
end
end
section
set_option Elab.async false
set_option linter.all false
set_option maxRecDepth 100000
set_option maxHeartbeats 2000000
/-! EvSt2: stores, choices, loops. -/
noncomputable section
namespace Ev
open PySem L2
set_option autoImplicit false
variable {XE : XP}
section
variable {tb : Tb} {N : List Str} {cl : Cl} {io : Nat → List Bool} {cn : Nat → W} {f : Fm} {pr : List Nat} {no : Bool}
theorem Fok.bk {X : Cx} {sc : Scope} (o : Fok XE tb N cl io cn f X sc no) : X.env.blockKind = .function := by
  unfold Env.blockKind
  rw [o.knd]
  rfl
theorem swapped_no {sc : Scope} {tt : Tg} {t e : Expr} {env : Env} (c : chkG N sc tt t = true) (h : (tupB t && tupB e) = false) : swappedStores [t] e env = pure none := by
  cases tt with
  | nm i =>
    unfold chkG at c
    cases hn : asName t with
    | none => rw [hn] at c; cases c
    | some x =>
      obtain ⟨p, rfl⟩ := asName_ok hn
      rfl
  | tp ts =>
    unfold chkG at c
    cases hn : asTup t with
    | none => rw [hn] at c; cases c
    | some x =>
      obtain ⟨p, q, rfl⟩ := asTup_ok hn
      cases e <;> first
        | rfl
        | (cases h; done)
theorem ss_asg {t : Tg} {e : Ex} : SS tb N cl io cn f pr no (.asg t e) := ⟨fun {XE X sc st} o c {sl σ H g b D} R h => by
  unfold chkS at c
  cases hc : asAsg st with
  | none => rw [hc] at c; cases c
  | some y =>
    rw [hc] at c
    obtain ⟨tg, e'⟩ := y
    obtain ⟨p, rfl⟩ := asAsg_ok hc
    simp only [Bool.and_eq_true, Bool.not_eq_true'] at c
    obtain ⟨c1, c2, c3, c4, c5, c6⟩ := c
    have h : (sAsg t (evE cl io cn e) sl).wb XE b _ := h
    have off := offB_ok c1
    -- what the store reaches
    have fin : (evE cl io cn e sl).wb XE b (fun r b' => ∀ g' v H', g.le g' → Rl f g' b' r.2 σ H' → Vl f g' H' r.2 σ r.1 v → gOf f.K t v σ H' D.nx) := by
      refine T.wb_mono (fun r b' k g' v H' l R' vl => ?_) (T.wb_bind.mp h)
      exact setG_ok R' vl (T.wb_bind.mp k) fun sl' σ' k2 R2 so => k2 g' σ' H' l R2 fun i hi => so.2 i (off i hi)
    cases hs : lcSwap sc tg e' with
    | false =>
      rw [hs] at c6
      have c6 : compB e' = false := by
        cases q : compB e' with
        | false => rfl
        | true => rw [q] at c6; cases c6
      refine of_ps (ps_asg pe_w (pg_of o.toXok c3) (swap_no c6) (swapped_no c3 c5) (by rw [each_cons c2]; rfl)) ?_
      rw [o.bx.hK]
      exact (sndE e f).1.run o.toXok c4 R fin
    | true =>
      unfold lcSwap at hs
      split at hs
      · rename_i y py
        split at hs
        · rename_i q1 q2 q3 q4
          cases hl : sc.names.lookup y with
          | none => rw [hl] at hs; cases hs
          | some k =>
            rw [hl] at hs
            cases k <;> first
              | (cases hs; done)
              | skip
            simp only [Bool.and_eq_true, Bool.not_eq_true'] at hs
            obtain ⟨hs1, hs2⟩ := hs
            -- the term is a comprehension, the target a name
            cases t with
            | tp ts =>
              unfold chkG at c3
              cases c3
            | nm i =>
              unfold chkG at c3
              have c3 : (atB N i y && locB sc y) = true := c3
              rw [Bool.and_eq_true] at c3
              cases e with
              | lc own x t it ifs =>
                obtain ⟨e'', g', it', ifs', scope, pos, ee, d0, dt, d1, d2, d3, d4, d5, d6⟩ := chk_lc c4
                cases ee
                refine of_ps (ps_setLc (i := i) (g := gOf X.K t) (tt := ttB X _ _) (te := teB X _ _) o.bx.calm (by rw [o.hN]; exact o.nd) (by rw [o.hN]; exact atB_ok c3.1) (o.ll y hl) (sw_true o.knd (o.ll y hl) hs1 hs2) pi_w (blk_to o.toXok d0) (fun s H C l fp => pg_of (o.toXok.blk rfl rfl d0.kind dt s H C l fp) d2) pts_B pe_B (fold_ok d6)) ?_
                refine lc_main (Q := fun x H1 => gName i x σ H1 D.nx) o.toXok d0 dt (fun f => sndE x f) (fun f => sndL ifs f) (si_all (sndI it f)) d1 d2 d3 d4 d5 R ?_
                exact fin
              | lc2 own own1 x t it t1 it1 =>
                obtain ⟨e'', g', it', g1', it1', scope, pos, ee, d0, dt, q1, q2, d1, d2, d3, d4, d5, d6, d7⟩ := chk_lc2 c4
                cases ee
                refine of_ps (ps_setLc2 (i := i) (g := gOf X.K t) (g1 := gOf X.K t1) (vs1 := own1) (tt := ttB X _ _) (tt1 := ttB X _ _) (te := teB X _ _) (wi1 := tiB X _ _ _) o.bx.calm (by rw [o.hN]; exact o.nd) (by rw [o.hN]; exact atB_ok c3.1) (o.ll y hl) (sw_true o.knd (o.ll y hl) hs1 hs2) pi_w (blk_to o.toXok d0) q1 (fun s H C l fp => pg_of (o.toXok.blk rfl rfl d0.kind dt s H C l fp) d2) pts_B pi_B (fun s H C l fp => pg_of (o.toXok.blk rfl rfl d0.kind dt s H C l fp) d4) pts_B pe_B (fold_ok d6) (fun env => fold_ok d7)) ?_
                refine lc2_main (Q := fun x H1 => gName i x σ H1 D.nx) o.toXok d0 dt q1 q2 (fun f => sndE x f) (si_all (sndI it f)) (fun f => si_all (sndI it1 f)) d1 d2 d3 d4 d5 R ?_
                exact fin
              | tupS l ms es =>
                unfold chkE at c4
                cases l <;> cases c4
              | mkE kw c1 is es =>
                unfold chkE at c4
                cases kw <;> cases c4
              | _ =>
                unfold chkE at c4
                first
                  | (cases c4; done)
                  | exact (show T.wb XE .stk b _ from T.wb_bind.mp h).elim
                  | trace_state
        · cases hs
      · cases hs⟩

theorem PSet.or {X : Cx} {t u : TSet} (h : PSet X t) (h' : PSet X u) : PSet X (fun o i v H Q => t o i v H Q ∨ u o i v H Q) := fun pins s σ H o i v ov iv w Q I r1 r2 r3 q => q.elim (h pins s σ H o i v ov iv w Q I r1 r2 r3) (h' pins s σ H o i v ov iv w Q I r1 r2 r3)
theorem set_dct {X : Cx} (hu : X.A.units + 1 < cLine) : PSet X (fun o i v H Q => ∃ a H', o = .ref a ∧ DPut H a i v H' ∧ Q H') := fun pins s σ H o i v ov iv u Q I r1 r2 r3 ⟨a, H', e, d, q⟩ => by
  subst e
  obtain rfl : ov = Value.ref a := r1
  exact d_setItem hu I d r2 r3 fun s' I' => ⟨H', I', q⟩
theorem assign_sub {o i : Expr} {pos : Pos} {env : Env} (h : sliceB i = false) (v : Value) : assign (.Subscript o i pos) env v = (do
      let ov ← holding [v] (eval o env)
      let iv ← holding [v, ov] (eval i env)
      standAt pos
      holding [v, ov, iv] (setItem ov iv v)
      release [v, ov, iv] []) := by
  cases i <;> first
    | rfl
    | cases h
theorem ss_put {i : Nat} {k v : Ex} : SS tb N cl io cn f pr no (.put i k v) := ⟨fun {XE X sc st} o c {sl σ H g b D} R h => by
  unfold chkS at c
  cases hc : asAsg st with
  | none => rw [hc] at c; cases c
  | some y =>
    rw [hc] at c
    obtain ⟨tg, v'⟩ := y
    obtain ⟨p, rfl⟩ := asAsg_ok hc
    dsimp only at c
    cases hc2 : asSub tg with
    | none => rw [hc2] at c; cases c
    | some z =>
      rw [hc2] at c
      obtain ⟨ob, k'⟩ := z
      obtain ⟨p2, rfl⟩ := asSub_ok hc2
      simp only [Bool.and_eq_true, Bool.not_eq_true'] at c
      obtain ⟨c1, c2, c3, c4, c5⟩ := c
      unfold chkE at c3
      cases hn : asName ob with
      | none => rw [hn] at c3; cases c3
      | some y =>
        rw [hn] at c3
        obtain ⟨p3, rfl⟩ := asName_ok hn
        simp only [Bool.and_eq_true, okN, Bool.not_eq_true'] at c3
        obtain ⟨d1, d2, d3, d4, _⟩ := c3
        have hN : X.N[i]? = some y := by rw [o.hN]; exact atB_ok d1
        have hu1 : X.A.units + 1 < cLine := by have := o.bx.hu; omega
        show tWS X (.Assign [.Subscript (.Name y p3) k' p2] v' p) D σ H
        refine of_ps (ps_asg (g := gSub (tW X (.Name y p3)) (tW X k') _) pe_w (pg_sub pe_w pe_w (PSet.or set_list (set_dct hu1)) (assign_sub c1)) (swap_no (o := some (.Subscript (.Name y p3) k' p2)) (l := p.line) (env := X.env) c2) rfl rfl) ?_
        refine (sndE v f).1.kn o.toXok c5 R (T.wb_mono (fun r b1 k1 g1 v1 H1 l1 R1 rv1 => ?_) (T.wb_bind.mp (show (sPut i _ _ sl).wb XE b _ from h)))
        obtain ⟨w0, e0, k1⟩ := own_wb (T.wb_bind.mp k1)
        obtain ⟨a, s1, _⟩ := R1.own i w0 e0
        refine w_var hN (o.vis y d2) d3 d4 s1 ((sndE k f).1.kn o.toXok c4 R1 (T.wb_mono (fun r2 b2 k2 g2 v2 H2 l2 R2 rv2 => ?_) (T.wb_bind.mp k1)))
        obtain ⟨w1, e2, k3⟩ := own_wb (T.wb_bind.mp k2)
        obtain ⟨a', s2, ho2, hF, hD, h0⟩ := R2.own i w1 e2
        rw [s1] at s2
        cases s2
        have nos : NoSlot (r2.2.set i none) σ a := fun j u q z => by
          rcases sl_set q with ⟨_, q'⟩ | ⟨e3, q'⟩
          · cases q'
          · exact e3 (R2.inj i j _ u a e2 q' s1 z)
        -- the thing changed lies in its slot
        have fin : ∀ {w : W} {u : HO}, OA f.K f.G g2 (upd H2 a u) w a → FlOk f g pr σ D (.nx (sett r2.2 i (some (w, true)))) b2 → D.nx σ (upd H2 a u) := fun {w u} oa k => by
          rw [sett_eq] at k
          refine k g2 σ _ (l1.trans l2) ?_ fun _ _ => rfl
          have R3 := ((R2.setN (i := i)).chg (o := u) hF hD h0 nos ho2.soft).setO (i := i) (w := w) (a := a) oa hF hD h0 fun j u _ q => nos j u q
          rw [set_same s1, List.set_set] at R3
          exact R3
        have k4 := T.wb_bind.mp k3
        cases w1 <;> first
          | exact ho2.elim
          | skip
        · obtain ⟨vs, q1, q2⟩ := ho2
          obtain ⟨⟨wk, frk⟩, slk⟩ := r2
          cases wk <;> first
            | exact k4.elim
            | skip
          rename_i n
          cases rv2
          have k4 : T.wb XE (match ixOf _ n with
            | some j => T.ok (W.lst (sett _ j r.1.1))
            | none => T.stk) b2 _ := k4
          split at k4
          · rename_i j hj
            left
            refine ⟨a, vs, n, j, rfl, rfl, q1, by rw [← q2.len, ← ixOf_N]; exact hj, fin (w := .lst (sett _ j r.1.1)) ⟨_, upd_same, ?_⟩ k4⟩
            rw [sett_eq]
            exact q2.set (rv1.le l2) j
          · exact k4.elim
        · obtain ⟨vs, q1, q2⟩ := ho2
          obtain ⟨⟨wk, frk⟩, slk⟩ := r2
          have k4 : T.wb XE (match keyOf wk with
            | some k => T.guard (Nat.blt _ sizeLine) (T.ok (W.dct (Ev.putK _ k r.1.1)))
            | none => T.stk) b2 _ := k4
          split at k4
          · rename_i kk hk
            have ek := keyOf_V (f := f) (g := g2) (H := H2) hk (.inl rv2)
            subst ek
            obtain ⟨k5, k6⟩ := T.wb_guard k4
            have k5 : _ < sizeLine := Nat.le_of_ble_eq_true k5
            right
            exact ⟨a, _, rfl, DPut.k q1 (by rw [← q2.len]; exact k5), fin (w := .dct (Ev.putK _ kk r.1.1)) ⟨_, upd_same, putK_V (rv1.le l2) q2⟩ k6⟩
          · exact k4.elim⟩
theorem ss_ite {c : Ex} {p q : Sms} (Sp : SSs tb N cl io cn f pr no p) (Sq : SSs tb N cl io cn f pr no q) : SS tb N cl io cn f pr no (.ite c p q) := ⟨fun {XE X sc st} o ck {sl σ H g b D} R h => by
  unfold chkS at ck
  cases hc : asIfS st with
  | none => rw [hc] at ck; cases ck
  | some y =>
    rw [hc] at ck
    obtain ⟨c', p', q'⟩ := y
    obtain ⟨ps, rfl⟩ := asIfS_ok hc
    simp only [Bool.and_eq_true] at ck
    refine of_ps (ps_if pt_w pss_w pss_w) ((sndE c f).2.run o.toXok ck.1 R (T.wb_mono (fun r b' k => ?_) (T.wb_bind.mp (show (sIte _ _ _ sl).wb XE b _ from h))))
    obtain ⟨t, e1, k⟩ := boolOf_wb (T.wb_bind.mp k)
    refine ⟨t, e1, fun g' H' l R' => ?_⟩
    cases t with
    | true =>
      rw [if_pos rfl]
      exact Sp.run o ck.2.1 R' (T.wb_mono (fun fl b2 k2 => FlOk.mono l (fun _ _ => rfl) k2) k)
    | false =>
      rw [if_neg (by decide)]
      exact Sq.run o ck.2.2 R' (T.wb_mono (fun fl b2 k2 => FlOk.mono l (fun _ _ => rfl) k2) k)⟩
structure ForW (f : Fm) (g1 : Gh) (pr : List Nat) (σ0 : St) (turn : W → Sl → T Fl) (items : List W) (Post : Fl → Nat → Prop) (i m : Nat) (σ : St) (H : Hp) : Prop where
  ex : ∃ g' b' sl', m = items.length - i ∧ i ≤ items.length ∧ g1.le g' ∧ Rl f g' b' sl' σ H ∧ (∀ j ∈ pr, σ[j]? = σ0[j]?) ∧ (forGo turn (items.drop i) sl').wb XE b' Post
theorem ss_for {t : Tg} {it : It} {bd : Sms} (Sb : SSs tb N cl io cn f pr no bd) : SS tb N cl io cn f pr no (.for_ t it bd) := ⟨fun {XE X sc st} o ck {sl σ H g b D} R h => by
  unfold chkS at ck
  cases hc : asFor st with
  | none => rw [hc] at ck; cases ck
  | some y =>
    rw [hc] at ck
    obtain ⟨tg, i', b'⟩ := y
    obtain ⟨ps, rfl⟩ := asFor_ok hc
    simp only [Bool.and_eq_true] at ck
    obtain ⟨c1, c2, c3, c4⟩ := ck
    have off := offB_ok c1
    have c5 : setB i' = false := by
      unfold chkI at c3
      simp only [Bool.and_eq_true, Bool.not_eq_true'] at c3
      exact c3.1
    refine of_ps (ps_for o.hp o.bx.calm pi_w (pg_of o.toXok c2) pss_w (fold_ok c5)) ?_
    refine (si_all (sndI it f)).run o.toXok c3 R (T.wb_mono (fun p b1 k g1 J H1 l1 R1 wk => ?_) (T.wb_bind.mp (show (sFor t _ _ sl).wb XE b _ from h)))
    obtain ⟨items, sl1⟩ := p
    refine ⟨ForW f g1 pr σ (sTurn t (exSs cl io cn bd)) items (FlOk f g pr σ D), ⟨items.length, ⟨g1, b1, sl1, by rw [Nat.sub_zero], Nat.zero_le _, Gh.le.refl g1, R1, fun _ _ => rfl, k⟩⟩, ?_⟩
    rintro i m σ2 H2 ⟨g2, b2, sl2, rfl, hi, l2, R2, e2, k2⟩
    by_cases hlt : i < items.length
    · right
      have hw : items[i]? = some items[i] := List.getElem?_eq_getElem hlt
      rw [List.drop_eq_getElem_cons hlt] at k2
      have k2 := T.wb_bind.mp k2
      obtain ⟨go, yl⟩ := wk.go i _ hw f g2 b2 sl2 σ2 H2 rfl rfl l2 R2
      refine ⟨go, ForW f g1 pr σ (sTurn t (exSs cl io cn bd)) items (FlOk f g pr σ D) (i + 1) (items.length - (i + 1)), fun σ' H' q => ⟨items.length - (i + 1), by omega, q⟩, fun xv H3 y => ?_⟩
      obtain ⟨g3, l3, R3, rv⟩ := yl xv H3 y
      rw [o.bx.hK]
      refine setG_ok (fr := false) R3 rv (T.wb_bind.mp k2) fun sl4 σ4 k4 R4 so => ?_
      have e4 : ∀ j ∈ pr, σ4[j]? = σ[j]? := fun j hj => (so.2 j (off j hj)).trans (e2 j hj)
      refine Sb.run o c4 R4 (T.wb_mono (fun fl b5 k5 => ?_) k4)
      cases fl with
      | nx sl5 => exact fun g5 σ5 H5 l5 R5 e5 => ⟨g5, b5, sl5, rfl, hlt, (l2.trans l3).trans l5, R5, fun j hj => (e5 j hj).trans (e4 j hj), k5⟩
      | cont sl5 => exact fun g5 σ5 H5 l5 R5 e5 => ⟨g5, b5, sl5, rfl, hlt, (l2.trans l3).trans l5, R5, fun j hj => (e5 j hj).trans (e4 j hj), k5⟩
      | brk sl5 => exact fun g5 σ5 H5 l5 R5 e5 => (show FlOk f g pr σ D (.nx sl5) b5 from k5) g5 σ5 H5 (((l1.trans l2).trans l3).trans l5) R5 fun j hj => (e5 j hj).trans (e4 j hj)
      | ret r sl5 => exact fun g5 σ5 v H5 l5 R5 vl e5 => (show FlOk f g pr σ D (.ret r sl5) b5 from k5) g5 σ5 v H5 (((l1.trans l2).trans l3).trans l5) R5 vl fun j hj => (e5 j hj).trans (e4 j hj)
    · left
      have ei : i = items.length := by omega
      subst ei
      rw [List.drop_length] at k2
      exact ⟨wk.stop f g2 b2 sl2 σ2 H2 rfl rfl l2 R2, (show FlOk f g pr σ D (.nx sl2) b2 from k2) g2 σ2 H2 (l1.trans l2) R2 e2⟩⟩
structure WhW (f : Fm) (g0 : Gh) (pr : List Nat) (σ0 : St) (c : Se) (bd : Sf) (Post : Fl → Nat → Prop) (XE : XP) (m : Nat) (σ : St) (H : Hp) : Prop where
  ex : ∃ g' b' sl', g0.le g' ∧ Rl f g' b' sl' σ H ∧ (∀ j ∈ pr, σ[j]? = σ0[j]?) ∧ (whGo c bd m sl').wb XE b' Post
theorem ss_while {c : Ex} {bd : Sms} (Sb : SSs tb N cl io cn f pr no bd) : SS tb N cl io cn f pr no (.while_ c bd) := ⟨fun {XE X sc st} o ck {sl σ H g b D} R h => by
  unfold chkS at ck
  cases hc : asWhile st with
  | none => rw [hc] at ck; cases ck
  | some y =>
    rw [hc] at ck
    obtain ⟨c', b'⟩ := y
    obtain ⟨ps, rfl⟩ := asWhile_ok hc
    simp only [Bool.and_eq_true] at ck
    refine of_ps (ps_while o.hp pt_w pss_w) ?_
    refine ⟨WhW f g pr σ (evE cl io cn c) (exSs cl io cn bd) (FlOk f g pr σ D) XE, ⟨1000, ⟨g, b, sl, Gh.le.refl g, R, fun _ _ => rfl, h⟩⟩, ?_⟩
    rintro m σ2 H2 ⟨g2, b2, sl2, l2, R2, e2, k2⟩
    cases m with
    | zero => exact k2.elim
    | succ m =>
      refine (sndE c f).2.run o.toXok ck.1 R2 (T.wb_mono (fun r b3 k => ?_) (T.wb_bind.mp (show ((evE cl io cn c sl2).bind _).wb XE b2 _ from k2)))
      obtain ⟨t, e1, k⟩ := boolOf_wb (T.wb_bind.mp k)
      refine ⟨t, e1, fun g3 H3 l3 R3 => ?_⟩
      cases t with
      | false =>
        rw [if_neg (by decide)]
        exact (show FlOk f g pr σ D (.nx r.2) b3 from k) g3 σ2 H3 (l2.trans l3) R3 e2
      | true =>
        rw [if_pos rfl]
        refine ⟨fun σ' H' => WhW f g pr σ (evE cl io cn c) (exSs cl io cn bd) (FlOk f g pr σ D) XE m σ' H', fun σ' H' q => ⟨m, Nat.lt_succ_self m, q⟩, ?_⟩
        refine Sb.run o ck.2 R3 (T.wb_mono (fun fl b5 k5 => ?_) (T.wb_bind.mp (show ((exSs cl io cn bd r.2).bind _).wb XE b3 _ from k)))
        cases fl with
        | nx sl5 => exact fun g5 σ5 H5 l5 R5 e5 => ⟨g5, b5, sl5, (l2.trans l3).trans l5, R5, fun j hj => (e5 j hj).trans (e2 j hj), k5⟩
        | cont sl5 => exact fun g5 σ5 H5 l5 R5 e5 => ⟨g5, b5, sl5, (l2.trans l3).trans l5, R5, fun j hj => (e5 j hj).trans (e2 j hj), k5⟩
        | brk sl5 => exact fun g5 σ5 H5 l5 R5 e5 => (show FlOk f g pr σ D (.nx sl5) b5 from k5) g5 σ5 H5 ((l2.trans l3).trans l5) R5 fun j hj => (e5 j hj).trans (e2 j hj)
        | ret r5 sl5 => exact fun g5 σ5 v H5 l5 R5 vl e5 => (show FlOk f g pr σ D (.ret r5 sl5) b5 from k5) g5 σ5 v H5 ((l2.trans l3).trans l5) R5 vl fun j hj => (e5 j hj).trans (e2 j hj)⟩
theorem sss_nil : SSs tb N cl io cn f pr no .nil := ⟨fun {XE X sc st} o c {sl σ H g b D} R h => by
  have c : st.isEmpty = true := by
    unfold chkSs at c
    exact c
  rw [List.isEmpty_iff] at c
  subst c
  exact of_pss pss_nil (h g σ H (Gh.le.refl g) R fun _ _ => rfl)⟩
theorem sss_cons {s : Sm} {r : Sms} (S : SS tb N cl io cn f pr no s) (Sr : SSs tb N cl io cn f pr no r) : SSs tb N cl io cn f pr no (.cons s r) := ⟨fun {XE X sc st} o c {sl σ H g b D} R h => by
  unfold chkSs at c
  cases st with
  | nil => cases c
  | cons s' r' =>
    dsimp only at c
    rw [Bool.and_eq_true] at c
    refine of_pss (pss_cons ps_w pss_w) (S.run o c.1 R (T.wb_mono (fun fl b' k => ?_) (T.wb_bind.mp (show (sSeq _ _ sl).wb XE b _ from h))))
    cases fl with
    | nx sl2 => exact fun g2 σ2 H2 l2 R2 e2 => Sr.run o c.2 R2 (T.wb_mono (fun fl b3 k3 => FlOk.mono l2 e2 k3) k)
    | brk sl2 => exact fun g2 σ2 H2 l2 R2 e2 => (show FlOk f g pr σ D (.brk sl2) b' from k) g2 σ2 H2 l2 R2 e2
    | cont sl2 => exact fun g2 σ2 H2 l2 R2 e2 => (show FlOk f g pr σ D (.cont sl2) b' from k) g2 σ2 H2 l2 R2 e2
    | ret r2 sl2 => exact fun g2 σ2 v H2 l2 R2 vl e2 => (show FlOk f g pr σ D (.ret r2 sl2) b' from k) g2 σ2 v H2 l2 R2 vl e2⟩
end
end Ev
end
end
section
set_option Elab.async false
set_option linter.all false
set_option maxRecDepth 100000
set_option maxHeartbeats 2000000
/-! EvTry: try: a call, except ..: .. -/
noncomputable section
namespace Ev
open PySem PySem.Spec L2
set_option autoImplicit false
/-! ### at the machine's level -/
section
variable {X : Cx} {pins : List (Addr × Obj)} {σ : St} {H H' : Hp} {s sI s3 : Shared} {a : Addr} {B : Heap} {cls : Value} {d : Option Addr}
/-- an exception has been caught here: sI the state without it -/
structure Land (X : Cx) (pins : List (Addr × Obj)) (σ : St) (a : Addr) (B : Heap) (sI : Shared) (H' : Hp) (cls : Value) (d : Option Addr) (s3 : Shared) : Prop where
  J : Inv X pins σ H' sI
  nb : ∀ b o, sI.heap.get? b = some o → b ∉ frs X.stack → B.get? b = some o
  up : sI.heap.UpToSlots s3.heap
  fl : HandSPX.FlyingZ B (X.env :: X.outer) a (Zc cls d) s3.heap
  na : H' a = none
  os : s3.os = sI.os
  ag : PyProof.Rows.AllBare s3.gens
theorem Land.at_ (L : Land X pins σ a B sI H' cls d s3) (hs : X.stack = X.env :: X.outer) : ∃ oe vs, s3.heap.get? a = some oe ∧ Zc cls d oe ∧ oe.data = .fields vs ∧ sI.heap.get? a = none ∧ a ∉ frs X.stack := by
  obtain ⟨oe, vs, he, hz, hd⟩ := L.fl.there
  have nfr : a ∉ frs X.stack := fun hm => by
    rw [hs] at hm
    obtain ⟨_, o', e', hnf⟩ := L.fl.2.2.1.mem hm
    rw [he] at e'
    cases e'
    exact hnf _ hd
  refine ⟨oe, vs, he, hz, hd, ?_, nfr⟩
  cases e : sI.heap.get? a with
  | none => rfl
  | some o =>
    have := L.nb a o e nfr
    rw [L.fl.2.1] at this
    cases this
/-- the state without a word on it -/
theorem Land.plain (L : Land X pins σ a B sI H' cls d s3) : Inv X pins σ H' s3 := L.J.landed L.nb L.fl.1 L.up L.os L.ag
/-- .. it is told of -/
theorem Land.track (L : Land X pins σ a B sI H' cls d s3) (hs : X.stack = X.env :: X.outer) : Inv X pins σ (upd H' a (errO a cls d)) s3 := by
  obtain ⟨oe, vs, he, hz, hd, new, nfr⟩ := L.at_ hs
  have ne : ∀ b o, sI.heap.get? b = some o → b ≠ a := fun b o e z => by
    rw [z, new] at e
    cases e
  have nH : ∀ b u, H' b = some u → b ≠ a := fun b u e => ne_of_none e L.na
  have fs : ∀ b ∈ frs X.stack, ∀ o, sI.heap.get? b = some o → ∃ sl, s3.heap.get? b = some { o with slots := sl } := fun b hb o e => by
    obtain ⟨_, o', e', q⟩ := L.J.stack.mem hb
    rw [e] at e'
    cases e'
    exact L.up b o e q
  have hok : HOk X.prog X.w (upd H' a (errO a cls d)) s3.heap := fun b u e => by
    by_cases hb : b = a
    · subst hb
      rw [upd_same] at e
      cases e
      exact ⟨⟨oe, vs, he, hz, hd⟩, ⟨oe, he⟩, fun h1 h2 ⟨o1, v1, q1, q2, q3⟩ st => ⟨o1, v1, st _ q1, q2, q3⟩⟩
    · rw [upd_ne hb] at e
      exact (((L.J.inGround L.nb).kept L.fl.1) b u e).stay (fun _ _ _ q => q) (fun c q => by rw [upd_ne (nH c _ q)]; exact q) fun c xs q => by rw [upd_ne (nH c _ q)]; exact q
  have un : Un (frs X.stack) [] H' (upd H' a (errO a cls d)) sI.heap s3.heap := {
    keep := fun b o e _ hb _ => L.fl.1 b o (L.nb b o e hb)
    slot := fun b o e _ hb _ => fs b hb o e
    free := fun b o e n _ => by rw [upd_ne (ne b o e)]; exact n
    there := fun b o e _ => by
      by_cases hb : b ∈ frs X.stack
      · obtain ⟨sl, q⟩ := fs b hb o e
        exact ⟨_, q⟩
      · exact ⟨o, L.fl.1 b o (L.nb b o e hb)⟩
    tups := fun b xs e => by rw [upd_ne (nH b _ e)]; exact e
    frzs := fun b o u e => by rw [upd_ne (nH b _ e)]; exact e
    tbls := fun b ps e => ⟨#[], by rw [upd_ne (nH b _ e), e]; simp⟩ }
  have K := L.J.call (ch := []) (h' := s3.heap) (g' := s3.gens) (t' := s3.toks) (d' := s3.drawn) un hok L.ag (fun _ z => (List.not_mem_nil z).elim)
  obtain ⟨x1, x2, x3, x4, x5⟩ := s3
  have e5 : x5 = sI.os := L.os
  subst e5
  exact K
/-- into an except suite -/
theorem inv_toSuite (I : Inv X pins σ H s) (a : Addr) : Inv (X.suite a (X.pn ++ pins)) [] σ H s :=
  ⟨I.ok.suite _ _, I.os, I.bare, I.base, I.loc, I.cell, I.free, I.freeC, fun p hp => I.pin p (by
    have hp : p ∈ (X.pn ++ pins) ++ [] := hp
    rw [List.append_nil] at hp
    exact hp), I.hok, I.len⟩
theorem inv_ofSuite {a : Addr} {pn' : List (Addr × Obj)} (I : Inv (X.suite a (X.pn ++ pins)) pn' σ H s) (ok : X.Ok) : Inv X pins σ H s :=
  ⟨ok, I.os, I.bare, I.base, I.loc, I.cell, I.free, I.freeC, fun p hp => I.pin p (List.mem_append_left _ hp), I.hok, I.len⟩
/-- a try whose body raises out of a known state alone -/
theorem try_run {body : List Stmt} {h₀ : ExceptHandler} {hds : List ExceptHandler} {pos : Pos} {D : Ends} (ok : X.Ok) (hs : X.stack = X.env :: X.outer) (hf : X.env.frame = some X.env.locals)
    (hb : wpAny (model X.prog X.w) X.A (execs body X.env) (SP X pins D) (fun e s' => ∃ (σ1 : St) (H1 : Hp) (s1 : Shared) (E : XK), Inv X pins σ1 H1 s1 ∧ L2.CX X.prog X.w X.stack H1 s1 E e s' ∧
      ∀ (a : Addr) (B : Heap) (sI s3 : Shared) (H' : Hp) (cls : Value) (d : Option Addr), Land X pins σ1 a B sI H' cls d s3 → E cls d H' → wpAny (model X.prog X.w) X.A (handleBy (.ref a) X.env (h₀ :: hds)) (SP X pins D) X.xe s3) s) :
    wpAny (model X.prog X.w) X.A (exec (.Try body (h₀ :: hds) [] [] pos) X.env) (SP X pins D) X.xe s := by
  refine wpAny_Try_except (wpAny_mono hb (fun fl s1 hsp => ?_) fun e s' ⟨σ1, H1, s1, E, I1, cx, hE⟩ => ?_)
  · cases fl with
    | next => exact wpAny_execs_nil hsp
    | brk => exact hsp
    | cont => exact hsp
    | ret u => exact hsp
  · have hfr : X.A.frames = some (X.env :: X.outer) := by rw [ok.frames, hs]
    have xe := XE.of_call (X := X.tr (X.pn ++ pins) X.xe) (W := fun cls d σ' H' => σ' = σ1 ∧ E cls d H') (E := E) (I1.toTry X.xe) (fun cls d H' h => ⟨rfl, h⟩) cx
    obtain ⟨a, B, sI, pins', σ', H', cls, d, rfl, J', nb, up, sky, na, os, ag, rfl, w⟩ := xe
    have sky' : Sky B (X.env :: X.outer) a (Zc cls d) X.env.locals s'.heap := by rw [← hs]; exact sky
    refine Sky.land Zc.steady hfr hf sky' fun h3 fl3 up3 => ?_
    exact hE a B sI _ H' cls d ⟨J'.ofTry ok, nb, up.trans up3, fl3, na, os, ag⟩ w
/-- is it of the class x? -/
theorem Land.test (L : Land X pins σ a B sI H' cls d s3) (hs : X.stack = X.env :: X.outer) {x : Str} {c : Value} {np : Pos} {b : Bool} (hc : Names X x c) (hb : PySem.W.exmOne X.K cls c = some b) {Q : Bool → Shared → Prop} {E : Value → Shared → Prop} (hq : Q b s3) :
    wpAny (model X.prog X.w) (X.A.mark (some (.ref a))) (eval (.Name x np) X.env) (fun c s₁ => wpAny (model X.prog X.w) (X.A.mark (some (.ref a))) (excMatches (.ref a) c) Q E s₁) E s3 := by
  obtain ⟨oe, vs, he, hz, hd, new, nfr⟩ := L.at_ hs
  have S := inv_toSuite (L.track hs) a
  have LT : PySem.W.Looks (model X.prog X.w) s3.heap (typeOf (.ref a)) cls := fun A Q E s k q => wpAny_typeOf_ref (k _ _ he) (by rw [hz.1]; exact q)
  have LM := PySem.W.exm_one (M := model X.prog X.w) L.plain.kIn LT hb
  have go : ∀ {Q' : Value → Shared → Prop} {E' : Value → Shared → Prop}, Q' c s3 → wpAny (model X.prog X.w) (X.A.mark (some (.ref a))) (eval (.Name x np) X.env) Q' E' s3 := fun {Q' E'} q => by
    obtain ⟨hg, hdbg, hm | ⟨hm, hv, hnn⟩⟩ := hc
    · exact ld_glob (X := X.suite a (X.pn ++ pins)) S hg hm q hdbg
    · exact ld_blt (X := X.suite a (X.pn ++ pins)) S hg hm hv q hnn hdbg
  exact go (LM.here hq)
/-- no clause takes it: it flies on -/
theorem Land.on (L : Land X pins σ a B sI H' cls d s3) (hs : X.stack = X.env :: X.outer) (hf : X.env.frame = some X.env.locals) {W : WX} (tk : Takes X W) (hW : W cls d σ H') {D : Ends} : wpAny (model X.prog X.w) X.A (handleBy (.ref a) X.env []) (SP X pins D) X.xe s3 := by
  refine wpAny_handleBy_nil ?_
  obtain ⟨k1, k2, k3, oe, vs, T, oT, ts', he, hz, hd, h1, hr⟩ := id L.fl
  unfold PySem.passOn
  refine wpAny_bind (wpAny_field he hd h1 ?_)
  rw [if_neg (show ¬ ((Value.ref T == Value.none) = true) from by simp)]
  have fin : wpAny (model X.prog X.w) X.A (setFlight (.ref a) X.env.frame) (fun _ s4 => wpAny (model X.prog X.w) X.A (throw (.ref a) : Sem Flow) (SP X pins D) X.xe s4) X.xe s3 := by
    rw [hf]
    refine HandSPX.setFlight_upZ L.fl fun h4 hh4 up4 => wpAny_throw (tk _ _ ?_)
    exact ⟨a, B, sI, pins, σ, H', cls, d, rfl, L.J, L.nb, L.up.trans up4, .inr (.inr (by rw [hs]; exact hh4)), L.na, L.os, L.ag, hW⟩
  first
    | exact wpAny_bind (wpAny_pure (wpAny_bind fin))
    | exact wpAny_bind fin
end
/-! ### the evaluator's part -/
section
variable {XE : XP} {tb : Tb} {N : List Str} {cl : Cl} {io : Nat → List Bool} {cn : Nat → W} {f : Fm} {pr : List Nat} {no : Bool} {X : Cx} {sc : Scope} {g : Gh} {b : Nat} {sl : Sl} {σ : St} {H : Hp}
/-- what the small expressions of a suite want of their place -/
structure Lx (X : Cx) (N : List Str) (sc : Scope) (f : Fm) : Prop where
  hN : X.N = N
  nd : N.Nodup
  vis : ∀ x, visB sc x = true → Vis X.env.scope x
  loc : ∀ x, locB sc x = true → Loc X.env.scope x ∧ (X.fn x = true ∨ X.env.scope.names.lookup x = some .local)
  xf : ∀ c C, f.G.fn (clN + c) = some C → XfC X.K C ∧ ∀ x xs y, errs[c]? = some (x, xs) → y ∈ xs → PySem.W.findIn X.K (.ref C) y = some none
mutual
theorem hx_ok (L : Lx X N sc f) : ∀ {x : Hx} {e : Expr} {H : Hp} {g : Gh} {P : W → Nat → Prop} {Q : VK}, chkHx N sc x e = true → Rl f g b sl σ H → (hxV sl x).wb XE b P →
    (∀ w, P w b → ∀ g' v H', g.le g' → Rl f g' b sl σ H' → RV f.K f.G g' w v → Q v H') → tW X e σ H Q
  | .con w, e, H, g, P, Q, c, R, h, k => by
    unfold chkHx at c
    cases hn : asCon e with
    | none => rw [hn] at c; cases c
    | some kk =>
      rw [hn] at c
      obtain ⟨p, q, rfl⟩ := asCon_ok hn
      have c : conB w kk = true := c
      have k := k w h
      unfold conB at c
      cases w with
      | non =>
        cases kk <;> first
          | (cases c; done)
          | exact of_pe pe_non (k g _ H (Gh.le.refl g) R .non)
      | bl t =>
        cases kk <;> first
          | (cases c; done)
          | (have e1 := eq_of_beq (show (t == _) = true from c)
             subst e1
             exact of_pe pe_bl (k g _ H (Gh.le.refl g) R (.bl _)))
      | int i =>
        cases kk <;> first
          | (cases c; done)
          | (have e1 : eqI i _ = true := c
             rw [eqI_dec] at e1
             have e1 := of_decide_eq_true e1
             subst e1
             exact of_pe pe_int (k g _ H (Gh.le.refl g) R (.int _)))
      | str z =>
        cases kk <;> first
          | (cases c; done)
          | (have e1 := eqS_iff.mp (show eqS z _ = true from c)
             subst e1
             exact of_pe pe_str (k g _ H (Gh.le.refl g) R (.str _)))
      | _ => cases c
  | .var i, e, H, g, P, Q, c, R, h, k => by
    unfold chkHx at c
    cases hn : asName e with
    | none => rw [hn] at c; cases c
    | some y =>
      rw [hn] at c
      obtain ⟨p, rfl⟩ := asName_ok hn
      simp only [Bool.and_eq_true, okN, Bool.not_eq_true'] at c
      obtain ⟨c1, c2, c3, c4, _⟩ := c
      obtain ⟨⟨w, fr⟩, e1, h⟩ := rd_wb (T.wb_bind.mp (show ((rd sl i).bind _).wb XE b P from h))
      obtain ⟨hfr, h⟩ := T.wb_guard h
      cases fr with
      | true => cases hfr
      | false =>
        obtain ⟨v, s1, rv⟩ := R.frz i w e1
        exact w_var (by rw [L.hN]; exact atB_ok c1) (L.vis y c2) c3 c4 s1 (k w h g v H (Gh.le.refl g) R rv)
  | .fld i y, e, H, g, P, Q, c, R, h, k => by
    unfold chkHx at c
    cases hn : asAttr e with
    | none => rw [hn] at c; cases c
    | some z =>
      rw [hn] at c
      obtain ⟨x, n⟩ := z
      obtain ⟨p, q, rfl⟩ := asAttr_ok hn
      simp only [Bool.and_eq_true, okN, Bool.not_eq_true'] at c
      obtain ⟨c1, c2, c3, c4, c5, _⟩ := c
      have c1 := eqS_iff.mp c1
      subst c1
      obtain ⟨cc, a, C, dd, nm, v, z, xs, w, h, s1, q1, q2, q3, q4, q5, q6, rv⟩ := fld_ok R (show (fldS i n sl).wb XE b P from h)
      obtain ⟨T1, T2⟩ := L.xf cc C q1
      exact w_fld (by rw [L.hN]; exact atB_ok c2) (L.vis x c3) c4 c5 s1 q2 q3 q4 T1 (T2 z xs n q5 q6) (k w h g v H (Gh.le.refl g) R rv) rfl
  | .tup xs, e, H, g, P, Q, c, R, h, k => by
    unfold chkHx at c
    cases hn : asTup e with
    | none => rw [hn] at c; cases c
    | some es =>
      rw [hn] at c
      obtain ⟨p, q, rfl⟩ := asTup_ok hn
      refine w_tup (hxs_ok L c R (T.wb_bind.mp (show ((hxV.hxVs sl xs).bind _).wb XE b P from h)) fun ws h g' vs H' l R' rvs => ?_)
      obtain ⟨hl, h⟩ := T.wb_guard h
      refine ⟨by rw [← rvs.len]; exact Nat.le_of_ble_eq_true hl, fun p hp => ?_⟩
      obtain ⟨g2, l2, R2, rv⟩ := R'.newT hp rvs
      exact k _ h g2 _ _ (l.trans l2) R2 rv
theorem hxs_ok (L : Lx X N sc f) : ∀ {xs : List Hx} {es : List Expr} {H : Hp} {g : Gh} {P : List W → Nat → Prop} {Q : List V → Hp → Prop}, chkHxs N sc xs es = true → Rl f g b sl σ H → (hxV.hxVs sl xs).wb XE b P →
    (∀ ws, P ws b → ∀ g' vs H', g.le g' → Rl f g' b sl σ H' → RVs f.K f.G g' ws vs → Q vs H') → tWA X es σ H Q
  | [], es, H, g, P, Q, c, R, h, k => by
    unfold chkHxs at c
    rw [List.isEmpty_iff] at c
    subst c
    exact w_nil (k [] h g [] H (Gh.le.refl g) R .nil)
  | x :: xs, es, H, g, P, Q, c, R, h, k => by
    unfold chkHxs at c
    cases es with
    | nil => cases c
    | cons e es =>
      dsimp only at c
      simp only [Bool.and_eq_true, Bool.not_eq_true'] at c
      refine w_cons c.1 (hx_ok L c.2.1 R (T.wb_bind.mp (show ((hxV sl x).bind _).wb XE b P from h)) fun w h g' v H' l R' rv => ?_)
      exact hxs_ok L c.2.2 R' (T.wb_bind.mp h) fun ws h g2 vs H2 l2 R2 rvs => k _ h g2 _ H2 (l.trans l2) R2 (.cons (rv.le l2) rvs)
end
theorem hx_comp {x : Hx} {e : Expr} (c : chkHx N sc x e = true) : compB e = false := by
  cases x <;> (unfold chkHx at c)
  · cases hn : asCon e with
    | none => rw [hn] at c; cases c
    | some z => obtain ⟨_, _, rfl⟩ := asCon_ok hn; rfl
  · cases hn : asName e with
    | none => rw [hn] at c; cases c
    | some z => obtain ⟨_, rfl⟩ := asName_ok hn; rfl
  · cases hn : asAttr e with
    | none => rw [hn] at c; cases c
    | some z => obtain ⟨_, _, rfl⟩ := asAttr_ok hn; rfl
  · cases hn : asTup e with
    | none => rw [hn] at c; cases c
    | some z => obtain ⟨_, _, rfl⟩ := asTup_ok hn; rfl
/-- a suite -/
theorem hs_ok (L : Lx X N sc f) {D : Ends} : ∀ {ss : List Hs} {sts : List Stmt} {H : Hp} {g : Gh} {sl : Sl} {σ : St} {P : Fl → Nat → Prop}, chkHs N sc pr ss sts = true → Rl f g b sl σ H → (hsGo ss sl).wb XE b P →
    (∀ fl, P fl b → FlOk f g pr σ D fl b) → tWSs X sts D σ H
  | [], [], H, g, sl, σ, P, c, R, h, k => of_pss pss_nil (k _ h g σ H (Gh.le.refl g) R fun _ _ => rfl)
  | [], _ :: _, _, _, _, _, _, c, _, _, _ => by cases c
  | _ :: _, [], _, _, _, _, _, c, _, _, _ => by cases c
  | s :: r, st :: sts, H, g, sl, σ, P, c, R, h, k => by
    have c : (chkH1 N sc pr s st && chkHs N sc pr r sts) = true := c
    rw [Bool.and_eq_true] at c
    obtain ⟨c1, c2⟩ := c
    unfold chkH1 at c1
    cases s with
    | asg i x =>
      dsimp only at c1
      cases hc : asAsg st with
      | none => rw [hc] at c1; cases c1
      | some y =>
        rw [hc] at c1
        obtain ⟨t, e⟩ := y
        obtain ⟨p, rfl⟩ := asAsg_ok hc
        dsimp only at c1
        cases hn : asName t with
        | none => rw [hn] at c1; cases c1
        | some n =>
          rw [hn] at c1
          obtain ⟨pn, rfl⟩ := asName_ok hn
          simp only [Bool.and_eq_true, Bool.not_eq_true'] at c1
          obtain ⟨d1, d2, d3, d4⟩ := c1
          obtain ⟨lo, lf⟩ := L.loc n d2
          refine of_pss (pss_cons (ps_set (i := i) (te := tW X _) (by rw [L.hN]; exact L.nd) (by rw [L.hN]; exact atB_ok d1) lo pe_w (swap_no (hx_comp d4)) lf) pss_w) ?_
          refine hx_ok L d4 R (T.wb_bind.mp (show ((hxV sl x).bind _).wb XE b P from h)) fun w h g' v H' l R' rv => ?_
          have h : (hsGo r (sett sl i (some (w, false)))).wb XE b P := h
          rw [sett_eq] at h
          exact hs_ok L c2 (R'.setF (i := i) rv) h fun fl z => FlOk.mono l (fun j hj => by
            have hji : i ≠ j := fun q => by
              subst q
              have := List.elem_eq_true_of_mem hj
              rw [d3] at this
              cases this
            rw [List.getElem?_set_ne hji]) (k fl z)
    | ret x =>
      dsimp only at c1
      split at c1
      · rename_i e hc
        obtain ⟨p, rfl⟩ := asRet_ok hc
        refine of_pss (pss_cons (ps_ret pe_w) pss_w) (hx_ok L c1 R (T.wb_bind.mp (show ((hxV sl x).bind _).wb XE b P from h)) fun w h g' v H' l R' rv => ?_)
        exact k _ h g' σ v H' l R' rv fun _ _ => rfl
      · cases c1
    | app i x =>
      dsimp only at c1
      cases hc : asExpr st with
      | none => rw [hc] at c1; cases c1
      | some e' =>
        rw [hc] at c1
        obtain ⟨p, rfl⟩ := asExpr_ok hc
        dsimp only at c1
        cases hc2 : asApp e' with
        | none => rw [hc2] at c1; cases c1
        | some y =>
          rw [hc2] at c1
          obtain ⟨n, e1⟩ := y
          obtain ⟨p1, ap, cp, rfl, hline⟩ := asApp_ok hc2
          simp only [Bool.and_eq_true, okN, Bool.not_eq_true'] at c1
          obtain ⟨d1, d2, ⟨d3, d4, _⟩, d5, d6⟩ := c1
          obtain ⟨w0, e0, h⟩ := own_wb (T.wb_bind.mp (show ((own sl i).bind _).wb XE b P from h))
          obtain ⟨hl, h⟩ := T.wb_guard h
          obtain ⟨a, s1, ho, _⟩ := R.own i w0 e0
          have hN : X.N[i]? = some n := by rw [L.hN]; exact atB_ok d1
          refine of_pss (pss_cons (ps_expr (pe_bm PySem.F.plainAttrs_list PySem.F.slot_list_append PySem.F.type_list_append mt_append pe_w pa_w rfl (by rw [star_one d5]; rfl) hline (star_cons d5) rfl) (swap_no rfl)) pss_w) ?_
          refine w_var hN (L.vis n d2) d3 d4 s1 ⟨?_, ?_⟩
          · cases w0 <;> first
              | (cases hl; done)
              | skip
            obtain ⟨vs, q1, _⟩ := ho
            exact .inl ⟨rfl, vs, .inl (.inl q1)⟩
          · refine w_cons d5 (hx_ok L d6 R (T.wb_bind.mp h) fun w h g' v H' l R' rv => w_nil ?_)
            obtain ⟨a', s2, ho2, hF, hD, h0⟩ := R'.own i w0 e0
            rw [s1] at s2
            cases s2
            cases w0 <;> first
              | exact ho2.elim
              | (cases hl; done)
              | skip
            obtain ⟨vs, q1, q2⟩ := ho2
            obtain ⟨k1, h⟩ := T.wb_guard (T.wb_bind.mp h)
            have k1 : _ < sizeLine := Nat.le_of_ble_eq_true k1
            refine ⟨a, vs, v, rfl, rfl, q1, by rw [← q2.len]; exact k1, ?_⟩
            have h : (hsGo r (sett sl i (some (.lst (_ ++ [w]), true)))).wb XE b P := h
            rw [sett_eq] at h
            have nos : NoSlot (sl.set i none) σ a := fun j u q z => by
              rcases sl_set q with ⟨_, q'⟩ | ⟨e3, q'⟩
              · cases q'
              · exact e3 (R'.inj i j _ u a e0 q' s1 z)
            have R2 := (R'.setN (i := i)).chg (o := .lst (vs ++ [v])) hF hD h0 nos (by rw [q1]; exact soft_lst)
            have R3 := R2.setO (i := i) (w := .lst (_ ++ [w])) (a := a) ⟨vs ++ [v], upd_same, q2.append (.cons rv .nil)⟩ hF hD h0 fun j u _ q => nos j u q
            rw [set_same s1, List.set_set] at R3
            exact hs_ok L c2 R3 h fun fl z => FlOk.mono l (fun _ _ => rfl) (k fl z)
    | pass =>
      dsimp only at c1
      have : ∃ p, st = .Pass p := by
        cases st <;> first
          | exact ⟨_, rfl⟩
          | (cases c1; done)
      obtain ⟨p, rfl⟩ := this
      exact of_pss (pss_cons ps_pass pss_w) (hs_ok L c2 R h k)
theorem xr_vs {K : PySem.W.Frag} {G : Gx} {g : Gh} {nm : List (Str × V)} : ∀ {fs : List W} {xs : List Str}, xs.length = fs.length → (∀ (i : Nat) w y, fs[i]? = some w → xs[i]? = some y → ∃ v, nm.lookup y = some v ∧ RV K G g w v) →
    ∃ vs, RVs K G g fs vs ∧ ∀ (i : Nat) y v, xs[i]? = some y → vs[i]? = some v → nm.lookup y = some v
  | [], xs, h, k => ⟨[], .nil, fun i y v _ e => by simp at e⟩
  | w :: fs, [], h, k => by simp at h
  | w :: fs, x :: xs, h, k => by
    obtain ⟨v, h1, h2⟩ := k 0 w x rfl rfl
    obtain ⟨vs, h3, h4⟩ := xr_vs (fs := fs) (xs := xs) (by simpa using h) fun i w y e1 e2 => k (i + 1) w y (by simpa using e1) (by simpa using e2)
    refine ⟨v :: vs, .cons h2 h3, fun i y u e1 e2 => ?_⟩
    cases i with
    | zero =>
      cases e1
      cases e2
      exact h1
    | succ i => exact h4 i y u (by simpa using e1) (by simpa using e2)
theorem XR.rv {K : PySem.W.Frag} {G : Gx} {g : Gh} {c : Nat} {fs : List W} {cls : Value} {d : Option Addr} {a : Addr} (x : XR K G g c fs cls d) (h : g.F a = some (errO a cls d)) : RV K G g (.err c fs) (.ref a) := by
  obtain ⟨C, dd, nm, y, ys, h1, h2, h3, h4, h5, h6, h7⟩ := x
  subst h2 h3
  obtain ⟨vs, q1, q2⟩ := xr_vs h6 h7
  exact .err h1 h (.inr ⟨dd, rfl, h4⟩) h5 h6 q2 q1
theorem XR.le {K : PySem.W.Frag} {G : Gx} {g g' : Gh} {c : Nat} {fs : List W} {cls : Value} {d : Option Addr} (l : g.le g') (x : XR K G g c fs cls d) : XR K G g' c fs cls d := by
  obtain ⟨C, dd, nm, y, ys, h1, h2, h3, h4, h5, h6, h7⟩ := x
  exact ⟨C, dd, nm, y, ys, h1, h2, h3, l.1 _ _ h4, h5, h6, fun i w y q1 q2 => let ⟨v, z1, z2⟩ := h7 i w y q1 q2; ⟨v, z1, z2.le l⟩⟩
theorem Fok.lx (o : Fok XE tb N cl io cn f X sc no) (a : Addr) (pn : List (Addr × Obj)) : Lx (X.suite a pn) N sc f := ⟨o.hN, o.nd, o.vis, o.loc, o.xf⟩
theorem sig_none {f : Fm} {g : Gh} {b : Nat} {sl : Sl} {σ : St} {H : Hp} (R : Rl f g b sl σ H) (i : Nat) : Rl f g b (sl.set i none) (σ.set i none) H :=
  (R.setN (i := i)).sig (List.length_set ..) fun j r e => by
    rcases sl_set e with ⟨_, q⟩ | ⟨e2, _⟩
    · cases q
    · rw [List.getElem?_set_ne e2]
variable {pins : List (Addr × Obj)} {sI s3 : Shared} {a : Addr} {B : Heap} {cls : Value} {d : Option Addr} {D : Ends} {c : Nat} {fs : List W}
/-- the clauses -/
theorem hd_ok (o : Fok XE tb N cl io cn f X sc no) (L : Land X pins σ a B sI H cls d s3) (R : Rl f g b sl σ H) (xr : XR f.K f.G g c fs cls d) : ∀ {hs : List Hd0} {hds : List ExceptHandler}, chkHd tb N sc pr hs hds = true → (hdGo c fs hs sl).wb XE b (FlOk f g pr σ D) →
    wpAny (model X.prog X.w) X.A (handleBy (.ref a) X.env hds) (SP X pins D) X.xe s3
  | [], [], ck, h => L.on o.stk o.frm o.tk ⟨c, fs, g, b, h, xr, R.bare⟩
  | [], _ :: _, ck, _ => by cases ck
  | _ :: _, [], ck, _ => by cases ck
  | hd :: hs, e :: hds, ck, h => by
    obtain ⟨sel, nm, body⟩ := hd
    unfold chkHd at ck
    cases he : asHd e with
    | none => rw [he] at ck; simp at ck
    | some y =>
      rw [he] at ck
      obtain ⟨x, n, b0, st⟩ := y
      obtain ⟨np, p, rfl⟩ := asHd_ok he
      simp only [Bool.and_eq_true, okN, Bool.not_eq_true'] at ck
      obtain ⟨⟨c1, ⟨c2, _⟩, c3, c4, c5⟩, c6⟩ := ck
      obtain ⟨E, q1, q2⟩ := o.hdl sel x c3
      obtain ⟨C, dd, fl, ex, exs, k1, k2, k3, k4, k5, k6, k7⟩ := id xr
      have nms : Names X x (.ref E) := ⟨o.glo x c1, c2, .inl q1⟩
      have tst : PySem.W.exmOne X.K cls (.ref E) = some (selB sel c) := by rw [k2]; exact q2 c C k1
      unfold hdGo at h
      dsimp only at h
      refine wpAny_handleBy_cons (codeAny_handlers_test (L.test o.stk nms tst ?_)) (by intro q; cases q)
      cases hsel : selB sel c with
      | false =>
        rw [hsel] at h
        show wpAny _ X.A (handleBy (.ref a) X.env hds) _ _ _
        exact hd_ok o L R xr c6 h
      | true =>
        rw [hsel] at h
        have h := T.wb_bind.mp (show ((hsGo body _).bind fun fl => T.ok (unFl nm fl)).wb XE b _ from h)
        -- told of
        have R2 : Rl f g b sl σ (upd H a (errO a cls d)) := R.mono (same_upd L.na)
        have R3 := R2.add (a := a) (R.freeF L.na) upd_same (R.freeD L.na) (.inl (R.free0 L.na)) (R.freeS L.na) (fun _ z => nomatch z)
        have l3 : g.le (g.add a (errO a cls d)) := Gh.le_add (R.freeF L.na)
        have rv : RV f.K f.G (g.add a (errO a cls d)) (.err c fs) (.ref a) := (xr.le l3).rv upd_same
        cases nm with
        | none =>
          cases n with
          | some n => cases c4
          | none =>
            show codeAny _ _ (.handlers _ [.ExceptHandler none none (b0 :: st) p] _) _ _
            refine codeAny_handlers_suite (HandSPX.lands_againZ L.fl fun h4 fl4 up4 => ?_)
            have L4 : Land X pins σ a B sI H cls d { s3 with heap := h4 } := ⟨L.J, L.nb, L.up.trans up4, fl4, L.na, L.os, L.ag⟩
            have S4 := inv_toSuite (L4.track o.stk) a
            have run := hs_ok (o.lx a (X.pn ++ pins)) (D := D) c5 R3 h fun fl z => FlOk.mono l3 (fun _ _ => rfl) (show FlOk f g pr σ D fl b by cases fl <;> exact z)
            refine wpAny_mono (run [] _ S4) (fun fl s6 hsp => ?_) (fun _ _ z => z.elim)
            cases fl with
            | next =>
              obtain ⟨σ6, H6, S6, q6⟩ := hsp
              exact ⟨_, _, inv_ofSuite S6 L.J.ok, q6⟩
            | brk =>
              obtain ⟨σ6, H6, S6, q6⟩ := hsp
              exact ⟨_, _, inv_ofSuite S6 L.J.ok, q6⟩
            | cont =>
              obtain ⟨σ6, H6, S6, q6⟩ := hsp
              exact ⟨_, _, inv_ofSuite S6 L.J.ok, q6⟩
            | ret u =>
              obtain ⟨v6, σ6, H6, S6, r6, q6⟩ := hsp
              exact ⟨_, _, _, inv_ofSuite S6 L.J.ok, r6, q6⟩
        | some i =>
          cases n with
          | none => cases c4
          | some n =>
            simp only [Bool.and_eq_true, Bool.not_eq_true', plB, Bool.and_true] at c4
            obtain ⟨d1, d2, d3⟩ := c4
            have hN : X.N[i]? = some n := by rw [o.hN]; exact atB_ok d1
            have hl0 : sc.names.lookup n = some .local := by
              split at d3
              · assumption
              · cases d3
            have hl : X.env.scope.names.lookup n = some .local := o.ll n hl0
            have nd : X.N.Nodup := by rw [o.hN]; exact o.nd
            have npr : ∀ j ∈ pr, i ≠ j := fun j hj q => by
              subst q
              have := List.elem_eq_true_of_mem hj
              rw [d2] at this
              cases this
            show codeAny _ _ (.handlers _ [.ExceptHandler none (some n) (b0 :: st) p] _) _ _
            refine codeAny_handlers_suite_as (HandSPX.lands_againZ L.fl fun h4 fl4 up4 => ?_)
            have L4 : Land X pins σ a B sI H cls d { s3 with heap := h4 } := ⟨L.J, L.nb, L.up.trans up4, fl4, L.na, L.os, L.ag⟩
            refine store_ok (v := .ref a) (L4.track o.stk) nd hN (.inl hl) rfl (fun s5 I5 => ?_) (.inr hl)
            have S5 := inv_toSuite I5 a
            have R5 := R3.setF (i := i) rv
            rw [← sett_eq] at R5
            have run := hs_ok (o.lx a (X.pn ++ pins)) (D := { nx := fun σ' H' => D.nx (σ'.set i none) H', rt := D.rt, bk := fun σ' H' => D.bk (σ'.set i none) H', ct := fun σ' H' => D.ct (σ'.set i none) H' }) c5 R5 h fun fl z => by
              have same : ∀ {σ' : St}, (∀ j ∈ pr, σ'[j]? = (σ.set i (some (.ref a)))[j]?) → ∀ j ∈ pr, (σ'.set i none)[j]? = σ[j]? := fun {σ'} e j hj => by
                rw [List.getElem?_set_ne (npr j hj), e j hj, List.getElem?_set_ne (npr j hj)]
              have setE : ∀ {sl' : Sl}, unNm (some i) sl' = sl'.set i none := fun {sl'} => sett_eq _ _ _
              cases fl with
              | nx sl' =>
                intro g' σ' H' l R' e
                refine (show FlOk f g pr σ D (.nx (unNm (some i) sl')) b from z) g' (σ'.set i none) H' (l3.trans l) ?_ (same e)
                rw [setE]
                exact sig_none R' i
              | brk sl' =>
                intro g' σ' H' l R' e
                refine (show FlOk f g pr σ D (.brk (unNm (some i) sl')) b from z) g' (σ'.set i none) H' (l3.trans l) ?_ (same e)
                rw [setE]
                exact sig_none R' i
              | cont sl' =>
                intro g' σ' H' l R' e
                refine (show FlOk f g pr σ D (.cont (unNm (some i) sl')) b from z) g' (σ'.set i none) H' (l3.trans l) ?_ (same e)
                rw [setE]
                exact sig_none R' i
              | ret r sl' =>
                intro g' σ' v H' l R' vl e
                refine (show FlOk f g pr σ D (.ret r (unNm (some i) sl')) b from z) g' (σ'.set i none) v H' (l3.trans l) ?_ ?_ (same e)
                · rw [setE]
                  exact sig_none R' i
                · rw [setE]
                  obtain ⟨w, fr⟩ := r
                  cases fr with
                  | false => exact vl
                  | true =>
                    obtain ⟨a', z1, z2, z3, z4, z5, z6⟩ := vl
                    refine ⟨a', z1, z2, z3, z4, z5, fun j u q => ?_⟩
                    rcases sl_set q with ⟨_, q⟩ | ⟨e2, q⟩
                    · cases q
                    · rw [List.getElem?_set_ne e2]
                      exact z6 j u q
            refine wpAny_mono (run [] _ S5) (fun fl s6 hsp => ?_) (fun _ _ z => z.elim)
            have end_ : ∀ {σ6 : St} {H6 : Hp} {Q : Shared → Prop}, Inv (X.suite a (X.pn ++ pins)) [] σ6 H6 s6 → (∀ s7, Inv X pins (σ6.set i none) H6 s7 → Q s7) →
                wpAny (model X.prog X.w) X.A (do bindName X.env n .none; unbindBehindTheSuite X.env n p) (fun _ s7 => Q s7) X.xe s6 := fun {σ6 H6 Q} S6 hq => gone_ok (inv_ofSuite S6 L.J.ok) nd hN hl hq
            cases fl with
            | next =>
              obtain ⟨σ6, H6, S6, q6⟩ := hsp
              exact end_ S6 fun s7 J7 => ⟨_, _, J7, q6⟩
            | brk =>
              obtain ⟨σ6, H6, S6, q6⟩ := hsp
              exact end_ S6 fun s7 J7 => ⟨_, _, J7, q6⟩
            | cont =>
              obtain ⟨σ6, H6, S6, q6⟩ := hsp
              exact end_ S6 fun s7 J7 => ⟨_, _, J7, q6⟩
            | ret u =>
              obtain ⟨v6, σ6, H6, S6, r6, q6⟩ := hsp
              exact end_ S6 fun s7 J7 => ⟨_, _, _, J7, r6, q6⟩
/-! ### the call in a try -/
/-- .. at the slots of the frame -/
def CallS (X : Cx) (fv : Value) (vs : List V) (σ : St) (H : Hp) (Q : VK) : Prop := ∀ (pins : List (Addr × Obj)) (s : Shared) (us : List Value), Inv X pins σ H s → Vals vs us → wpAny (model X.prog X.w) X.A (call fv us) (EP X pins σ Q) X.xe s
theorem s_callV0 {Q : VK} {x : Str} {p pos : Pos} {i : Nat} {fa : Addr} (hN : X.N[i]? = some x) (hv : Vis X.env.scope x) (hd : (x == ("__debug__" : Str)) = false) (hc : (x == ("__classdict__" : Str)) = false) (hσ : σ[i]? = some (some (.ref fa))) (hk : PySem.W.keepIn X.K (.ref fa) = true)
    (h : CallS X (.ref fa) [] σ H Q) : tW X (.Call (.Name x p) [] [] pos) σ H Q := by
  intro pins s I
  refine wpAny_Call_Name_kw (thn ((pe_var (pos := p) (i := i) hN hv hd hc).run pins s σ H (fun v H1 => v = .ref fa ∧ H1 = H) I ⟨.ref fa, hσ, rfl, rfl⟩) fun u s1 ⟨v, H1, I1, r1, q1, q2⟩ => ?_)
  subst q1 q2
  obtain rfl : u = Value.ref fa := r1
  exact PySem.W.callWith_K0 I1.kIn hk (h pins s1 [] I1 .nil)
theorem s_callL {Q : VK} {x : Str} {p pos : Pos} {i : Nat} {fa : Addr} {o : Obj} {fd : FuncData} (hN : X.N[i]? = some x) (hv : Vis X.env.scope x) (hd : (x == ("__debug__" : Str)) = false) (hc : (x == ("__classdict__" : Str)) = false) (hσ : σ[i]? = some (some (.ref fa))) (ha : H fa = some (.frz o (.ext fun _ => True))) (ho : o.data = .func fd)
    (h : CallS X (.ref fa) [] σ H Q) : tW X (.Call (.Name x p) [] [] pos) σ H Q := by
  intro pins s I
  refine wpAny_Call_Name_kw (thn ((pe_var (pos := p) (i := i) hN hv hd hc).run pins s σ H (fun v H1 => v = .ref fa ∧ H1 = H) I ⟨.ref fa, hσ, rfl, rfl⟩) fun u s1 ⟨v, H1, I1, r1, q1, q2⟩ => ?_)
  subst q1 q2
  obtain rfl : u = Value.ref fa := r1
  obtain ⟨oc, od, dt, osl⟩ := o
  have ho : dt = .func fd := ho
  subst ho
  exact PySem.W.callWith_F0 ⟨oc, od, fd, osl, (I1.hok fa _ ha).1⟩ (h pins s1 [] I1 .nil)
theorem s_callF {Q : VK} {e : Expr} {es : List Expr} {x : Str} {p pos : Pos} {fa : Addr} (hg : Gl X x) (hm : X.mg x = some (.ref fa)) (hk : PySem.W.keepIn X.K (.ref fa) = true) (hd : (x == ("__debug__" : Str)) = false) (hs : (e :: es).all (fun e => !starB e) = true)
    (h : tWA X (e :: es) σ H fun vs H1 => CallS X (.ref fa) vs σ H1 Q) : tW X (.Call (.Name x p) (e :: es) [] pos) σ H Q := by
  rw [List.all_cons, Bool.and_eq_true] at hs
  have h1 : starB e = false := by simpa using hs.1
  intro pins s I
  refine wpAny_Call_Name_kw (ld_glob I hg hm (PySem.W.callWith_K (h₀ := X.base) I.ok.mod.kin hk (thn (h pos pins s I) fun us s1 hq => ?_) (star_cons h1) (star_any hs.2)) hd)
  obtain ⟨vs, H1, I1, r, q⟩ := hq
  exact ⟨I1.kIn, q pins s1 us I1 r⟩
theorem s_callF0 {Q : VK} {x : Str} {p pos : Pos} {fa : Addr} (hg : Gl X x) (hm : X.mg x = some (.ref fa)) (hk : PySem.W.keepIn X.K (.ref fa) = true) (hd : (x == ("__debug__" : Str)) = false)
    (h : CallS X (.ref fa) [] σ H Q) : tW X (.Call (.Name x p) [] [] pos) σ H Q := fun pins s I =>
  wpAny_Call_Name_kw (ld_glob I hg hm (PySem.W.callWith_K0 I.kIn hk (h pins s [] I .nil)) hd)
theorem Xok.tr (o : Xok XE tb N cl io cn f X sc) (pn : List (Addr × Obj)) (xe : Value → Shared → Prop) : Xok T.noX tb N cl io cn f (X.tr pn xe) sc :=
  { o with
    bx := ⟨o.bx.sm, o.bx.hK, o.bx.hu, o.bx.hg, o.bx.calm⟩
    tk := takes_no
    fn := fun j x h => by
      obtain ⟨a, h1, h2, h4, h3⟩ := o.fn j x h
      exact ⟨a, h1, h2, h4, fun XE' X' f'' s => h3 XE' X' f'' ⟨s.prog, s.w, s.K, s.mg, s.base, s.A, s.calm⟩⟩
    fnk := fun j x h hp => by
      obtain ⟨a, h1, h2, h3⟩ := o.fnk j x h hp
      exact ⟨a, h1, h2, fun XE' X' f'' s => h3 XE' X' f'' ⟨s.prog, s.w, s.K, s.mg, s.base, s.A, s.calm⟩⟩
    lam := fun XE' X' f'' s => o.lam XE' X' f'' ⟨s.prog, s.w, s.K, s.mg, s.base, s.A, s.calm⟩
    mko := fun c hc X' s => o.mko c hc X' ⟨s.prog, s.w, s.K, s.mg, s.base, s.A, s.calm⟩
    hea := fun h1 h2 => let h := o.hea h1 h2; ⟨h.ex, h.stk, h.fr, h.ex0, h.h0, h.fnT, h.en⟩
    drw := by
      obtain ⟨a, h1, h2, h3⟩ := o.drw
      exact ⟨a, h1, h2, fun X' f'' s => h3 X' f'' ⟨s.prog, s.w, s.K, s.mg, s.base, s.A, s.calm⟩⟩ }
/-- what a try wishes of an exception -/
def exT (X : Cx) (pins : List (Addr × Obj)) (D : Ends) (hds : List ExceptHandler) : Value → Shared → Prop := fun e s' => ∃ (σ1 : St) (H1 : Hp) (s1 : Shared) (E : XK), Inv X pins σ1 H1 s1 ∧ L2.CX X.prog X.w X.stack H1 s1 E e s' ∧
  ∀ (a : Addr) (B : Heap) (sI s3 : Shared) (H' : Hp) (cls : Value) (d : Option Addr), Land X pins σ1 a B sI H' cls d s3 → E cls d H' → wpAny (model X.prog X.w) X.A (handleBy (.ref a) X.env hds) (SP X pins D) X.xe s3
theorem call_try (o : Fok XE tb N cl io cn f X sc no) {hs : List Hd0} {hds : List ExceptHandler} (ck : chkHd tb N sc pr hs hds = true) {g0 : Gh} (l0 : g0.le g) {fa : Addr} {vs : List V} {Q : VK} (ok : X.Ok)
    (h : CallC X (.ref fa) vs H Q (exK (fun c fs b' => (hdGo c fs hs sl).wb XE b' (FlOk f g0 pr σ D)) f g sl σ)) : CallS (X.tr (X.pn ++ pins) (exT X pins D hds)) (.ref fa) vs σ H Q := fun pins' s us I r => by
  have hX : CallC (X.tr (X.pn ++ pins) (exT X pins D hds)) (.ref fa) vs H Q (exK (fun c fs b' => (hdGo c fs hs sl).wb XE b' (FlOk f g0 pr σ D)) f g sl σ) := h
  refine wpAny_mono (hX.e pins' s σ us I r) (fun _ _ q => q) fun e s' cx => ?_
  refine ⟨σ, H, s, _, I.ofTry ok, cx, fun a B sI s3 H' cls d L ⟨c, fs, g', b', q1, q2, q3, q4⟩ => ?_⟩
  exact hd_ok o L q4 q2 ck (T.wb_mono (fun fl b2 z => FlOk.mono (l0.trans q3) (fun _ _ => rfl) z) q1)
theorem tk_ok {XE : XP} {k : Tk} {r : R} {P : Fl → Nat → Prop} (h : (tkGo k r sl).wb XE b P) : P (match k with
    | .exp => .nx sl
    | .ret => .ret r sl
    | .retL => .ret (.lst [r.1], true) sl
    | .asg i => .nx (sett sl i (some r))) b := by
  cases k <;> exact h
theorem sz1 : (1 : Nat) ≤ sizeLine := by rw [sizeLine_eq]; decide
theorem ss_try {k : Tk} {e : Ex} {hs : List Hd0} : SS tb N cl io cn f pr no (.try_ k e hs) := ⟨fun {XE X sc st} o ck {sl σ H g b D} R h => by
  unfold chkS at ck
  cases hc : asTry st with
  | none => rw [hc] at ck; cases ck
  | some y =>
    rw [hc] at ck
    obtain ⟨st1, hds⟩ := y
    obtain ⟨h0, hds, p, e0, rfl⟩ := asTry_ok hc
    have e0 : _ = h0 :: hds := e0
    subst e0
    simp only [Bool.and_eq_true] at ck
    obtain ⟨c1, c2, c3⟩ := ck
    cases ha : asTk N sc pr k st1 with
    | none => rw [ha] at c3; cases c3
    | some e' =>
      rw [ha] at c3
      have c3 : chkE tb N sc e e' = true := c3
      intro pins s I
      refine try_run I.ok o.stk o.frm (show wpAny (model X.prog X.w) X.A (execs [st1] X.env) (SP X pins D) (exT X pins D (h0 :: hds)) s from ?_)
      have oT := o.toXok.tr (X.pn ++ pins) (exT X pins D (h0 :: hds))
      -- the call, whatever is done with it
      have core : ∀ {Qc : VK}, (∀ (r : Ev.R) b1 sl1 g1, g.le g1 → (tkGo k r sl1).wb XE b1 (FlOk f g pr σ D) → ∀ g2 v H2, g1.le g2 → Rl f g2 b1 sl1 σ H2 → Vl f g2 H2 sl1 σ r v → Qc v H2) → tW (X.tr (X.pn ++ pins) (exT X pins D (h0 :: hds))) e' σ H Qc := fun {Qc} kq => by
        unfold chkE at c3
        cases e with
        | call j es =>
          cases hc : asCall e' with
          | none => rw [hc] at c3; cases c3
          | some y =>
            rw [hc] at c3
            obtain ⟨x, fs⟩ := y
            obtain ⟨p, q, rfl⟩ := asCall_ok hc
            simp only [Bool.and_eq_true, okN, Bool.not_eq_true'] at c3
            obtain ⟨d1, d2, ⟨d3, _⟩, d4⟩ := c3
            obtain ⟨fa, hm, hk, _, hf⟩ := o.fn j x (atB_ok d1)
            have h2 := T.wb_calm (T.wb_bind.mp (show ((lA (evL cl io cn es) sl).calm.bind _).wb XE b _ from h))
            have inner : ∀ {ws : List W} {vs : List V} {sl1 : Sl} {b1 : Nat} {g1 : Gh} {H1 : Hp}, g.le g1 → Rl f g1 b1 sl1 σ H1 → RVs f.K f.G g1 ws vs →
                ((cl j (ws.map fun w => (w, false))).catch_ (fun r => tkGo k r.1 sl1) (fun c fs => hdGo c fs hs sl1)).wb XE b1 (FlOk f g pr σ D) → CallS (X.tr (X.pn ++ pins) (exT X pins D (h0 :: hds))) (.ref fa) vs σ H1 Qc := fun {ws vs sl1 b1 g1 H1} l R1 rvs q => by
              refine call_try (pins := pins) o c1 l I.ok (hf _ X f (Sib.refl X) rfl rfl g1 b1 sl1 σ H1 _ vs [] Qc R1 (argsR_frz rvs) (T.wb_mono (fun r b3 k3 g3 v H3 l3 R3 tm vl nv => ?_) (T.wb_catch q)))
              exact kq r.1 b3 sl1 g1 l k3 g3 v H3 l3 R3 vl
            cases fs with
            | nil =>
              cases es with
              | cons _ _ => cases d4
              | nil => exact s_callF0 (o.glo x d2) hm hk d3 (inner (Gh.le.refl g) R .nil (ws := []) h2)
            | cons f1 fs =>
              refine s_callF (X := X.tr (X.pn ++ pins) (exT X pins D (h0 :: hds))) (o.glo x d2) hm hk d3 (chkL_star d4) (lA_ok (allSE (sndL es f)) oT d4 R (T.wb_mono (fun r b' q g' vs H' l R' rvs => ?_) h2))
              exact inner l R' rvs q
        | callv i es =>
          cases es with
          | cons _ _ => cases c2
          | nil =>
            cases hc : asCall e' with
            | none => rw [hc] at c3; cases c3
            | some y =>
              rw [hc] at c3
              obtain ⟨x, fs⟩ := y
              obtain ⟨p, q, rfl⟩ := asCall_ok hc
              simp only [Bool.and_eq_true, okN, Bool.not_eq_true'] at c3
              obtain ⟨d1, d2, ⟨d3, d3', _⟩, d4⟩ := c3
              cases fs with
              | cons _ _ => cases d4
              | nil =>
                have hN : X.N[i]? = some x := by rw [o.hN]; exact atB_ok d1
                obtain ⟨⟨w, fr⟩, e1, h⟩ := rd_wb (T.wb_bind.mp (show ((rd sl i).bind _).wb XE b _ from h))
                cases w with
                | fn j =>
                  obtain ⟨kj, h⟩ := T.wb_guard h
                  obtain ⟨fa, s1, hG⟩ := fn_slot R e1
                  obtain ⟨x', hx'⟩ := o.gfn j fa hG (Nat.le_of_ble_eq_true kj)
                  obtain ⟨fa', hm, hk, hG', hf⟩ := o.fn j x' hx'
                  rw [hG] at hG'
                  cases hG'
                  refine s_callV0 (X := X.tr (X.pn ++ pins) (exT X pins D (h0 :: hds))) hN (o.vis x d2) d3 d3' s1 hk (call_try (pins := pins) o c1 (Gh.le.refl g) I.ok (hf _ X f (Sib.refl X) rfl rfl g b sl σ H [] [] [] Qc R .nil (T.wb_mono (fun r b3 k3 g3 v H3 l3 R3 tm vl nv => ?_) (T.wb_catch h))))
                  exact kq r.1 b3 sl g (Gh.le.refl g) k3 g3 v H3 l3 R3 vl
                | clo j vs =>
                  obtain ⟨fa, ob, fd, s1, rv, ha', hob⟩ := clo_slot R e1
                  refine s_callL (X := X.tr (X.pn ++ pins) (exT X pins D (h0 :: hds))) hN (o.vis x d2) d3 d3' s1 ha' hob (call_try (pins := pins) o c1 (Gh.le.refl g) I.ok (o.lam _ X f (Sib.refl X) rfl rfl g b sl σ H j vs [] fa [] Qc R rv .nil (by rw [List.append_nil]; exact T.wb_mono (fun r b3 k3 g3 v H3 l3 R3 vl => kq r.1 b3 sl g (Gh.le.refl g) k3 g3 v H3 l3 R3 vl) (T.wb_catch h))))
                | _ => exact h.elim
        | _ => cases c2
      -- the statement around it
      have run : tWSs (X.tr (X.pn ++ pins) (exT X pins D (h0 :: hds))) [st1] D σ H := by
        unfold asTk at ha
        have noC : compB e' = false := by
          unfold chkE at c3
          cases e <;> first
            | (cases c2; done)
            | skip
          all_goals
            cases hc : asCall e' with
            | none => rw [hc] at c3; cases c3
            | some y =>
              obtain ⟨p, q, rfl⟩ := asCall_ok hc
              rfl
        cases k with
        | exp =>
          dsimp only at ha
          cases hx : asExpr st1 with
          | none => rw [hx] at ha; cases ha
          | some y =>
            rw [hx] at ha
            cases ha
            obtain ⟨p, rfl⟩ := asExpr_ok hx
            refine of_pss (pss_one (ps_expr pe_w (swap_no noC))) (core fun r b1 sl1 g1 l q g2 v H2 l2 R2 vl => ?_)
            exact (tk_ok q) g2 σ H2 (l.trans l2) R2 fun _ _ => rfl
        | ret =>
          dsimp only at ha
          split at ha
          · rename_i e2 hx
            cases ha
            obtain ⟨p, rfl⟩ := asRet_ok hx
            refine of_pss (pss_one (ps_ret pe_w)) (core fun r b1 sl1 g1 l q g2 v H2 l2 R2 vl => ?_)
            exact (tk_ok q) g2 σ v H2 (l.trans l2) R2 vl fun _ _ => rfl
          · cases ha
        | retL =>
          dsimp only at ha
          split at ha
          · rename_i e2 hx
            obtain ⟨p, rfl⟩ := asRet_ok hx
            split at ha
            · rename_i e3 hl
              obtain ⟨p2, rfl⟩ := asLst_ok hl
              cases hst : starB e3 with
              | true => rw [hst] at ha; cases ha
              | false =>
                rw [hst] at ha
                cases ha
                refine of_pss (pss_one (ps_ret pe_w)) (w_lst (w_cons hst (core fun r b1 sl1 g1 l q g2 v H2 l2 R2 vl => w_nil ⟨sz1, fun q2 hq2 => ?_⟩)))
                obtain ⟨g3, l3, R3, rv⟩ := R2.freeze vl
                obtain ⟨R4, vl4⟩ := R3.newL hq2 (.cons rv .nil)
                exact (tk_ok q) g3 σ _ _ ((l.trans l2).trans l3) R4 vl4 fun _ _ => rfl
            · cases ha
          · cases ha
        | asg i =>
          dsimp only at ha
          cases hx : asAsg st1 with
          | none => rw [hx] at ha; cases ha
          | some y =>
            rw [hx] at ha
            obtain ⟨t, e2⟩ := y
            obtain ⟨p, rfl⟩ := asAsg_ok hx
            dsimp only at ha
            cases hn : asName t with
            | none => rw [hn] at ha; cases ha
            | some n =>
              rw [hn] at ha
              obtain ⟨pn, rfl⟩ := asName_ok hn
              dsimp only at ha
              cases hb : (atB N i n && (locB sc n && !pr.elem i)) with
              | false => rw [hb] at ha; cases ha
              | true =>
                rw [hb] at ha
                cases ha
                simp only [Bool.and_eq_true, Bool.not_eq_true'] at hb
                obtain ⟨d1, d2, d3⟩ := hb
                obtain ⟨lo, lf⟩ := o.loc n d2
                refine of_pss (pss_one (ps_set (i := i) (te := tW _ _) (by show X.N.Nodup; rw [o.hN]; exact o.nd) (by show X.N[i]? = _; rw [o.hN]; exact atB_ok d1) lo pe_w (swap_no noC) lf)) (core fun r b1 sl1 g1 l q g2 v H2 l2 R2 vl => ?_)
                have z := tk_ok q
                have same : ∀ j ∈ pr, (σ.set i (some v))[j]? = σ[j]? := fun j hj => by
                  have hji : i ≠ j := fun q => by
                    subst q
                    have := List.elem_eq_true_of_mem hj
                    rw [d3] at this
                    cases this
                  rw [List.getElem?_set_ne hji]
                have z : FlOk f g pr σ D (.nx (sett sl1 i (some r))) b1 := z
                rw [sett_eq] at z
                obtain ⟨w, fr⟩ := r
                cases fr with
                | false => exact z g2 _ H2 (l.trans l2) (R2.setF vl) same
                | true =>
                  obtain ⟨a, rfl, v1, v2, v3, v4, v5⟩ := vl
                  exact z g2 _ H2 (l.trans l2) (R2.setO v1 v2 v3 (.inl v4) fun j u _ q => v5 j u q) same
      refine wpAny_mono (run [] s (I.toTry _)) (fun fl s1 hsp => ?_) fun _ _ q => q
      cases fl with
      | next =>
        obtain ⟨σ', H', J, q⟩ := hsp
        exact ⟨σ', H', J.ofTry I.ok, q⟩
      | brk =>
        obtain ⟨σ', H', J, q⟩ := hsp
        exact ⟨σ', H', J.ofTry I.ok, q⟩
      | cont =>
        obtain ⟨σ', H', J, q⟩ := hsp
        exact ⟨σ', H', J.ofTry I.ok, q⟩
      | ret u =>
        obtain ⟨v, σ', H', J, r, q⟩ := hsp
        exact ⟨v, σ', H', J.ofTry I.ok, r, q⟩⟩
end
end Ev
end
end
section
set_option Elab.async false
set_option linter.all false
set_option maxRecDepth 100000
set_option maxHeartbeats 2000000
/-! EvPar: a, b = x, y. -/
noncomputable section
namespace Ev
open PySem L2
set_option autoImplicit false
variable {XE : XP}
def setAll : List (Nat × V) → St → St
  | [], σ => σ
  | p :: ps, σ => setAll ps (σ.set p.1 (some p.2))
structure StoreAt (σ : St) (ps : List (Nat × V)) (σ' : St) : Prop where
  len : σ'.length = σ.length
  out : ∀ i, i ∉ ps.map (·.1) → σ'[i]? = σ[i]?
  at_ : ∀ p ∈ ps, p.1 < σ.length → σ'[p.1]? = some (some p.2)
theorem setAll_at : ∀ {ps : List (Nat × V)} {σ : St}, (ps.map (·.1)).Nodup → StoreAt σ ps (setAll ps σ)
  | [], σ, _ => ⟨rfl, fun _ _ => rfl, fun _ h => (List.not_mem_nil h).elim⟩
  | p :: ps, σ, nd => by
    rw [List.map_cons, List.nodup_cons] at nd
    obtain ⟨h1, h2, h3⟩ := setAll_at (ps := ps) (σ := σ.set p.1 (some p.2)) nd.2
    refine ⟨h1.trans List.length_set, fun i hi => ?_, fun q hq hl => ?_⟩
    · rw [List.map_cons, List.mem_cons, not_or] at hi
      show (setAll ps (σ.set p.1 (some p.2)))[i]? = _
      rw [h2 i hi.2, List.getElem?_set_ne (Ne.symm hi.1)]
    · rcases List.mem_cons.mp hq with e | e
      · subst e
        show (setAll ps (σ.set q.1 (some q.2)))[q.1]? = _
        rw [h2 _ nd.1, List.getElem?_set_self hl]
      · exact h3 q e (by rw [List.length_set]; exact hl)
theorem StoreAt.rev {σ σ' : St} {ps : List (Nat × V)} (h : StoreAt σ ps.reverse σ') : StoreAt σ ps σ' := ⟨h.len, fun i hi => h.out i (by rw [List.map_reverse, List.mem_reverse]; exact hi), fun p hp => h.at_ p (List.mem_reverse.mpr hp)⟩
section
variable {X : Cx} {pins : List (Addr × Obj)} {H : Hp} {D : Ends}
/-- names stored one after another -/
theorem names_ok {A : Around} {E : Value → Shared → Prop} {Q : Unit → Shared → Prop} (hN : X.N.Nodup) : ∀ {ps : List (Nat × V)} {xs : List Str} {us : List Value} {σ : St} {s : Shared}, Inv X pins σ H s → Vals (ps.map (·.2)) us → ps.length = xs.length → (∀ (k : Nat) p x, ps[k]? = some p → xs[k]? = some x → X.N[p.1]? = some x ∧ X.env.scope.names.lookup x = some .local) →
    (∀ s', Inv X pins (setAll ps σ) H s' → Q () s') → wpAny (model X.prog X.w) A (assignInOrder (xs.map fun n => bindName X.env n) us) Q E s
  | [], [], us, σ, s, I, r, _, _, h => by
    cases r
    exact PyProof.Rows.assignInOrder_nil (h s I)
  | p :: ps, x :: xs, us, σ, s, I, r, hl, hx, h => by
    cases r with
    | cons r1 r2 =>
      obtain ⟨n1, n2⟩ := hx 0 p x rfl rfl
      refine PyProof.Rows.assignInOrder_cons (wpAny_bindName (store_ok I hN n1 (.inl n2) r1 (fun s' I' => ?_) (.inr n2)))
      exact names_ok hN I' r2 (Nat.succ.inj hl) (fun k q y h1 h2 => hx (k + 1) q y (by simpa using h1) (by simpa using h2)) h
  | [], _ :: _, _, _, _, _, _, hl, _, _ => by cases hl
  | _ :: _, [], _, _, _, _, _, hl, _, _ => by cases hl
/-- a, b = x, y : stored from the right -/
def tParN (gs : List Nat) (ta : TA) : TS := fun D σ H => ta σ H fun vs H1 => vs.length = gs.length ∧ ∀ σ' H', StoreAt σ (gs.zip vs) σ' → Same H1 H' → D.nx σ' H'
theorem zip_rev {α β : Type} : ∀ {a : List α} {c : List β}, a.length = c.length → a.reverse.zip c.reverse = (a.zip c).reverse
  | [], [], _ => rfl
  | x :: a, y :: c, h => by
    have ih := zip_rev (a := a) (c := c) (Nat.succ.inj h)
    rw [List.reverse_cons, List.reverse_cons, List.zip_append (by rw [List.length_reverse, List.length_reverse]; exact Nat.succ.inj h), ih]
    show _ = ((x, y) :: a.zip c).reverse
    rw [List.reverse_cons]
    rfl
  | [], _ :: _, h => by cases h
  | _ :: _, [], h => by cases h
theorem zip_fst {α β : Type} : ∀ {a : List α} {c : List β}, a.length = c.length → (a.zip c).map (·.1) = a
  | [], [], _ => rfl
  | x :: a, y :: c, h => by rw [List.zip_cons_cons, List.map_cons, zip_fst (Nat.succ.inj h)]
  | [], _ :: _, h => by cases h
  | _ :: _, [], h => by cases h
theorem zip_snd {α β : Type} : ∀ {a : List α} {c : List β}, a.length = c.length → (a.zip c).map (·.2) = c
  | [], [], _ => rfl
  | x :: a, y :: c, h => by rw [List.zip_cons_cons, List.map_cons, zip_snd (Nat.succ.inj h)]
  | [], _ :: _, h => by cases h
  | _ :: _, [], h => by cases h
theorem ps_parS {gs : List Nat} {xs : List Str} {ts vs : List Expr} {ta : TA} {kt k2 : Nat} {pt pt2 pos : Pos} (hc : X.calm = true) (hN : X.N.Nodup) (hg : gs.Nodup) (hl : gs.length = xs.length) (hx : ∀ (k : Nat) g x, gs[k]? = some g → xs[k]? = some x → X.N[g]? = some x ∧ X.env.scope.names.lookup x = some .local)
    (hz : gs.length ≤ sizeLine) (ha : PA X vs ta) (hw : swappedStores [.Tuple ts kt pt] (.Tuple vs k2 pt2) X.env = pure (some xs)) :
    PS X (.Assign [.Tuple ts kt pt] (.Tuple vs k2 pt2) pos) (tParN gs ta) := by
  refine ⟨fun pins s σ H D I h => ?_⟩
  rw [exec_Assign_arm]
  refine wpAny_bind (wpAny_standAt ?_)
  rw [show swapsWithSole [.Tuple ts kt pt] (.Tuple vs k2 pt2) pos.line X.env = pure false from rfl]
  refine wpAny_bind (wpAny_pure ?_)
  rw [if_neg (by decide)]
  refine wpAny_bind (PyProof.Rows.Tuple_ (thn (ha.run _ pins s σ H _ I h) fun us s1 ⟨ws, H1, I1, r1, q0, q1⟩ => ?_))
  have hlu := r1.length
  refine wpAny_newObj_type ?_ (by show us.toArray.size ≤ sizeLine; rw [List.size_toArray]; omega)
  have I2 : Inv X pins σ H1 { s1 with heap := s1.heap.push { cls := .type "tuple", data := .seq us.toArray } } := I1.kept (t' := s1.toks) fun b o e => Heap.get?_push_of_some _ e
  rw [hw]
  refine wpAny_bind (wpAny_pure ?_)
  show wpAny (model X.prog X.w) X.A (do rule "assign.swapped-stores"; let items ← unpackItems (.ref s1.heap.objs.size) xs.length none; assignInOrder (xs.reverse.map fun n => bindName X.env n) items.reverse; pure Flow.next) _ _ _
  have hsz : xs.length = us.toArray.size := by rw [List.size_toArray]; omega
  rw [hsz]
  refine wpAny_bind (wpAny_rule (wpAny_bind (PyProof.Rows.unpackItems_tuple (items := us.toArray) (I.ok.hd hc) (PyProof.Rows.IsTup.new s1.heap _) fun h' hx' => ?_)))
  have I3 := I2.kept (h' := h') (t' := s1.toks) fun b o e => hx' b o (Nat.ne_of_lt (Heap.lt_size e)) e
  have hgw : gs.length = ws.length := q0.symm
  have hrl : gs.reverse.length = ws.reverse.length := by rw [List.length_reverse, List.length_reverse]; exact hgw
  refine wpAny_bind (names_ok (ps := gs.reverse.zip ws.reverse) hN I3 ?_ ?_ ?_ fun s2 I4 => wpAny_pure ⟨_, H1, I4, ?_⟩)
  · rw [zip_snd hrl, List.toList_toArray]
    exact r1.reverse
  · rw [List.length_zip, List.length_reverse, List.length_reverse, List.length_reverse]
    omega
  · intro k p x h1 h2
    have h3 : gs.reverse[k]? = some p.1 := by
      have := congrArg (Option.map (·.1)) h1
      rw [← List.getElem?_map, zip_fst hrl] at this
      exact this
    have hk : k < gs.length := by
      have := (List.getElem?_eq_some_iff.mp h3).1
      rw [List.length_reverse] at this
      exact this
    rw [List.getElem?_reverse hk] at h3
    rw [List.getElem?_reverse (by omega)] at h2
    exact hx (gs.length - 1 - k) p.1 x h3 (by rw [hl]; exact h2)
  · refine q1 _ H1 ?_ (Same.refl _)
    refine StoreAt.rev ?_
    rw [← zip_rev hgw]
    refine setAll_at ?_
    rw [zip_fst hrl]
    exact List.pairwise_reverse.mpr (hg.imp fun h => Ne.symm h)
end

section
variable {tb : Tb} {N : List Str} {cl : Cl} {io : Nat → List Bool} {cn : Nat → W} {f : Fm} {pr : List Nat} {no : Bool} {X : Cx} {sc : Scope} {σ : St} {H : Hp}
theorem gs_names {K : PySem.W.Frag} {Q : St → Hp → Prop} : ∀ {gs : List Nat} {vs : List V} {σ : St}, vs.length = gs.length → Q (setAll (gs.zip vs) σ) H → gsOf K (gs.map Tg.nm) vs σ H Q
  | [], [], σ, _, h => ⟨rfl, h⟩
  | g :: gs, v :: vs, σ, hl, h => ⟨v, vs, rfl, gs_names (gs := gs) (Nat.succ.inj hl) h⟩
  | [], _ :: _, _, h, _ => by cases h
  | _ :: _, [], _, h, _ => by cases h
theorem names_chk : ∀ {ts : List Expr} {xs : List Str} {gs : List Nat}, asNames ts = some xs → slB N sc gs xs = true → chkGs N sc (gs.map Tg.nm) ts = true ∧ gs.length = xs.length
  | [], xs, gs, h, c => by
    cases h
    cases gs with
    | nil => exact ⟨rfl, rfl⟩
    | cons _ _ => cases c
  | t :: ts, xs, gs, h, c => by
    unfold asNames at h
    cases hn : asName t with
    | none => rw [hn] at h; cases h
    | some x =>
      rw [hn] at h
      dsimp only at h
      cases hr : asNames ts with
      | none => rw [hr] at h; cases h
      | some ys =>
        rw [hr] at h
        have h : x :: ys = xs := Option.some.inj h
        subst h
        cases gs with
        | nil => cases c
        | cons g gs =>
          have c : (atB N g x && (locB sc x && slB N sc gs ys)) = true := c
          simp only [Bool.and_eq_true] at c
          obtain ⟨h1, h2⟩ := names_chk hr c.2.2
          obtain ⟨p, rfl⟩ := asName_ok hn
          refine ⟨?_, congrArg (· + 1) h2⟩
          rw [List.map_cons]
          unfold chkGs
          dsimp only
          rw [h1]
          unfold chkG
          show (!starB (Expr.Name x p) && ((atB N g x && locB sc x) && true)) = true
          rw [c.1, c.2.1]
          rfl
theorem slB_at : ∀ {gs : List Nat} {xs : List Str}, slB N sc gs xs = true → ∀ (k : Nat) g x, gs[k]? = some g → xs[k]? = some x → N[g]? = some x
  | [], _, _, k, g, x, h, _ => by simp at h
  | g0 :: gs, [], c, _, _, _, _, _ => by cases c
  | g0 :: gs, x0 :: xs, c, 0, g, x, h1, h2 => by
    have c : (atB N g0 x0 && (locB sc x0 && slB N sc gs xs)) = true := c
    rw [Bool.and_eq_true] at c
    cases h1
    cases h2
    exact atB_ok c.1
  | g0 :: gs, x0 :: xs, c, k + 1, g, x, h1, h2 => by
    have c : (atB N g0 x0 && (locB sc x0 && slB N sc gs xs)) = true := c
    rw [Bool.and_eq_true, Bool.and_eq_true] at c
    exact slB_at c.2.2 k g x (by simpa using h1) (by simpa using h2)
theorem plB_at : ∀ {xs : List Str}, plB sc xs = true → ∀ (k : Nat) x, xs[k]? = some x → sc.names.lookup x = some .local
  | [], _, k, x, h => by simp at h
  | x0 :: xs, c, k, x, h => by
    unfold plB at c
    rw [Bool.and_eq_true] at c
    cases k with
    | succ k => exact plB_at c.2 k x (by simpa using h)
    | zero =>
      have h : x0 = x := by simpa using h
      subst h
      have c := c.1
      split at c
      · assumption
      · cases c
theorem ndB_ok : ∀ {gs : List Nat}, ndB gs = true → gs.Nodup
  | [], _ => List.nodup_nil
  | g :: gs, c => by
    have c : (!gs.elem g && ndB gs) = true := c
    simp only [Bool.and_eq_true, Bool.not_eq_true', List.elem_eq_mem, decide_eq_false_iff_not] at c
    exact List.nodup_cons.mpr ⟨c.1, ndB_ok c.2⟩
/-- slots that no name of the text has -/
def GE (t : Nat) (σ σ' : St) : Prop := σ'.length = σ.length ∧ ∀ i, i < t → σ'[i]? = σ[i]?
theorem GE.symm {t : Nat} {σ σ' : St} (h : GE t σ σ') : GE t σ' σ := ⟨h.1.symm, fun i hi => (h.2 i hi).symm⟩
theorem GE.trans {t : Nat} {σ1 σ2 σ3 : St} (a : GE t σ1 σ2) (c : GE t σ2 σ3) : GE t σ1 σ3 := ⟨c.1.trans a.1, fun i h => (c.2 i h).trans (a.2 i h)⟩
theorem Inv.ghost {t : Nat} {σ σ' : St} {pins : List (Addr × Obj)} {s : Shared} (hv : ∀ (i : Nat) x, t ≤ i → X.N[i]? = some x → ¬ Vis X.env.scope x) (h : GE t σ σ') (I : Inv X pins σ H s) : Inv X pins σ' H s :=
  { I with
    loc := by
      obtain ⟨m, h1, h2⟩ := I.loc
      refine ⟨m, h1, fun i x v e1 e2 e3 => ?_⟩
      by_cases hi : i < t
      · rw [h.2 i hi] at e2
        exact h2 i x v e1 e2 e3
      · exact (hv i x (Nat.le_of_not_lt hi) e1 e3).elim
    len := h.1.trans I.len }
theorem tW.ghost {t : Nat} {σ' : St} {e : Expr} {Q : VK} (hv : ∀ (i : Nat) x, t ≤ i → X.N[i]? = some x → ¬ Vis X.env.scope x) (h : GE t σ σ') (q : tW X e σ' H Q) : tW X e σ H Q := fun pins s I =>
  thn (q pins s (Inv.ghost hv h I)) fun u s1 ⟨v, H1, I1, r, q1⟩ => ⟨v, H1, Inv.ghost hv h.symm I1, r, q1⟩
theorem lPar_ok {t : Nat} (hv : ∀ (i : Nat) x, t ≤ i → X.N[i]? = some x → ¬ Vis X.env.scope x) (o : Xok XE tb N cl io cn f X sc) : ∀ {es : Exs} {fs : List Expr} {t' : Nat}, chkL tb N sc es fs = true → t ≤ t' → t' + lenX es ≤ σ.length → ∀ {sl : Sl} {σ1 : St} {H : Hp} {g : Gh} {b : Nat} {Q : List V → Hp → Prop}, Rl f g b sl σ1 H → GE t σ σ1 →
    (lPar (evL cl io cn es) t' sl).wb XE b (fun sl' b' => ∀ g' vs H' σ2, g.le g' → GE t σ σ2 → (∀ i, (i < t' ∨ t' + lenX es ≤ i) → σ2[i]? = σ1[i]?) → (∀ (k : Nat) v, vs[k]? = some v → σ2[t' + k]? = some (some v)) → vs.length = lenX es → Rl f g' b' sl' σ2 H' → Q vs H') → tWA X fs σ H Q
  | .nil, fs, t', c, _, _, sl, σ1, H, g, b, Q, R, ge, h => by
    have c : fs.isEmpty = true := c
    rw [List.isEmpty_iff] at c
    subst c
    exact w_nil (h g [] H σ1 (Gh.le.refl g) ge (fun _ _ => rfl) (fun k v e => by simp at e) rfl R)
  | .cons x es, fs, t', c, ht, hl, sl, σ1, H, g, b, Q, R, ge, h => by
    cases fs with
    | nil => cases c
    | cons e fs =>
      have c : (!starB e && (chkE tb N sc x e && chkL tb N sc es fs)) = true := c
      simp only [Bool.and_eq_true, Bool.not_eq_true'] at c
      have hl : t' + (lenX es + 1) ≤ σ.length := hl
      refine w_cons c.1 (tW.ghost hv ge ((sndE x f).1.run o c.2.1 R (T.wb_mono (fun r b1 k1 g1 v H1 l1 R1 vl => ?_) (T.wb_bind.mp h))))
      rw [sett_eq] at k1
      have R2 : Rl f g1 b1 (r.2.set t' (some r.1)) (σ1.set t' (some v)) H1 := by
        obtain ⟨⟨w, fr⟩, sl1⟩ := r
        cases fr with
        | false => exact R1.setF vl
        | true =>
          obtain ⟨a, rfl, ho, hF, hD, h0, hs⟩ := vl
          exact R1.setO ho hF hD (.inl h0) fun j u _ q => hs j u q
      have ge2 : GE t σ (σ1.set t' (some v)) := ⟨by rw [List.length_set]; exact ge.1, fun i hi => by
        rw [List.getElem?_set_ne (by omega)]
        exact ge.2 i hi⟩
      refine lPar_ok hv o c.2.2 (Nat.le_succ_of_le ht) (by omega) R2 ge2 (T.wb_mono (fun sl2 b2 k2 g2 vs H2 σ2 l2 ge3 lo at_ len R3 => ?_) k1)
      refine k2 g2 (v :: vs) H2 σ2 (l1.trans l2) ge3 (fun i hi => ?_) (fun k u e => ?_) (congrArg (· + 1) len) R3
      · have hi : i < t' ∨ t' + (lenX es + 1) ≤ i := hi
        rw [lo i (by omega), List.getElem?_set_ne (by omega)]
      · cases k with
        | zero =>
          have e : v = u := by simpa using e
          subst e
          rw [Nat.add_zero, lo t' (.inl (Nat.lt_succ_self _)), List.getElem?_set_self (by rw [ge.1]; omega)]
        | succ k =>
          have := at_ k u (by simpa using e)
          rw [show t' + (k + 1) = t' + 1 + k by omega]
          exact this
theorem moveS_ok {t0 : Nat} : ∀ {gs : List Nat} {t : Nat} {sl : Sl} {σ : St} {vs : List V} {g : Gh} {b : Nat} {P : Sl → Nat → Prop}, Rl f g b sl σ H → t0 ≤ t → (∀ x ∈ gs, x < t0) → (∀ i, t0 ≤ i → i < t → ∀ r, sl[i]? ≠ some (some r)) → vs.length = gs.length → (∀ (k : Nat) v, vs[k]? = some v → σ[t + k]? = some (some v)) → (moveS gs t sl).wb XE b P →
    ∃ sl', P sl' b ∧ Rl f g b sl' (setAll (gs.zip vs) σ) H ∧ ∀ i, t0 ≤ i → i < t + gs.length → ∀ r, sl'[i]? ≠ some (some r)
  | [], t, sl, σ, vs, g, b, P, R, _, _, hn, hl, _, h => by
    cases vs with
    | cons _ _ => cases hl
    | nil => exact ⟨sl, h, R, fun i h1 h2 => hn i h1 h2⟩
  | x :: gs, t, sl, σ, vs, g, b, P, R, ht, hg, hn, hl, at_, h => by
    cases vs with
    | nil => cases hl
    | cons v vs =>
      obtain ⟨⟨w, fr⟩, e1, h⟩ := rd_wb (T.wb_bind.mp h)
      rw [sett_eq, sett_eq] at h
      have hx := hg x (List.mem_cons_self ..)
      have s0 : σ[t]? = some (some v) := by
        have := at_ 0 v rfl
        rwa [Nat.add_zero] at this
      have R0 : Rl f g b (sl.set t none) σ H := R.setN
      have R1 : Rl f g b ((sl.set t none).set x (some (w, fr))) (σ.set x (some v)) H := by
        cases fr with
        | false =>
          obtain ⟨u, s1, rv⟩ := R.frz t w e1
          rw [s0] at s1
          cases s1
          exact R0.setF rv
        | true =>
          obtain ⟨a, s1, ho, hF, hD, h0⟩ := R.own t w e1
          rw [s0] at s1
          cases s1
          refine R0.setO ho hF hD h0 fun j u _ q z => ?_
          rcases sl_set q with ⟨_, q'⟩ | ⟨e2, q'⟩
          · cases q'
          · exact e2 (R.inj t j w u a e1 q' s0 z)
      obtain ⟨sl', h', R', q⟩ := moveS_ok (t := t + 1) (vs := vs) R1 (Nat.le_succ_of_le ht) (fun y hy => hg y (List.mem_cons_of_mem _ hy)) (fun i h1 h2 r e => by
        rcases sl_set e with ⟨e2, _⟩ | ⟨_, e2⟩
        · omega
        · rcases sl_set e2 with ⟨_, e3⟩ | ⟨e4, e3⟩
          · cases e3
          · exact hn i h1 (by omega) r e3) (Nat.succ.inj hl) (fun k u e => by
        rw [List.getElem?_set_ne (by omega), show t + 1 + k = t + (k + 1) by omega]
        exact at_ (k + 1) u (by simpa using e)) h
      exact ⟨sl', h', R', fun i h1 h2 r e => q i h1 (by rw [List.length_cons] at h2; omega) r e⟩
theorem ss_par {gs : List Nat} {t : Nat} {es : Exs} : SS tb N cl io cn f pr no (.par gs t es) := ⟨fun {XE X sc st} o c {sl σ H g b D} R h => by
  unfold chkS at c
  cases hc : asAsg st with
  | none => rw [hc] at c; cases c
  | some y =>
    rw [hc] at c
    obtain ⟨tg, e'⟩ := y
    obtain ⟨p, rfl⟩ := asAsg_ok hc
    replace c : chkPar tb N sc pr gs t es tg e' = true := c
    unfold chkPar at c
    split at c
    · rename_i ts h1
      split at c
      · rename_i vs h2
        split at c
        · rename_i xs h3
          obtain ⟨k1, p1, rfl⟩ := asTup_ok h1
          obtain ⟨k2, p2, rfl⟩ := asTup_ok h2
          simp only [Bool.and_eq_true] at c
          obtain ⟨c1, c2, c3, c4, c5, c6, c7, c8, c9, c10, c11⟩ := c
          obtain ⟨n1, n2⟩ := names_chk h3 c1
          have nd := ndB_ok c2
          have gt : ∀ x ∈ gs, x < t := fun x hx => Nat.le_of_ble_eq_true (List.all_eq_true.mp c3 x hx)
          have pt : ∀ x ∈ pr, x < t := fun x hx => Nat.le_of_ble_eq_true (List.all_eq_true.mp c9 x hx)
          have hv : ∀ (i : Nat) x, t ≤ i → X.N[i]? = some x → ¬ Vis X.env.scope x := fun i x hi hx hvis => by
            rw [o.hN] at hx
            rw [o.hsc] at hvis
            have hm : x ∈ N.drop t := by
              refine List.mem_of_getElem? (i := i - t) ?_
              rw [List.getElem?_drop, show t + (i - t) = i by omega]
              exact hx
            have := List.all_eq_true.mp c4 x hm
            unfold visB at this
            rcases hvis with z | z | z <;> (rw [z] at this; cases this)
          have c5 : lenX es = gs.length := Nat.eq_of_beq_eq_true c5
          have c6 : t + gs.length ≤ N.length := Nat.le_of_ble_eq_true c6
          have c7 : gs.length ≤ sizeLine := Nat.le_of_ble_eq_true c7
          have off := offB_ok c8
          have hNd : X.N.Nodup := by rw [o.hN]; exact o.nd
          -- the values, and what the stores then reach
          have main : σ.length = X.N.length → tWA X vs σ H fun ws H1 => ws.length = gs.length ∧ ∀ σ' H', StoreAt σ (gs.zip ws) σ' → Same H1 H' → D.nx σ' H' := fun hlen => by
            refine lPar_ok hv o.toXok (t' := t) c10 (Nat.le_refl _) (by rw [hlen, o.hN]; omega) R ⟨rfl, fun _ _ => rfl⟩ (T.wb_mono (fun sl1 b1 k1 g1 ws H1 σ1 l1 ge lo at_ len R1 => ?_) (T.wb_bind.mp (show (sPar gs t _ sl).wb XE b _ from h)))
            have len : ws.length = gs.length := len.trans c5
            refine ⟨len, fun σ' H' sa sm => ?_⟩
            obtain ⟨sl2, k2, R2, q2⟩ := moveS_ok (t0 := t) R1 (Nat.le_refl _) gt (fun i h1 h2 => by omega) len at_ (T.wb_bind.mp k1)
            have sb := setAll_at (ps := gs.zip ws) (σ := σ1) (by rw [zip_fst len.symm]; exact nd)
            have hl2 : σ'.length = (setAll (gs.zip ws) σ1).length := by rw [sa.len, sb.len, ge.1]
            refine k2 g1 σ' H' l1 ((R2.sig hl2 fun i r e => ?_).mono sm) fun i hi => ?_
            · by_cases hi : i ∈ gs
              · rw [← zip_fst len.symm] at hi
                obtain ⟨q, hq, eq⟩ := List.mem_map.mp hi
                have eq : q.1 = i := eq
                subst eq
                have hlt : q.1 < σ.length := by
                  rw [zip_fst len.symm] at hi
                  have := gt _ hi
                  rw [hlen, o.hN]
                  omega
                rw [sa.at_ q hq hlt, sb.at_ q hq (by rw [ge.1]; exact hlt)]
              · have hi' : i ∉ (gs.zip ws).map (·.1) := by rw [zip_fst len.symm]; exact hi
                rw [sa.out i hi', sb.out i hi']
                by_cases hit : i < t
                · exact (ge.2 i hit).symm
                · by_cases hin : i < t + gs.length
                  · exact (q2 i (Nat.le_of_not_lt hit) hin r e).elim
                  · exact (lo i (.inr (by rw [c5]; omega))).symm
            · exact sa.out i (by rw [zip_fst len.symm]; exact off i hi)
          show tWS X (.Assign [.Tuple ts k1 p1] (.Tuple vs k2 p2) p) D σ H
          intro pins s I
          cases hsw : swO sc ts vs with
          | none => rw [hsw] at c11; cases c11
          | some r =>
            rw [hsw] at c11
            have hw := swO_ok (k := k1) (k2 := k2) (p := p1) (p2 := p2) o.hsc o.bk hsw
            cases r with
            | some ys =>
              have c11 : (eqSs ys xs && plB sc xs) = true := c11
              rw [Bool.and_eq_true] at c11
              have e1 := eqSs_ok c11.1
              subst e1
              refine of_ps (ps_parS o.bx.calm hNd nd n2 (fun k g x e1 e2 => ⟨by rw [o.hN]; exact slB_at c1 k g x e1 e2, o.ll x (plB_at c11.2 k x e2)⟩) c7 pa_w hw) (main I.len) pins s I
            | none =>
              refine of_ps (ps_asg (g := gTup X.K (gs.map Tg.nm).length (gsOf X.K (gs.map Tg.nm))) pe_w (pg_tup o.bx.calm (pgs_of o.toXok n1) (chkGs_each n1).1 (chkGs_each n1).2) rfl hw rfl) ?_ pins s I
              refine w_tup (tWA.mono (main I.len) fun ws H1 ⟨len, q⟩ => ⟨by rw [len]; exact c7, fun pp hpp => ?_⟩)
              refine ⟨pp, ws, rfl, .inl (.inl upd_same), by rw [List.length_map]; exact len, gs_names len (q _ _ (setAll_at (by rw [zip_fst len.symm]; exact nd)) (same_upd hpp))⟩
        · cases c
      · cases c
    · cases c⟩
theorem augW_wb {m : Bool} {x y : W} {b : Nat} {Q : R → Nat → Prop} (h : (augW m x y).wb XE b Q) : ∃ i j, x = .int i ∧ y = .int j ∧ Q (.int (cond m (i - j) (i + j)), false) b := by
  unfold augW two at h
  cases x with
  | int i =>
    cases y with
    | int j => exact ⟨i, j, rfl, rfl, h⟩
    | _ => exact h.elim
  | _ => exact h.elim
theorem ss_aug {i : Nat} {m : Bool} {e : Ex} : SS tb N cl io cn f pr no (.aug i m e) := ⟨fun {XE X sc st} o c {sl σ H g b D} R h => by
  unfold chkS at c
  cases hc : asAug st with
  | none => rw [hc] at c; cases c
  | some y =>
    rw [hc] at c
    obtain ⟨x, op, e'⟩ := y
    obtain ⟨p, q, rfl⟩ := asAug_ok hc
    simp only [Bool.and_eq_true, Bool.not_eq_true'] at c
    obtain ⟨c1, c2, c3, c4, c5⟩ := c
    obtain ⟨lo, lf⟩ := o.loc x c2
    have hN : X.N[i]? = some x := by rw [o.hN]; exact atB_ok c1
    have h : (sAug i m (evE cl io cn e) sl).wb XE b _ := h
    obtain ⟨r0, e0, h⟩ := rd_wb (T.wb_bind.mp h)
    obtain ⟨hr, h⟩ := T.wb_guard h
    obtain ⟨w0, fr⟩ := r0
    have hr : fr = false := by cases fr with
      | false => rfl
      | true => cases hr
    subst hr
    obtain ⟨v0, s0, rv0⟩ := R.frz i w0 e0
    have go : ∀ (ti : TIp) , (∀ a y H1 (Q : VK), ti (.int a) (.int y) H1 Q ↔ Q (.int (cond m (a - y) (a + y))) H1) → tAug i (tW X e') ti D σ H := fun ti hti => by
      refine ⟨v0, s0, (sndE e f).1.run o.toXok c5 R (T.wb_mono (fun r b' k g' v H' l R' vl => ?_) (T.wb_bind.mp h))⟩
      obtain ⟨a, y, ea, ey, k⟩ := augW_wb (T.wb_bind.mp k)
      have ea : w0 = .int a := ea
      subst ea
      cases rv0
      obtain ⟨⟨wy, fy⟩, sl2⟩ := r
      have ey : wy = .int y := ey
      subst ey
      have ev : v = .int y := by
        cases fy with
        | false => cases vl; rfl
        | true =>
          obtain ⟨a', _, oa, _⟩ := vl
          exact oa.elim
      subst ev
      rw [hti]
      have k : FlOk f g pr σ D (.nx (sett sl2 i (some (W.int (cond m (a - y) (a + y)), false)))) b' := k
      rw [sett_eq] at k
      refine k g' _ H' l (R'.setF (.int _)) fun j hj => ?_
      rw [List.getElem?_set_ne]
      intro z
      subst z
      have := List.elem_eq_true_of_mem hj
      rw [c3] at this
      cases this
    have nd : X.N.Nodup := by rw [o.hN]; exact o.nd
    cases op <;> first
      | (cases c4; done)
      | (have em : m = false := by simpa using c4
         subst em
         exact of_ps (ps_aug nd hN lo pe_w ip_add lf) (go _ fun a y H1 Q => ⟨fun ⟨_, _, h1, h2, z⟩ => by cases h1; cases h2; exact z, fun z => ⟨_, _, rfl, rfl, z⟩⟩))
      | (have em : m = true := c4
         subst em
         exact of_ps (ps_aug nd hN lo pe_w ip_sub lf) (go _ fun a y H1 Q => ⟨fun ⟨_, _, h1, h2, z⟩ => by cases h1; cases h2; exact z, fun z => ⟨_, _, rfl, rfl, z⟩⟩))⟩
/-! ### all statements -/
mutual
theorem sndS : ∀ (s : Sm), SS tb N cl io cn f pr no s
  | .exp e => ss_exp
  | .par gs t es => ss_par
  | .asg g e => ss_asg
  | .put i k v => ss_put
  | .app i e => ss_app
  | .ret e => ss_ret
  | .retv i => ss_retv
  | .retN => ss_retN
  | .ite c a b => ss_ite (sndSs a) (sndSs b)
  | .for_ g it b => ss_for (sndSs b)
  | .while_ c b => ss_while (sndSs b)
  | .ext i e => ss_ext
  | .pass => ss_pass
  | .brk => ss_brk
  | .cont => ss_cont
  | .never => ss_never
  | .raise c es => ss_raise
  | .try_ k e hs => ss_try
  | .aug i m e => ss_aug
theorem sndSs : ∀ (s : Sms), SSs tb N cl io cn f pr no s
  | .nil => sss_nil
  | .cons s r => sss_cons (sndS s) (sndSs r)
end
end
end Ev
end
end
section
set_option Elab.async false
set_option linter.all false
set_option maxRecDepth 100000
set_option maxHeartbeats 2000000
/-! EvFn: defs. -/
noncomputable section
namespace Ev
open PySem L2
set_option autoImplicit false
/-- what a def promises where nothing is being written out -/
structure FnG (P : Program) (w : World) (K : PySem.W.Frag) (mg : Str → Option Value) (base : Heap) (k : Nat) (a : Addr) (fd : FuncData) (ps : List Str) (sp : Sp) : Prop where
  len : ∀ vs H Q E, sp vs H Q E → vs.length = ps.length
  run : ∀ (A : Around) (outer : List Env) (s : Shared) (H : Hp) (args : Args) (us : List Value) (vs : List V) (Q : VK) (E : XK), Room k A → A.guards = some [] → Env0 P w K mg base A outer s H → BindsTo s fd args (ps.zip us) → Vals vs us → sp vs H Q E →
    codeAny (model P w) A (.call (.ref a) args) (CR (CX P w) outer P w H s Q E) s
section
variable {P : Program} {w : World} {K : PySem.W.Frag} {mg : Str → Option Value} {base : Heap} {x qual : Str} {params : Arguments} {body : List Stmt} {scope : Scope} {a : Addr} {fd : FuncData} {N ps : List Str} {k : Nat} {sp : Sp}
theorem FnG.of (F : FunD K x qual params body scope [] [] a fd) (S : FnScope N ps scope) (hlen : ∀ vs H Q E, sp vs H Q E → vs.length = ps.length)
    (hb : ∀ (cdv : Value) (A : Around) (outer : List Env) (s : Shared) (H : Hp) (vs : List V) (Q : VK) (E : XK), fd.code = cdv → Room k (A.deeper (PyProof.Rows.envOfC qual scope s.heap.objs.size a cdv)) → A.guards = some [] → sp vs H Q E →
      tWSs (cxOf (CX P w) P w K mg base N qual scope a cdv A outer s H E) body { nx := fun _ H' => Q .non H', rt := Q } (start N vs) H) : FnG P w K mg base (k + 1) a fd ps sp := by
  obtain ⟨oc, od, dV, kV, doc, pm, an, cdv, ct, osl, rfl, lk, hcd, _, _⟩ := F.ex
  refine ⟨hlen, fun A outer s H args us vs Q E room gu e0 bt rel hsp => ?_⟩
  have inK : K.In s.heap := e0.mod.kin.keeps fun c o e => (e0.bs c o e).1
  have noL : s.heap.NoLimit := e0.mod.nolimit.keeps fun c o e => (e0.bs c o e).1
  refine codeAny_call_function room.depth (inK _ _ lk) rfl S.co S.gen rfl (PySem.W.codeRec_of inK hcd) (bt _ _ _ _ ?_)
  refine wpAny_newFunctionEnv_cells S.kind (fun y hy => ?_) fun env he s1 inc => ?_
  · obtain ⟨n, v⟩ := y
    rcases S.par n (List.of_mem_zip hy).1 with q | q
    · exact .inl q
    · exact .inr ⟨q, PySem.W.cellsFrom_some _ _ _ (.inl q)⟩
  · subst he
    refine ⟨noL.keeps inc.toInCall.keep, codeAny_func ?_⟩
    have J := inv_start (CX := CX P w) (E := E) S room.hd e0 (hlen _ _ _ _ hsp) rel inc
    refine wpAny_mono (pss_w.run [] s1 _ H _ J (hb cdv A outer s H vs Q E rfl (room.deeper _) gu hsp)) (fun fl s' q => ?_) fun e s' q => q
    cases fl with
    | ret u =>
      obtain ⟨v, σ', H', J', rv, q⟩ := q
      exact ⟨v, H', J'.os, J'.bare, J'.base, J'.hok, rv, q⟩
    | next =>
      obtain ⟨σ', H', J', q⟩ := q
      exact ⟨.non, H', J'.os, J'.bare, J'.base, J'.hok, rfl, q⟩
    | brk => exact (let ⟨_, _, _, q⟩ := q; q.elim)
    | cont => exact (let ⟨_, _, _, q⟩ := q; q.elim)
theorem FnG.call {X : Cx} {H : Hp} {Q : VK} {E : XK} {vs : List V} (F : FnG X.prog X.w X.K X.mg X.base k a fd ps sp) (room : Room k X.A) (gu : X.A.guards = some []) (bd : Binds X.K fd ps []) (hx : Passes (CX X.prog X.w) X E) (h : sp vs H Q E) : CallW X (.ref a) vs H Q := fun pins s σ us I r => by
  have hl : us.length = ps.length := by rw [← r.length]; exact F.len _ _ _ _ h
  have bt := bd s us I.kIn (by rw [List.append_nil]; exact hl)
  rw [List.append_nil] at bt
  refine wpAny_call (codeAny_mono (F.run X.A X.stack s H ⟨us, []⟩ us vs Q E room gu I.env0 bt r h) fun res s' q => ?_)
  cases res with
  | error e => exact hx pins σ H s e s' I q
  | ok fl =>
    cases fl with
    | ret u => exact I.after q
    | next => exact q.elim
    | brk => exact q.elim
    | cont => exact q.elim
end

section
variable {fd : FuncData} {a : Addr} {ps : List Str} {k : Nat} {sp : Sp}
theorem FnG.callC {X : Cx} {H : Hp} {Q : VK} {E : XK} {vs : List V} (F : FnG X.prog X.w X.K X.mg X.base k a fd ps sp) (room : Room k X.A) (gu : X.A.guards = some []) (bd : Binds X.K fd ps []) (h : sp vs H Q E) : CallC X (.ref a) vs H Q E := fun s us e0 r => by
  have hl : us.length = ps.length := by rw [← r.length]; exact F.len _ _ _ _ h
  have bt := bd s us (e0.mod.kin.keeps fun c o e => (e0.bs c o e).1) (by rw [List.append_nil]; exact hl)
  rw [List.append_nil] at bt
  exact F.run X.A X.stack s H ⟨us, []⟩ us vs Q E room gu e0 bt r h
end
def BindsK (K : PySem.W.Frag) (fd : FuncData) (ps : List Str) : Prop := ∀ (s : Shared) (us : List Value) (args : Args), K.In s.heap → KwOk ps args us → BindsTo s fd args (ps.zip us)
section
variable {fd : FuncData} {a : Addr} {ps : List Str} {k : Nat} {sp : Sp}
theorem FnG.callKw {X : Cx} {H : Hp} {Q : VK} {E : XK} {vs : List V} (F : FnG X.prog X.w X.K X.mg X.base k a fd ps sp) (room : Room k X.A) (gu : X.A.guards = some []) (bd : BindsK X.K fd ps) (h : sp vs H Q E) : CallKw X (.ref a) ps vs H Q E := fun s us args e0 r hk =>
  F.run X.A X.stack s H args us vs Q E room gu e0 (bd s us args (e0.mod.kin.keeps fun c o e => (e0.bs c o e).1) hk) r h
end
/-! ### defs that raise nothing -/
abbrev NX : CXT := fun _ _ _ _ _ _ => False
abbrev NE : XK := fun _ _ _ => False
/-- what a def promises where nothing is being written out -/
structure FnG0 (P : Program) (w : World) (K : PySem.W.Frag) (mg : Str → Option Value) (base : Heap) (k : Nat) (a : Addr) (fd : FuncData) (ps : List Str) (sp : List V → Hp → VK → Prop) : Prop where
  len : ∀ vs H Q, sp vs H Q → vs.length = ps.length
  run : ∀ (A : Around) (outer : List Env) (s : Shared) (H : Hp) (args : Args) (us : List Value) (vs : List V) (Q : VK), Room k A → A.guards = some [] → Env0 P w K mg base A outer s H → BindsTo s fd args (ps.zip us) → Vals vs us → sp vs H Q →
    codeAny (model P w) A (.call (.ref a) args) (CR NX outer P w H s Q NE) s
section
variable {P : Program} {w : World} {K : PySem.W.Frag} {mg : Str → Option Value} {base : Heap} {x qual : Str} {params : Arguments} {body : List Stmt} {scope : Scope} {a : Addr} {fd : FuncData} {N ps : List Str} {k : Nat} {sp : List V → Hp → VK → Prop}
theorem FnG0.of (F : FunD K x qual params body scope [] [] a fd) (S : FnScope N ps scope) (hlen : ∀ vs H Q, sp vs H Q → vs.length = ps.length)
    (hb : ∀ (cdv : Value) (A : Around) (outer : List Env) (s : Shared) (H : Hp) (vs : List V) (Q : VK), Room k (A.deeper (PyProof.Rows.envOfC qual scope s.heap.objs.size a cdv)) → A.guards = some [] → sp vs H Q →
      tWSs (cxOf NX P w K mg base N qual scope a cdv A outer s H NE).nox body { nx := fun _ H' => Q .non H', rt := Q } (start N vs) H) : FnG0 P w K mg base (k + 1) a fd ps sp := by
  obtain ⟨oc, od, dV, kV, doc, pm, an, cdv, ct, osl, rfl, lk, hcd, _, _⟩ := F.ex
  refine ⟨hlen, fun A outer s H args us vs Q room gu e0 bt rel hsp => ?_⟩
  have inK : K.In s.heap := e0.mod.kin.keeps fun c o e => (e0.bs c o e).1
  have noL : s.heap.NoLimit := e0.mod.nolimit.keeps fun c o e => (e0.bs c o e).1
  refine codeAny_call_function room.depth (inK _ _ lk) rfl S.co S.gen rfl (PySem.W.codeRec_of inK hcd) (bt _ _ _ _ ?_)
  refine wpAny_newFunctionEnv_cells S.kind (fun y hy => ?_) fun env he s1 inc => ?_
  · obtain ⟨n, v⟩ := y
    rcases S.par n (List.of_mem_zip hy).1 with q | q
    · exact .inl q
    · exact .inr ⟨q, PySem.W.cellsFrom_some _ _ _ (.inl q)⟩
  · subst he
    refine ⟨noL.keeps inc.toInCall.keep, codeAny_func ?_⟩
    have J := inv_start (CX := NX) (E := NE) S room.hd e0 (hlen _ _ _ hsp) rel inc
    refine wpAny_mono ((PSs.nox pss_w).run [] s1 _ H _ J (hb cdv A outer s H vs Q (room.deeper _) gu hsp)) (fun fl s' q => ?_) fun e s' q => q
    cases fl with
    | ret u =>
      obtain ⟨v, σ', H', J', rv, q⟩ := q
      exact ⟨v, H', J'.os, J'.bare, J'.base, J'.hok, rv, q⟩
    | next =>
      obtain ⟨σ', H', J', q⟩ := q
      exact ⟨.non, H', J'.os, J'.bare, J'.base, J'.hok, rfl, q⟩
    | brk => exact (let ⟨_, _, _, q⟩ := q; q.elim)
    | cont => exact (let ⟨_, _, _, q⟩ := q; q.elim)
theorem FnG0.call {X : Cx} {H : Hp} {Q : VK} {vs : List V} (F : FnG0 X.prog X.w X.K X.mg X.base k a fd ps sp) (room : Room k X.A) (gu : X.A.guards = some []) (bd : Binds X.K fd ps []) (h : sp vs H Q) : CallW X (.ref a) vs H Q := fun pins s σ us I r => by
  have hl : us.length = ps.length := by rw [← r.length]; exact F.len _ _ _ h
  have bt := bd s us I.kIn (by rw [List.append_nil]; exact hl)
  rw [List.append_nil] at bt
  refine wpAny_call (codeAny_mono (F.run X.A X.stack s H ⟨us, []⟩ us vs Q room gu I.env0 bt r h) fun res s' q => ?_)
  cases res with
  | error e => exact q.elim
  | ok fl =>
    cases fl with
    | ret u => exact I.after q
    | next => exact q.elim
    | brk => exact q.elim
    | cont => exact q.elim
end

end Ev
end
end
section
set_option Elab.async false
set_option linter.all false
set_option maxRecDepth 100000
set_option maxHeartbeats 2000000
/-! EvDef: all defs of a law keep what the evaluator says. -/
noncomputable section
namespace Ev
open PySem L2
set_option autoImplicit false
variable {XE : XP}
def prOf : List Bool → Nat → List Nat
  | [], _ => []
  | b :: r, k => cond b (k :: prOf r (k + 1)) (prOf r (k + 1))
def noOf (io : List Bool) : Bool := io.all fun b => !b
theorem prOf_mem : ∀ {io : List Bool} {k i : Nat}, io[i]? = some true → k + i ∈ prOf io k
  | [], _, i, h => by simp at h
  | b :: r, k, 0, h => by
    have h : b = true := by simpa using h
    subst h
    exact List.mem_cons_self ..
  | b :: r, k, i + 1, h => by
    have := prOf_mem (io := r) (k := k + 1) (i := i) (by simpa using h)
    rw [show k + (i + 1) = k + 1 + i by omega]
    cases b with
    | true => exact List.mem_cons_of_mem _ this
    | false => exact this
section
variable {f : Fm} {g g' : Gh} {b : Nat} {sl : Sl} {σ : St} {H H' : Hp}
theorem flB_none : ∀ {io : List Bool} {args : List R} {vs : List V} {as : List Addr}, flB io args = true → noOf io = true → ArgsR f g H sl σ args vs as → as = []
  | _, _, _, _, _, _, .nil => rfl
  | [], _ :: _, _, _, c, _, _ => by cases c
  | t :: io, _, _, _, c, n, .frz _ r => by
    have c : ((t == false) && flB io _) = true := c
    rw [Bool.and_eq_true] at c
    have n : ((!t) && noOf io) = true := n
    rw [Bool.and_eq_true] at n
    exact flB_none c.2 n.2 r
  | t :: io, _, _, _, c, n, .own _ _ _ _ _ _ r => by
    have c : ((t == true) && flB io _) = true := c
    rw [Bool.and_eq_true] at c
    have n : ((!t) && noOf io) = true := n
    rw [Bool.and_eq_true] at n
    have e : t = true := eq_of_beq c.1
    subst e
    cases n.1
theorem outs_ok {P : List W → Nat → Prop} {H0 : Hp} : ∀ {bs : List Bool} {args : List R} {vs : List V} {as : List Addr} {slE : Sl} {σE : St}, ArgsR f g H0 sl σ args vs as → flB bs args = true → (∀ (i : Nat) v, bs[i]? = some true → vs[i]? = some v → σE[i]? = some (some v)) →
    (∀ (i : Nat) w, slE[i]? = some (some (w, true)) → ∃ a, σE[i]? = some (some (.ref a)) ∧ OA f.K f.G g' H' w a ∧ g'.F a = none ∧ a ∉ dAdr g'.D) → (outs bs slE).wb XE b P → ∃ ws, P ws b ∧ TmR f g' H' as ws
  | [], _, _, _, slE, _, .nil, _, _, _, h => ⟨[], by cases slE <;> exact h, .nil⟩
  | [], _, _, _, _, _, .frz _ _, c, _, _, _ => by cases c
  | [], _, _, _, _, _, .own _ _ _ _ _ _ _, c, _, _, _ => by cases c
  | _ :: _, _, _, _, _, _, .nil, c, _, _, _ => by cases c
  | t :: bs, _, _, _, slE, σE, .frz (vs := vs) rv r, c, hσ, ho, h => by
    have c : ((t == false) && flB bs _) = true := c
    rw [Bool.and_eq_true] at c
    have e : t = false := eq_of_beq c.1
    subst e
    cases slE with
    | nil => exact h.elim
    | cons o slE =>
      refine outs_ok (σE := σE.tail) (slE := slE) r c.2 (fun i v h1 h2 => ?_) (fun i w h1 => ?_) h
      · have := hσ (i + 1) v (by simpa using h1) (by simpa using h2)
        cases σE with
        | nil => simp at this
        | cons _ _ => simpa using this
      · obtain ⟨a, q1, q2⟩ := ho (i + 1) w (by simpa using h1)
        cases σE with
        | nil => simp at q1
        | cons _ _ => exact ⟨a, by simpa using q1, q2⟩
  | t :: bs, _, _, _, slE, σE, .own (a := a0) (vs := vs) h1' h2' h3' h4' h5' h6' r, c, hσ, ho, h => by
    have c : ((t == true) && flB bs _) = true := c
    rw [Bool.and_eq_true] at c
    have e : t = true := eq_of_beq c.1
    subst e
    cases slE with
    | nil => exact h.elim
    | cons o slE =>
      cases o with
      | none => exact h.elim
      | some wr =>
        obtain ⟨w1, fr⟩ := wr
        cases fr with
        | false => exact h.elim
        | true =>
          obtain ⟨ws, k, tm⟩ := outs_ok (σE := σE.tail) (slE := slE) r c.2 (fun i v h1 h2 => by
              have := hσ (i + 1) v (by simpa using h1) (by simpa using h2)
              cases σE with
              | nil => simp at this
              | cons _ _ => simpa using this) (fun i w h1 => by
              obtain ⟨a, q1, q2⟩ := ho (i + 1) w (by simpa using h1)
              cases σE with
              | nil => simp at q1
              | cons _ _ => exact ⟨a, by simpa using q1, q2⟩) (T.wb_bind.mp h)
          obtain ⟨a, q1, q2, q3, q4⟩ := ho 0 w1 rfl
          have := hσ 0 (.ref a0) rfl rfl
          rw [this] at q1
          cases q1
          exact ⟨w1 :: ws, k, .cons q2 q3 q4 tm⟩
end

/-! ### the defs of a text -/
/-- a def whose code object's table is told of -/
structure TabAt (base : Heap) (mg : Str → Option Value) (G : Gx) (qual : Str) (cd : Value) : Prop where
  ex : ∃ c P, cd = .ref c ∧ LamX.TabB base mg c P ∧ (P, (qual ++ ".<locals>.") ++ "<lambda>") ∈ G.tabs ∧ ∀ p ∈ G.tabs, p.1 = P → p.2 = (qual ++ ".<locals>.") ++ "<lambda>"
structure DefOk (tb : Tb) (fns : List Fk) (K : PySem.W.Frag) (mg : Str → Option Value) (base : Heap) (G : Gx) (j : Nat) (x : Str) : Prop where
  ex : ∃ a : Addr, mg x = some (.ref a) ∧ PySem.W.keepIn K (.ref a) = true ∧ G.fn j = some a ∧ (fns[j]? = some .begun ∨ ∃ (fd : FuncData) (qual : Str) (params : Arguments) (body : List Stmt) (scope : Scope) (N ps : List Str) (fn : Fn) (hb : Bool),
    FunD K x qual params body scope [] [] a fd ∧ FnScope N ps scope ∧ (Binds K fd ps [] ∧ BindsK K fd ps ∧ (tb.fpn j ≠ [] → tb.fpn j = ps)) ∧ fns[j]? = some (.code fn) ∧ fn.np = ps.length ∧ fn.ns = N.length ∧ fn.hk = hb ∧ (hb = true → TabAt base mg G qual fd.code) ∧ chkSs (tb.at_ hb) N scope (prOf fn.io 0) (noOf fn.io) fn.body body = true)
/-- a place from which n calls may go down -/
structure Pl (P : Program) (w : World) (K : PySem.W.Frag) (mg : Str → Option Value) (base : Heap) (n : Nat) (X : Cx) : Prop where
  prog : X.prog = P
  w : X.w = w
  K : X.K = K
  mg : X.mg = mg
  base : X.base = base
  calm : X.calm = true
  room : Room n X.A
  gu : X.A.guards = some []
structure Wd (P : Program) (w : World) (K : PySem.W.Frag) (mg : Str → Option Value) (base : Heap) (tb : Tb) (fns : List Fk) (cn : Nat → W) (G : Gx) (r0 : Nat) : Prop where
  smd : SmD K
  bi : ∀ x ∈ allBi, mg x = none
  con : ∀ (k : Nat) x, tb.cnm[k]? = some x → ∃ v u, mg x = some u ∧ RelV v u ∧ (∀ g : Gh, RV K G g (cn k) v) ∧ TupC K (cn k) v
  defs : ∀ (j : Nat) x, tb.fnm[j]? = some x → DefOk tb fns K mg base G j x
  gfn : ∀ (j : Nat) a, G.fn j = some a → j < clN → ∃ x, tb.fnm[j]? = some x
  ers : ∀ c, tb.ers.contains c = true → errF c ≠ [] → ∀ X', Pl P w K mg base r0 X' → Makes X' G c
  ero : ∀ c, tb.ers.contains c = true → ∀ X', Pl P w K mg base r0 X' → MakesO X' G c
  xib : ∀ (k : Nat) (z : String) (v : Bool), famL[k]? = some (z, v) → ∀ c C, G.fn (clN + c) = some C → PySem.W.kitOne K (.ref C) (.type z) = some v
  xis : (∀ c C, G.fn (clN + c) = some C → IsC K C) ∧ ∀ d x xs, tb.ers.contains d = true → errs[d]? = some (x, xs) → ∃ D, mg x = some (.ref D) ∧ ∀ c C, G.fn (clN + c) = some C → PySem.W.kitOne K (.ref C) (.ref D) = some (subE c d)
  xf : ∀ c C, G.fn (clN + c) = some C → XfC K C ∧ ∀ x xs y, errs[c]? = some (x, xs) → y ∈ xs → PySem.W.findIn K (.ref C) y = some none
  hdl : ∀ s x, selN tb s x = true → ∃ D, mg x = some (.ref D) ∧ ∀ c C, G.fn (clN + c) = some C → PySem.W.exmOne K (.ref C) (.ref D) = some (selB s c)
  lmk : ∀ k xs ps sp bd, tb.ckl k xs ps sp bd = true → G.lam k ⟨xs, ps, bd, sp⟩
  lms : ∀ k m, G.lam k m → LamSt m ∧ ∃ n e, fns[k]? = some (.lam n e) ∧ n = m.N.length + (lamPs m.params).length ∧ chkE tb.low (m.N ++ lamPs m.params) m.scope e m.body = true
  drw : ∃ a, mg "_law_draw" = some (.ref a) ∧ PySem.W.keepIn K (.ref a) = true ∧
    ∀ X' f', Pl P w K mg base r0 X' → f'.K = K → f'.G = G → ∀ g b sl σ H v (n : Int) (Q : VK), Rl f' g (b + 1) sl σ H → RV f'.K f'.G g .orc v → 0 < n → n < 1073741824 →
      (∀ d, d < n.toNat → ∀ g' H', g.le g' → Rl f' g' b sl σ H' → Q (.int d) H') → CallW X' (.ref a) [v, .int n] H Q
section
variable {P : Program} {w : World} {K : PySem.W.Frag} {mg : Str → Option Value} {base : Heap} {tb : Tb} {fns : List Fk} {cn : Nat → W} {G : Gx} {r0 : Nat}
/-- what the defs of the text give, from n levels -/
def Lv (P : Program) (w : World) (K : PySem.W.Frag) (mg : Str → Option Value) (base : Heap) (tb : Tb) (G : Gx) (r0 : Nat) (cl : Cl) (n : Nat) : Prop :=
  (∀ (j : Nat) x, tb.fnm[j]? = some x → ∃ a, mg x = some (.ref a) ∧ PySem.W.keepIn K (.ref a) = true ∧ G.fn j = some a ∧ ∀ (XE : XP) X f, Pl P w K mg base (n + r0) X → f.K = K → f.G = G → GivesE XE cl j a X f ∧ (tb.fpn j ≠ [] → GivesK XE cl j a X f (tb.fpn j))) ∧
    ∀ (XE : XP) X f, Pl P w K mg base (n + r0) X → f.K = K → f.G = G → GivesL XE cl X f
theorem Sib.pl {X X' : Cx} {n : Nat} (s : Sib X X') (p : Pl P w K mg base n X) : Pl P w K mg base n X' :=
  ⟨s.prog.trans p.prog, s.w.trans p.w, s.K.trans p.K, s.mg.trans p.mg, s.base.trans p.base, s.calm.trans p.calm, by rw [s.A]; exact p.room, by rw [s.A]; exact p.gu⟩
theorem Pl.mono {X : Cx} {n m : Nat} (p : Pl P w K mg base n X) (h : m ≤ n) : Pl P w K mg base m X := ⟨p.prog, p.w, p.K, p.mg, p.base, p.calm, p.room.mono h, p.gu⟩
/-- a context of the text -/
theorem Wd.xok (W0 : Wd P w K mg base tb fns cn G r0) {n : Nat} {cl : Cl} {io : Nat → List Bool} (ih : Lv P w K mg base tb G r0 cl n) {X : Cx} (pl : Pl P w K mg base (n + r0) X) {N : List Str} {sc : Scope} {f : Fm} {tb' : Tb} (hf : tb'.fnm = tb.fnm) (hc : tb'.cnm = tb.cnm) (hpn : tb'.fpn = tb.fpn) (her : tb'.ers = tb.ers) (hcl : ∀ k xs ps sp bd, tb'.ckl k xs ps sp bd = true → tb.ckl k xs ps sp bd = true)
    (hK : f.K = K) (hG : f.G = G) (hN : X.N = N) (nd : N.Nodup) (vis : ∀ x, visB sc x = true → Vis X.env.scope x) (glo : ∀ x, gloB sc x = true → Gl X x) (loc : ∀ x, locB sc x = true → Loc X.env.scope x ∧ (X.fn x = true ∨ X.env.scope.names.lookup x = some .local))
    (cf : ∀ x, (sc.names.lookup x = some .cell ∨ sc.names.lookup x = some .free) → (X.env.scope.names.lookup x = some .cell ∨ X.env.scope.names.lookup x = some .free)) (ll : ∀ x, sc.names.lookup x = some .local → X.env.scope.names.lookup x = some .local) (knd : X.env.scope.kind = .function)
    (tk : Takes X (wOf XE f)) (hea : tb'.hk = true → topSc sc = true → HearOk X f) : Xok XE tb' N cl io cn f X sc where
  bx := ⟨by rw [pl.K]; exact W0.smd, pl.K.trans hK.symm, by have := pl.room.un; omega, pl.gu, pl.calm⟩
  hh := pl.room.hd
  hN := hN
  nd := nd
  vis := vis
  glo := glo
  loc := loc
  cf := cf
  ll := ll
  knd := knd
  tk := tk
  bi := by rw [pl.mg]; exact W0.bi
  con := fun k x h => by
    rw [hc] at h
    obtain ⟨v, u, h1, h2, h3, h4⟩ := W0.con k x h
    exact ⟨v, u, by rw [pl.mg]; exact h1, h2, fun g => by rw [hK, hG]; exact h3 g, by rw [pl.K]; exact h4⟩
  fn := fun j x h => by
    rw [hf] at h
    obtain ⟨c, h1, h2, h4, h3⟩ := ih.1 j x h
    exact ⟨c, by rw [pl.mg]; exact h1, by rw [pl.K]; exact h2, by rw [hG]; exact h4, fun XE' X' f' sb k1 k2 => (h3 XE' X' f' (sb.pl pl) (k1.trans hK) (k2.trans hG)).1⟩
  fnk := fun j x h hp => by
    rw [hf] at h
    rw [hpn] at hp ⊢
    obtain ⟨c, h1, h2, h4, h3⟩ := ih.1 j x h
    exact ⟨c, by rw [pl.mg]; exact h1, by rw [pl.K]; exact h2, fun XE' X' f' sb k1 k2 => (h3 XE' X' f' (sb.pl pl) (k1.trans hK) (k2.trans hG)).2 hp⟩
  gfn := fun j a h hj => by
    rw [hf]
    exact W0.gfn j a (by rw [← hG]; exact h) hj
  lam := fun XE' X' f' sb k1 k2 => ih.2 XE' X' f' (sb.pl pl) (k1.trans hK) (k2.trans hG)
  xf := fun c C h => by rw [pl.K]; exact W0.xf c C (by rw [← hG]; exact h)
  xis := by rw [pl.K, pl.mg, hG, her]; exact W0.xis
  xib := fun k z v e c C h => by rw [pl.K]; exact W0.xib k z v e c C (by rw [← hG]; exact h)
  mko := fun c hc X' s => by rw [hG]; exact W0.ero c (by rw [← her]; exact hc) X' ((s.pl pl).mono (Nat.le_add_left ..))
  lmk := fun k xs ps sp bd h => by rw [hG]; exact W0.lmk k xs ps sp bd (hcl k xs ps sp bd h)
  hea := hea
  drw := by
    obtain ⟨c, h1, h2, h3⟩ := W0.drw
    exact ⟨c, by rw [pl.mg]; exact h1, by rw [pl.K]; exact h2, fun X' f' sb k1 k2 => h3 X' f' ((sb.pl pl).mono (Nat.le_add_left ..)) (k1.trans hK) (k2.trans hG)⟩
theorem vis_of {sc : Scope} {x : Str} (h : visB sc x = true) : Vis sc x := by
  unfold visB at h
  cases e : sc.names.lookup x with
  | none => rw [e] at h; cases h
  | some k =>
    rw [e] at h
    cases k <;> first
      | (cases h; done)
      | exact .inl e
      | exact .inr (.inl e)
      | exact .inr (.inr e)
theorem glo_of {sc : Scope} {x : Str} (h : gloB sc x = true) : sc.names.lookup x = some .globalImplicit := by
  unfold gloB at h
  cases e : sc.names.lookup x with
  | none => rw [e] at h; cases h
  | some k =>
    rw [e] at h
    cases k <;> first
      | (cases h; done)
      | rfl
theorem loc_of {sc : Scope} {x : Str} (h : locB sc x = true) : Loc sc x := by
  unfold locB at h
  cases e : sc.names.lookup x with
  | none => rw [e] at h; cases h
  | some k =>
    rw [e] at h
    cases k <;> first
      | (cases h; done)
      | exact .inl e
      | exact .inr e
/-- the context of a def's body -/
theorem Wd.fok (W0 : Wd P w K mg base tb fns cn G r0) {n : Nat} {cl : Cl} {io : Nat → List Bool} (ih : Lv P w K mg base tb G r0 cl n)
    {N ps : List Str} {scope : Scope} {qual : Str} {a : Addr} {cdv : Value} {A : Around} {outer : List Env} {s : Shared} {H : Hp} {f : Fm} {no : Bool} {E : XK} {hb : Bool} (S : FnScope N ps scope) (room : Room (n + r0) (A.deeper (PyProof.Rows.envOfC qual scope s.heap.objs.size a cdv))) (gu : A.guards = some []) (hK : f.K = K) (hG : f.G = G) (h0 : f.H0 = H) (nio : no = true → f.IO = []) (hE : ∀ cls d σ H, wOf XE f cls d σ H → E cls d H)
    (hT : hb = true → TabAt base mg G qual cdv) (hEn : hb = true → f.g0.E = envE (cxOf (CX P w) P w K mg base N qual scope a cdv A outer s H E)) : Fok XE (tb.at_ hb) N cl io cn f (cxOf (CX P w) P w K mg base N qual scope a cdv A outer s H E) scope no := by
  have pl : Pl P w K mg base (n + r0) (cxOf (CX P w) P w K mg base N qual scope a cdv A outer s H E) := ⟨rfl, rfl, rfl, rfl, rfl, rfl, room, gu⟩
  exact {
    toXok := W0.xok ih pl rfl rfl rfl rfl (fun _ _ _ _ _ h => h) hK hG rfl S.nd (fun x h => vis_of h) (fun x h => glo_of h) (fun x h => ⟨loc_of h, .inl rfl⟩) (fun x h => h) (fun x h => h) S.kind ((takes_of rfl rfl rfl rfl).imp hE) (fun h1 h2 => by
      obtain ⟨c, Pt, e1, e2, e3, e4⟩ := (hT h1).ex
      exact ⟨⟨c, Pt, e1, e2, by rw [hG]; exact e3, by rw [hG]; exact e4⟩, rfl, rfl, rfl, h0, fun _ => rfl, hEn h1⟩)
    hsc := rfl
    hp := passes_of rfl
    nio := nio
    mks := fun c hc he => by
      rw [hG]
      exact W0.ers c hc he _ (pl.mono (Nat.le_add_left ..))
    stk := rfl
    frm := rfl
    hdl := fun s x h => by
      obtain ⟨D, h1, h2⟩ := W0.hdl s x h
      exact ⟨D, h1, fun c C e => h2 c C (by rw [← hG]; exact e)⟩ }
theorem noClo_map : ∀ {ws : List W}, ((ws.map fun w => ((w, false) : R)).all fun r => !r.2 && noClo r.1) = true → noCloL ws = true
  | [], _ => rfl
  | w :: ws, h => by
    rw [List.map_cons, List.all_cons, Bool.and_eq_true] at h
    show (noClo w && noCloL ws) = true
    rw [Bool.and_eq_true]
    exact ⟨by simpa using h.1, noClo_map h.2⟩
/-- all defs, all lambdas -/
theorem fn_all (W0 : Wd P w K mg base tb fns cn G r0) : ∀ n : Nat, Lv P w K mg base tb G r0 (callN fns cn n) n
  | 0 => ⟨fun j x h => by
      obtain ⟨a, h1, h2, h3, _⟩ := (W0.defs j x h).ex
      exact ⟨a, h1, h2, h3, fun XE X f _ _ _ => ⟨fun g b sl σ H args vs as Q R ar q => q.elim, fun _ g b sl σ H args vs as Q R ar q => q.elim⟩⟩, fun XE X f _ _ _ g b sl σ H j ws es a vs Q R rv rvs q => q.elim⟩
  | n + 1 => by
    have ih := fn_all W0 n
    refine ⟨fun j x h => ?_, fun XE X f pl hK hG g b sl σ H j ws es a vs Q R rv rvs0 q => ?_⟩
    · obtain ⟨a, h1, h2, hGa, h3⟩ := (W0.defs j x h).ex
      refine ⟨a, h1, h2, hGa, fun XE X f pl hK hG => ?_⟩
      rcases h3 with h3 | ⟨fd, qual, params, body, scope, N, ps, fn, hb, F, S, ⟨bd, bdK, hpn⟩, hf, np, ns, hhk, hT, ck⟩
      · have no : ∀ {b args P}, ¬ (callN fns cn (n + 1) j args).wb XE b P := fun {b args P} q => by
          unfold callN at q
          rw [nth_eq, h3] at q
          exact q.elim
        exact ⟨fun g b sl σ H args vs as Q R ar q => (no q).elim, fun _ g b sl σ H args vs as Q R ar q => (no q).elim⟩
      · -- the def's promise: whatever the evaluator says
        have G1 : FnG P w K mg base (n + r0 + 1) a fd ps (fun vs H Q E => ∃ f g b sl σ args as, f.K = K ∧ f.G = G ∧ Rl f g b sl σ H ∧ ArgsR f g H sl σ args vs as ∧
            (callN fns cn (n + 1) j args).wb XE b (fun r b' => ∀ g' v H', g.le g' → Rl f g' b' sl σ H' → TmR f g' H' as r.2 → Vl f g' H' sl σ r.1 v → (r.1.2 = true → ∀ a ∈ as, v ≠ .ref a) → Q v H') ∧ ∀ cls d H', exK XE f g sl σ cls d H' → E cls d H') := by
          refine FnG.of F S (fun vs H Q E ⟨f, g, b, sl, σ, args, as, _, _, _, ar, q, _⟩ => ?_) fun cdv A outer s H vs Q E ecd room gu ⟨f, g, b, sl, σ, args, as, hK, hG, R, ar, q, hE⟩ => ?_
          · unfold callN at q
            rw [nth_eq, hf] at q
            obtain ⟨q1, _⟩ := T.wb_guard q
            rw [Bool.and_eq_true] at q1
            rw [← ar.len, ← np]
            exact Nat.eq_of_beq_eq_true q1.2
          · unfold callN at q
            rw [nth_eq, hf] at q
            obtain ⟨q1, q⟩ := T.wb_guard q
            rw [Bool.and_eq_true] at q1
            have la : args.length = fn.np := Nat.eq_of_beq_eq_true q1.2
            have lv := ar.len
            have lN : ps.length ≤ N.length := by
              have := congrArg List.length S.pre
              rw [List.length_take] at this
              omega
            have R1 : Rl (f.into g H as) g b (args.map some ++ List.replicate (fn.ns - fn.np) none) (start N vs) H := R.into ar (by rw [ns, np, la, np] at *; omega)
            cases hb with
            | false =>
              rw [hhk] at q
              have q : ((exSs (callN fns cn n) (ioOf fns) cn fn.body (args.map some ++ List.replicate (fn.ns - fn.np) none)).bind (fin fn.io)).wb XE b _ := q
              have fk := W0.fok (n := n) (cl := callN fns cn n) (io := ioOf fns) (f := f.into g H as) (no := noOf fn.io) (a := a) (qual := qual) (cdv := cdv) (A := A) (outer := outer) (s := s) (H := H) (E := E) (XE := XE) (hb := false) ih S room gu hK hG rfl (fun z => flB_none q1.1 z ar) (fun cls d σ' H' ⟨c, fs, g', b', x1, x2, x3⟩ => hE cls d H' ⟨c, fs, g', b', x1, x2, x3.le0, R.back ar x3.le0 x3⟩) (fun z => by cases z) (fun z => by cases z)
              refine (sndSs fn.body).run fk ck R1 (T.wb_mono (fun fl b' k => ?_) (T.wb_bind.mp q))
              have fin : ∀ {r : Ev.R × List W} {g' : Gh} {σ' : St} {sl' : Sl} {v : V} {H' : Hp} {b' : Nat}, g.le g' → Rl (f.into g H as) g' b' sl' σ' H' → Vl (f.into g H as) g' H' sl' σ' r.1 v → TmR f g' H' as r.2 → (∀ g' v H', g.le g' → Rl f g' b' sl σ H' → TmR f g' H' as r.2 → Vl f g' H' sl σ r.1 v → (r.1.2 = true → ∀ a ∈ as, v ≠ .ref a) → Q v H') → Q v H' := fun {r g' σ' sl' v H' b'} l R' vl tm k => by
                obtain ⟨v1, v2⟩ := vl.back R ar
                exact k g' v H' l (R.back ar l R') tm v1 v2
              have outk : ∀ {g' : Gh} {σ' : St} {sl' : Sl} {H' : Hp} {b' : Nat} {Pq : List W → Nat → Prop}, Rl (f.into g H as) g' b' sl' σ' H' → (∀ i ∈ prOf fn.io 0, σ'[i]? = (start N vs)[i]?) → (outs fn.io sl').wb XE b' Pq → ∃ ws, Pq ws b' ∧ TmR f g' H' as ws := fun {g' σ' sl' H' b' Pq} R' e k => by
                refine outs_ok (σE := σ') ar q1.1 (fun i v h1 h2 => ?_) (fun i u h1 => ?_) k
                · have := prOf_mem (io := fn.io) (k := 0) h1
                  rw [Nat.zero_add] at this
                  rw [e i this]
                  exact getB h2
                · obtain ⟨c, z1, z2, z3, z4, _⟩ := R'.own i u h1
                  exact ⟨c, z1, z2, z3, z4⟩
              cases fl with
              | brk sl' => exact k.elim
              | cont sl' => exact k.elim
              | nx sl' =>
                intro g' σ' H' l R' e
                obtain ⟨ws, k2, tm⟩ := outk R' e (T.wb_bind.mp k)
                exact fin (r := ((.non, false), ws)) l R' .non tm k2
              | ret r sl' =>
                intro g' σ' v H' l R' vl e
                obtain ⟨ws, k2, tm⟩ := outk R' e (T.wb_bind.mp k)
                exact fin (r := (r, ws)) l R' vl tm k2
            | true =>
              rw [hhk] at q
              obtain ⟨qa, q⟩ := T.wb_guard (show (T.guard (args.all fun r => noClo r.1) (cleanT ((exSs (callN fns cn n) (ioOf fns) cn fn.body (args.map some ++ List.replicate (fn.ns - fn.np) none)).bind (fin fn.io)))).wb XE b _ from q)
              have q := wb_clean q
              have R1e := R1.en (e := envE (cxOf (CX P w) P w K mg base N qual scope a cdv A outer s H E)) fun i u fr h => by
                have h := getA h
                exact List.all_eq_true.mp qa (u, fr) (List.mem_of_getElem? h)
              generalize hEN : envE (cxOf (CX P w) P w K mg base N qual scope a cdv A outer s H E) = eN at R1e
              have fk := W0.fok (n := n) (cl := callN fns cn n) (io := ioOf fns) (f := (f.into g H as).en eN) (no := noOf fn.io) (a := a) (qual := qual) (cdv := cdv) (A := A) (outer := outer) (s := s) (H := H) (E := E) (XE := fun c fs b => noCloL fs = true ∧ XE c fs b) (hb := true) ih S room gu hK hG rfl (fun z => flB_none q1.1 z ar)
                (fun cls d σ' H' ⟨c, fs, g', b', ⟨x0, x1⟩, x2, x3⟩ => hE cls d H' ⟨c, fs, g'.en g.E, b', x1, x2.en x0, le_unen x3.le0, R.back ar (le_unen x3.le0) x3.unen⟩) (fun z => by rw [← ecd]; exact hT z) (fun _ => hEN.symm)
              refine (sndSs fn.body).run fk ck R1e (T.wb_mono (fun fl b' k => ?_) (T.wb_bind.mp q))
              have fin : ∀ {r : Ev.R × List W} {g' : Gh} {σ' : St} {sl' : Sl} {v : V} {H' : Hp} {b' : Nat}, (g.en eN).le g' → Rl ((f.into g H as).en eN) g' b' sl' σ' H' → Vl ((f.into g H as).en eN) g' H' sl' σ' r.1 v → TmR f g' H' as r.2 → ((noClo r.1.1 = true ∧ noCloL r.2 = true) ∧ ∀ g' v H', g.le g' → Rl f g' b' sl σ H' → TmR f g' H' as r.2 → Vl f g' H' sl σ r.1 v → (r.1.2 = true → ∀ a ∈ as, v ≠ .ref a) → Q v H') → Q v H' := fun {r g' σ' sl' v H' b'} l R' vl tm ⟨⟨n1, n2⟩, k⟩ => by
                obtain ⟨v1, v2⟩ := (vl.unen n1).back R ar
                exact k (g'.en g.E) v H' (le_unen l) (R.back ar (le_unen l) R'.unen) (tm.en n2) v1 v2
              have outk : ∀ {g' : Gh} {σ' : St} {sl' : Sl} {H' : Hp} {b' : Nat} {XE' : XP} {Pq : List W → Nat → Prop}, Rl ((f.into g H as).en eN) g' b' sl' σ' H' → (∀ i ∈ prOf fn.io 0, σ'[i]? = (start N vs)[i]?) → (outs fn.io sl').wb XE' b' Pq → ∃ ws, Pq ws b' ∧ TmR f g' H' as ws := fun {g' σ' sl' H' b' XE' Pq} R' e k => by
                refine outs_ok (σE := σ') ar q1.1 (fun i v h1 h2 => ?_) (fun i u h1 => ?_) k
                · have := prOf_mem (io := fn.io) (k := 0) h1
                  rw [Nat.zero_add] at this
                  rw [e i this]
                  exact getB h2
                · obtain ⟨c, z1, z2, z3, z4, _⟩ := R'.own i u h1
                  exact ⟨c, z1, z2, z3, z4⟩
              cases fl with
              | brk sl' => exact k.elim
              | cont sl' => exact k.elim
              | nx sl' =>
                intro g' σ' H' l R' e
                obtain ⟨ws, k2, tm⟩ := outk R' e (T.wb_bind.mp k)
                exact fin (r := ((.non, false), ws)) l R' .non tm k2
              | ret r sl' =>
                intro g' σ' v H' l R' vl e
                obtain ⟨ws, k2, tm⟩ := outk R' e (T.wb_bind.mp k)
                exact fin (r := (r, ws)) l R' vl tm k2
        obtain ⟨e1, e2, e3, e4, e5, e6, room, gu⟩ := pl
        subst e1 e2 e3 e4 e5
        refine ⟨fun g b sl σ H args vs as Q R ar q => G1.callC (room.mono (by omega)) gu bd ⟨f, g, b, sl, σ, args, as, hK, hG, R, ar, q, fun cls d H' h => h⟩, fun hp g b sl σ H args vs as Q R ar q => ?_⟩
        rw [hpn hp]
        exact G1.callKw (room.mono (by omega)) gu bdK ⟨f, g, b, sl, σ, args, as, hK, hG, R, ar, q, fun cls d H' h => h⟩
    · -- a lambda
      have hl : ∃ m, f.G.lam j m := by
        cases rv with
        | clo h => exact ⟨_, h⟩
      obtain ⟨m0, hl0⟩ := hl
      obtain ⟨_, nn, e, hf, _, _⟩ := W0.lms j m0 (by rw [← hG]; exact hl0)
      unfold callN at q
      rw [nth_eq, hf] at q
      obtain ⟨q1, q⟩ := T.wb_guard q
      rw [Bool.and_eq_true] at q1
      have nc := noClo_map q1.2
      have q := T.wb_bind.mp q
      obtain ⟨e1, e2, e3, e4, e5, e6, room, gu⟩ := pl
      subst e1 e2 e3 e4 e5
      intro s us e0 r
      refine lam_call e0 (k := n + r0) (room.mono (by omega)) hK R (fun m hm => (W0.lms j m (by rw [← hG]; exact hm)).1) rv r (fun m hm hw => by
        obtain ⟨_, n2, e', hf2, en, _⟩ := W0.lms j m (by rw [← hG]; exact hm)
        rw [hf] at hf2
        cases hf2
        have q2 := Nat.eq_of_beq_eq_true q1.1
        rw [List.length_map, List.length_append, rvs0.len] at q2
        omega) fun m C xs qn cells c' hm z hF lx rvs room' => ?_
      obtain ⟨S, n2, e', hf2, en, ck⟩ := W0.lms j m (by rw [← hG]; exact hm)
      rw [hf] at hf2
      cases hf2
      have R' := R.cut (sl' := ((ws ++ es).map fun w => ((w, false) : Ev.R)).map some) (σ' := (xs ++ vs).map some) z hF (by rw [List.length_map, List.length_map, List.length_map, (rvs.append rvs0).len]) (fun i w hw => by
        rw [List.getElem?_map, List.getElem?_map] at hw
        cases hi : (ws ++ es)[i]? with
        | none => rw [hi] at hw; cases hw
        | some w0 =>
          rw [hi] at hw
          cases hw
          obtain ⟨v, h1, h2⟩ := (RVs.cut z hF (rvs.append rvs0) nc).get hi
          exact ⟨rfl, v, by rw [List.getElem?_map, h1]; rfl, h2⟩)
      have oX := W0.xok (XE := XE) (n := n) (cl := callN fns cn n) (io := ioOf fns) ih (X := cxL X.prog X.w X.K X.mg X.base m qn cells a c' X.A X.stack s (cutC C H) (fun cls d H' => (∀ c u, C c = some u → H' c = none) → exK XE f g sl σ cls d (ov C H'))) ⟨rfl, rfl, rfl, rfl, rfl, rfl, room', gu⟩ (N := m.N ++ lamPs m.params) (sc := m.scope) (f := f.into (g.cut C) (cutC C H) []) (tb' := tb.low) rfl rfl rfl rfl (fun _ _ _ _ _ h => by cases h) hK hG rfl S.nd
        (fun x h => vis_of h) (fun x h => glo_of h) (fun x h => by
          rcases loc_of h with y | y
          · exact ⟨.inl y, .inr y⟩
          · exact absurd rfl (S.nce _ (PySem.mem_of_lookup y))) (fun x h => h) (fun x h => h) S.kind
        ((takes_of rfl rfl rfl rfl).imp fun cls d σ' H' ⟨c, fs, g', b', x1, x2, x3⟩ nH => by
          obtain ⟨l1, l2, R3⟩ := R.uncut z hF nH x3.le0 x3
          exact ⟨c, fs, g'.ov C, b', x1, x2.le l2, l1, R3⟩) (fun h => by cases h)
      refine (sndE e _).1.run oX ck R' (T.wb_mono (fun p b' k g' v H' l R2 vl nH => ?_) q)
      obtain ⟨l1, l2, R3⟩ := R.uncut z hF nH l R2
      have k : ∀ g' v H', g.le g' → Rl f g' b' sl σ H' → Vl f g' H' sl σ p.1 v → Q v H' := k
      refine k _ v _ l1 R3 ?_
      obtain ⟨⟨w, fr⟩, sl2⟩ := p
      cases fr with
      | false => exact RV.le l2 vl
      | true =>
        obtain ⟨a', rfl, oa, v1, v2, v3, _⟩ := vl
        obtain ⟨o, eo⟩ := oa.some
        have outA : C a' = none := by
          cases y : C a' with
          | none => rfl
          | some u =>
            rw [nH a' u y] at eo
            cases eo
        have v3 : cutC C H a' = none := v3
        rw [cut_out outA] at v3
        refine ⟨a', rfl, oa.le l2 (fun o ho => by rw [ov_out outA]; exact ho), ?_, v2, R.free0 v3, R.freeS v3⟩
        show ov C g'.F a' = none
        rw [ov_out outA]
        exact v1
end
end Ev
end
end
section
set_option Elab.async false
set_option linter.all false
set_option maxRecDepth 100000
set_option maxHeartbeats 2000000
/-! EvLaw: a law's end over the evaluator. -/
noncomputable section
namespace Ev
open PySem PySem.Spec L2
set_option autoImplicit false
theorem cx_no {P : Program} {w : World} {outer : List Env} {H : Hp} {s s' : Shared} {e : Value} (h : CX P w outer H s (fun _ _ _ => False) e s') : False := by
  unfold CX at h
  obtain ⟨_, _, _, _, _, _, _, _, _, _, _, _, z⟩ := h
  simp at z
/-- at the law's beginning: nothing is told but the script and the tables of code objects -/
def Only2 (cs : List (Addr × Addr)) (H : Hp) : Prop := ∀ c, H c = none ∨ (∃ p ∈ cs, p.2 = c ∧ H c = some (.tbl #[])) ∨ ∃ o xs, H c = some (.frz o (.lst xs))
def oTab : Obj := { cls := .none, data := .fields #[] }
/-- the law's def is called by the caller, whose place is known; cs: code objects and their tables -/
theorem callG {P : Program} {w : World} {K : PySem.W.Frag} {mg mb : Str → Option Value} {k : Nat} {fa a : Addr} {fd : FuncData} {x : Str} {sp : Sp} {s : Shared} {us : List Value} {ns : List Int} {cs : List (Addr × Addr)}
    (inK : K.In s.heap) (nsM : s.heap.Ns mainGlobals mg) (nsB : s.heap.Ns builtinsNs mb) (boot : ∀ x : Str, x ≠ "__name__" → mb x = bootBuiltins x) (noL : s.heap.NoLimit) (noG : s.gens = #[])
    (tabs : ∀ p ∈ cs, s.heap.get? p.2 = some oTab) (noK : ∀ p ∈ cs, K.lookup p.2 = none) (hds : ∀ p ∈ cs, PySem.W.CodeHd s.heap p.1 p.2)
    (bmn : ∃ (bm : Addr) (ob : Obj), mg "__builtins__" = some (.ref bm) ∧ bm ≠ builtinsNs ∧ s.heap.get? bm = some ob ∧ ob.cls = .type "module" ∧ ob.dict = some builtinsNs ∧ ob.data = .plain)
    (ha : s.heap.get? a = some { cls := .type "list", data := .seq us.toArray }) (hin : PyProof.Rows.IntsAre us ns) (hl : ns.length ≤ sizeLine) (room : Room k callerA)
    (F : ∀ base : Heap, K.In base → base.Ns mainGlobals mg → (∀ p ∈ cs, LamX.TabB base mg p.1 p.2) → FnG P w K mg base k fa fd [x] sp) (bind : ∀ (s : Shared) (u : Value), BindsTo s fd ⟨[u], []⟩ [(x, u)])
    (want : ∀ H : Hp, Only2 cs H → (∀ p ∈ cs, H p.2 = some (.tbl #[])) → SqL K H a (ns.map V.int) → sp [.ref a] H (fun v _ => v = .bl true) fun _ _ _ => False) :
    codeAny (model P w) callerA (.call (.ref fa) ⟨[.ref a], []⟩) (fun r s' => r = .ok (.ret (.bool true)) ∧ OldK s.heap s'.heap ∧ s'.os = s.os ∧ PyProof.Rows.AllBare s'.gens) s := by
  have notTab : ∀ p ∈ cs, p.2 ≠ a := fun p hp z => by
    have e := tabs p hp
    rw [z, ha] at e
    exact nomatch (show Data.seq us.toArray _ = Data.fields #[] from congrArg Obj.data (Option.some.inj e))
  -- H: nothing is told but the tables and the script (or the tables alone, where the script is written in the module)
  have core : ∀ H : Hp, Only2 cs H → (∀ p ∈ cs, H p.2 = some (.tbl #[])) → SqL K H a (ns.map V.int) → HOk P w H s.heap → (∀ c, H c ≠ none → (c = a ∧ K.lookup a = none) ∨ ∃ p ∈ cs, p.2 = c) →
      codeAny (model P w) callerA (.call (.ref fa) ⟨[.ref a], []⟩) (fun r s' => r = .ok (.ret (.bool true)) ∧ OldK s.heap s'.heap ∧ s'.os = s.os ∧ PyProof.Rows.AllBare s'.gens) s := fun H only tb sq hok one => by
    -- whatever is neither a list nor such a table isn't told of
    have freeOf : ∀ {c : Addr} {o : Obj}, s.heap.get? c = some o → (∀ l n, o.data ≠ .seq l n) → o ≠ oTab → H c = none := fun {c o} e d1 d2 => by
      cases q : H c with
      | none => rfl
      | some u =>
        rcases one c (by rw [q]; exact Option.some_ne_none _) with ⟨ec, _⟩ | ⟨p, hp, ec⟩
        · subst ec
          rw [ha] at e
          cases e
          exact (d1 _ _ rfl).elim
        · subst ec
          rw [tabs p hp] at e
          cases e
          exact (d2 rfl).elim
    have dictFree : ∀ {c : Addr} {o : Obj} {es : Array DictEntry} {ep : Nat}, s.heap.get? c = some o → o.data = .dict es ep → H c = none := fun {c o es ep} e d =>
      freeOf e (fun l n z => by rw [d] at z; cases z) fun z => by rw [z] at d; cases d
    have nsH : ∀ {c : Addr} {m : Str → Option Value}, s.heap.Ns c m → (hidT s.heap H).Ns c m := fun {c m} ⟨o, es, ep, e, d, r⟩ => ⟨o, es, ep, hidT_get e (dictFree e d), d, r⟩
    have inH : K.In (hidT s.heap H) := fun c o e => hidT_get (inK c o e) (by
      cases q : H c with
      | none => rfl
      | some u =>
        rcases one c (by rw [q]; exact Option.some_ne_none _) with ⟨ec, lk⟩ | ⟨p, hp, ec⟩
        · subst ec
          rw [lk] at e
          cases e
        · subst ec
          rw [noK p hp] at e
          cases e)
    have md : Mod K mg (hidT s.heap H) := by
      obtain ⟨mc, l1, l2⟩ := noL
      exact ⟨inH, nsH nsM, ⟨mb, nsH nsB, boot⟩, ⟨mc, nsH l1, l2⟩⟩
    have tB : ∀ p ∈ cs, LamX.TabB (hidT s.heap H) mg p.1 p.2 := fun p hp => by
      obtain ⟨og, eg, epg, hg1, hg2, _⟩ := nsM
      have nG : mainGlobals ≠ p.2 := fun z => by
        rw [z, tabs p hp] at hg1
        cases hg1
        cases hg2
      obtain ⟨bm, ob, b1, b2, b3, b4, b5, b6⟩ := bmn
      obtain ⟨o, vs, fl, tf, fg, tg, inF, tx, tt, c1, c2, c3, c4, c5, c6, c7, c8, c9, c10⟩ := hds p hp
      refine ⟨⟨o, vs, fl, tf, fg, tg, inF, tx, tt, hidT_get c1 (freeOf c1 (fun l n z => by rw [c3] at z; cases z) fun z => ?_), c2, c3, c4, c5, c6, c7, c8, c9, c10⟩, ⟨bm, ob, b1, b2, fun z => ?_, fun z => ?_, hidT_get b3 (freeOf b3 (fun l n z => by rw [b6] at z; cases z) fun z => by rw [z] at b6; cases b6), b4, b5, b6⟩, nG⟩
      · rw [z] at c2
        cases c2
      · rw [z, hg1] at b3
        cases b3
        rw [hg2] at b6
        cases b6
      · rw [z, tabs p hp] at b3
        cases b3
        cases b6
    have e0 : Env0 P w K mg (hidT s.heap H) callerA [] s H := { frames := rfl, mod := md, bs := fun c o e => of_hidT e, bsz := Nat.le_of_eq (hidT_size _ _), funs := trivial, frf := fun c z => (List.not_mem_nil (show c ∈ ([] : List Addr) from z)).elim, hok := hok, bare := .of_eq noG }
    refine codeAny_mono ((F _ inH (nsH nsM) tB).run callerA [] s H ⟨[.ref a], []⟩ [.ref a] [.ref a] _ (fun _ _ _ => False) room rfl e0 (bind s (.ref a)) (.cons rfl .nil) (want H only tb sq)) fun r s' z => ?_
    cases r with
    | error e => exact (cx_no z).elim
    | ok fl =>
      cases fl with
      | next => exact z.elim
      | brk => exact z.elim
      | cont => exact z.elim
      | ret u =>
        obtain ⟨v, H', os, bare, un, hok', rv, q⟩ := z
        have q : v = .bl true := q
        subst q
        have eu : u = Value.bool true := rv
        subst eu
        -- an object stands as it stood, or it is a table that has grown
        have kept : ∀ c o, s.heap.get? c = some o → s'.heap.get? c = some o ∨ ∃ p ∈ cs, p.2 = c ∧ o = oTab ∧ ∃ more : Array Value, s'.heap.get? c = some { cls := .none, data := .fields more } := fun c o e => by
          rcases only c with n | ⟨p, hp, ec, n⟩ | ⟨ob, xs, n⟩
          · exact .inl (un.keep c o e n (fun y => (List.not_mem_nil (show c ∈ ([] : List Addr) from y)).elim) (fun y => (List.not_mem_nil y).elim))
          · subst ec
            obtain ⟨more, n'⟩ := un.tbls p.2 _ n
            rw [tabs p hp] at e
            cases e
            exact .inr ⟨p, hp, rfl, rfl, _, hok' p.2 _ n'⟩
          · have n' := un.frzs c ob _ n
            have g1 := (hok c _ n).1
            have g2 := (hok' c _ n').1
            rw [e] at g1
            cases g1
            exact .inl g2
        refine ⟨rfl, ⟨fun c o e => ?_, fun c o e => ?_⟩, os, bare⟩
        · rcases kept c o e with y | ⟨p, hp, ec, eo, more, y⟩
          · exact .inl y
          · subst ec eo
            exact .inr (.inl ⟨((hds p hp).tab (tabs p hp)).isCodeTable, rfl, #[], more, rfl, by rw [Array.empty_append]; exact y⟩)
        · rcases kept c o e with y | ⟨_, _, _, _, more, y⟩
          · exact ⟨o, y⟩
          · exact ⟨_, y⟩
  have rel := vals_ints hin
  have tabOr : ∀ c : Addr, (∃ p ∈ cs, p.2 = c) ∨ ∀ p ∈ cs, p.2 ≠ c := fun c => by
    by_cases h : ∃ p ∈ cs, p.2 = c
    · exact .inl h
    · exact .inr fun p hp e => h ⟨p, hp, e⟩
  obtain ⟨T, hT⟩ : ∃ T : Addr → Bool, ∀ c, T c = true ↔ ∃ p ∈ cs, p.2 = c := by
    classical
    exact ⟨fun c => decide (∃ p ∈ cs, p.2 = c), fun c => ⟨fun h => of_decide_eq_true h, fun h => decide_eq_true h⟩⟩
  cases lk : K.lookup a with
  | some o =>
    have e := inK a o lk
    rw [ha] at e
    cases e
    have hat : ∀ {c : Addr} {u : HO}, (if T c = true then some (HO.tbl #[]) else none) = some u → (∃ p ∈ cs, p.2 = c) ∧ u = .tbl #[] := fun {c u} z => by
      split at z
      · rename_i e
        cases z
        exact ⟨(hT c).mp e, rfl⟩
      · cases z
    refine core (fun c => if T c = true then some (.tbl #[]) else none) (fun c => ?_) (fun p hp => if_pos ((hT _).mpr ⟨p, hp, rfl⟩)) (.inr ⟨_, us.toArray, _, lk, rfl, rfl, rfl, by rw [List.size_toArray, hin.length]; exact hl, by simpa using rel⟩) (fun c u z => ?_) fun c z => ?_
    · by_cases h : T c = true
      · obtain ⟨p, hp, e⟩ := (hT c).mp h
        exact .inr (.inl ⟨p, hp, e, if_pos h⟩)
      · exact .inl (if_neg h)
    · obtain ⟨⟨p, hp, rfl⟩, rfl⟩ := hat z
      exact tabs p hp
    · by_cases h : T c = true
      · exact .inr ((hT c).mp h)
      · exact (z (if_neg h)).elim
  | none =>
    have hat : ∀ {c : Addr} {u : HO}, (if c = a then some (HO.frz { cls := .type "list", data := .seq us.toArray } (.lst (ns.map V.int))) else if T c = true then some (HO.tbl #[]) else none) = some u → (c = a ∧ u = .frz { cls := .type "list", data := .seq us.toArray } (.lst (ns.map V.int))) ∨ (∃ p ∈ cs, p.2 = c) ∧ u = .tbl #[] := fun {c u} z => by
      split at z
      · rename_i e
        cases z
        exact .inl ⟨e, rfl⟩
      · split at z
        · rename_i e
          cases z
          exact .inr ⟨(hT c).mp e, rfl⟩
        · cases z
    refine core (fun c => if c = a then some (.frz { cls := .type "list", data := .seq us.toArray } (.lst (ns.map V.int))) else if T c = true then some (.tbl #[]) else none) (fun c => ?_) (fun p hp => ?_) (.inl (.inr ⟨_, if_pos rfl⟩)) (fun c u z => ?_) fun c z => ?_
    · by_cases e : c = a
      · exact .inr (.inr ⟨_, _, if_pos e⟩)
      · by_cases h : T c = true
        · obtain ⟨p, hp, e2⟩ := (hT c).mp h
          exact .inr (.inl ⟨p, hp, e2, (if_neg e).trans (if_pos h)⟩)
        · exact .inl ((if_neg e).trans (if_neg h))
    · exact (if_neg (notTab p hp)).trans (if_pos ((hT _).mpr ⟨p, hp, rfl⟩))
    · rcases hat z with ⟨rfl, rfl⟩ | ⟨⟨p, hp, rfl⟩, rfl⟩
      · exact ⟨ha, by rw [List.length_map]; exact hl, us, _, rel, ha⟩
      · exact tabs p hp
    · by_cases e : c = a
      · exact .inl ⟨e, lk⟩
      · by_cases h : T c = true
        · exact .inr ((hT c).mp h)
        · exact (z ((if_neg e).trans (if_neg h))).elim
/-- a law, from its def's promise -/
theorem walkG {l : PySem.W.OpenLaw} {n k : Nat} {q : Program} {loose : List Str} {XP : (Str → Option Value) → Heap → Prop} {YP : World → Heap → Prop} {d : DefRec} {x : Str}
    (hn : l.most = some n) (hn2 : n ≤ sizeLine) (hdf : d.params.defaults = []) (room : Room k callerA)
    (F : ∀ (w : World) (mg : Str → Option Value) (fa : Addr) (h : Heap), YP w h → h.Ns mainGlobals mg → mg d.name = some (.ref fa) →
      ∃ (K : PySem.W.Frag) (fd : FuncData) (sp : Sp) (cs : List (Addr × Addr)), K.In h ∧ (∀ p ∈ cs, h.get? p.2 = some oTab) ∧ (∀ p ∈ cs, K.lookup p.2 = none) ∧ (∀ p ∈ cs, PySem.W.CodeHd h p.1 p.2) ∧ (∀ (s : Shared) (u : Value), BindsTo s fd ⟨[u], []⟩ [(x, u)]) ∧
        (∀ (H : Hp) (a : Addr) (ns : List Int), ns.length ≤ n → Only2 cs H → (∀ p ∈ cs, H p.2 = some (.tbl #[])) → SqL K H a (ns.map V.int) → sp [.ref a] H (fun v _ => v = .bl true) fun _ _ _ => False) ∧
        ∀ base : Heap, K.In base → base.Ns mainGlobals mg → (∀ p ∈ cs, LamX.TabB base mg p.1 p.2) → FnG l.prog w K mg base k fa fd [x] sp) :
    PySem.W.WalkO q loose XP YP l.row.toRowW d [] (fun f vs => PySem.call f vs) := by
  refine Att.attach_call hn hdf fun w _ s mg mb fa o pm cd doc a us ns G Y _ _ _ hmg hobj hints hlen hg => ?_
  obtain ⟨K, fd, sp, cs, inK, t1, t2, t3, bind, want, hF⟩ := F w mg fa _ Y G.T.g hmg
  exact callG inK G.T.g G.T.b G.T.builtins G.T.nolimit hg t1 t2 t3 G.T.bmain hobj hints (Nat.le_trans hlen hn2) room hF bind fun H only tb sq => want H a ns hlen only tb sq
end Ev
end
end
section
set_option Elab.async false
set_option linter.all false
set_option maxRecDepth 100000
set_option maxHeartbeats 2000000
/-! EvTop: the law's own def: what stands ahead of the drawing state, the drawing state, what stands behind it. -/
noncomputable section
namespace Ev
open PySem L2
set_option autoImplicit false
variable {XE : XP}
section
variable {tb : Tb} {N : List Str} {cl : Cl} {io : Nat → List Bool} {cn : Nat → W} {f : Fm} {pr : List Nat} {no : Bool} {X : Cx} {sc : Scope}
theorem pre_ok (o : Fok XE tb N cl io cn f X sc no) {rest : List Stmt} {D : Ends} : ∀ {s : Sms} {st : List Stmt}, chkSs tb N sc pr no s st = true → ∀ {sl : Sl} {σ : St} {H : Hp} {g : Gh} {b : Nat}, Rl f g b sl σ H →
    (exSs cl io cn s sl).wb XE b (FlOk f g pr σ { D with nx := fun σ' H' => tWSs X rest D σ' H' }) → tWSs X (st ++ rest) D σ H
  | .nil, st, c, sl, σ, H, g, b, R, h => by
    have c : st.isEmpty = true := by
      unfold chkSs at c
      exact c
    rw [List.isEmpty_iff] at c
    subst c
    exact h g σ H (Gh.le.refl g) R fun _ _ => rfl
  | .cons s r, st, c, sl, σ, H, g, b, R, h => by
    unfold chkSs at c
    cases st with
    | nil => cases c
    | cons s' r' =>
      dsimp only at c
      rw [Bool.and_eq_true] at c
      rw [List.cons_append]
      refine of_pss (pss_cons ps_w pss_w) ((sndS s).run o c.1 R (T.wb_mono (fun fl b' k => ?_) (T.wb_bind.mp (show (sSeq _ _ sl).wb XE b _ from h))))
      cases fl with
      | nx sl2 => exact fun g2 σ2 H2 l2 R2 e2 => pre_ok o c.2 R2 (T.wb_mono (fun fl b3 k3 => FlOk.mono l2 e2 k3) k)
      | brk sl2 => exact fun g2 σ2 H2 l2 R2 e2 => (show FlOk f g pr σ _ (.brk sl2) b' from k) g2 σ2 H2 l2 R2 e2
      | cont sl2 => exact fun g2 σ2 H2 l2 R2 e2 => (show FlOk f g pr σ _ (.cont sl2) b' from k) g2 σ2 H2 l2 R2 e2
      | ret r2 sl2 => exact fun g2 σ2 v H2 l2 R2 vl e2 => (show FlOk f g pr σ _ (.ret r2 sl2) b' from k) g2 σ2 v H2 l2 R2 vl e2
end
theorem T.wb_le {α : Type} {Q : α → Nat → Prop} : ∀ {t : T α} {b : Nat}, t.wb XE b Q → t.wb XE b (fun a b' => b' ≤ b ∧ Q a b')
  | .ok a, b, h => ⟨Nat.le_refl _, h⟩
  | .exc _ _, _, h => h
  | .stk, _, h => h
  | .draw l k, 0, h => h
  | .draw l k, b + 1, h => fun d hd => T.wb_mono (fun a b' ⟨h1, h2⟩ => ⟨Nat.le_succ_of_le h1, h2⟩) (T.wb_le (h d hd))
/-- a law's body in two parts: ahead, i: the slot of the drawing state, behind -/
structure Lw where
  ns : Nat
  pre : Sms
  i : Nat
  post : Sms
/-- what the law comes to, of a script of c numbers -/
def fin2 : Fl → T R
  | .ret r _ => .ok r
  | _ => .stk
def isScr (c : Nat) : R → Bool
  | (.scr n, false) => Nat.beq n c
  | _ => false
def lawN (fns : List Fk) (cn : Nat → W) (l : Lw) (n c : Nat) : T R :=
  (exSs (callN fns cn n) (ioOf fns) cn l.pre (some (.scr c, false) :: List.replicate (l.ns - 1) none)).bind fun fl => match fl with
    | .nx sl => (rd sl 0).bind fun r => T.guard (isScr c r) ((exSs (callN fns cn n) (ioOf fns) cn l.post (sett sl l.i (some (.orc, false)))).bind fin2)
    | .ret r _ => .ok r
    | _ => .stk
/-- m = _law_begun(script) -/
def begB (N : List Str) (sc : Scope) (i : Nat) (st : Stmt) : Bool := match asAsg st with
  | some (t, e) => (match asName t with
    | some m => (match calls sc "_law_begun" e with
      | some [a] => (match asName a with
        | some x => atB N 0 x && (visB sc x && (okN x && (atB N i m && locB sc m)))
        | none => false)
      | _ => false)
    | none => false)
  | none => false
/-- the drawing state's beginning -/
def Begins (P : Program) (w : World) (K : PySem.W.Frag) (mg : Str → Option Value) (base : Heap) (r0 : Nat) : Prop :=
  ∃ a, mg "_law_begun" = some (.ref a) ∧ PySem.W.keepIn K (.ref a) = true ∧ ∀ X, Pl P w K mg base r0 X → ∀ (H : Hp) (p : Addr) (ns : List Int) (Q : VK), SqL K H p (ns.map V.int) → ns.length ≤ 63 →
    (∀ d H', Same H H' → (∀ c ∈ dAdr (some d), H c = none) → OrcAt BIG d H' → Q (.ref d.1) H') → CallW X (.ref a) [.ref p] H Q
section
variable {P : Program} {w : World} {K : PySem.W.Frag} {mg : Str → Option Value} {base : Heap} {tb : Tb} {fns : List Fk} {cn : Nat → W} {G : Gx} {r0 n : Nat}
/-- without the tables -/
def untb (H : Hp) : Hp := fun c => match H c with
  | some (.tbl _) => none
  | o => o
theorem untb_some {H : Hp} {c : Addr} {o : HO} (h : untb H c = some o) : H c = some o ∧ ∀ ps, o ≠ .tbl ps := by
  unfold untb at h
  split at h
  · cases h
  · rename_i hn
    exact ⟨h, fun ps e => hn ps (by rw [h, e])⟩
theorem untb_of {H : Hp} {c : Addr} {o : HO} (h : H c = some o) (n : ∀ ps, o ≠ .tbl ps) : untb H c = some o := by
  unfold untb
  split
  · rename_i ps e
    rw [h] at e
    exact (n ps (Option.some.inj e)).elim
  · exact h
theorem sql_untb {K : PySem.W.Frag} {H : Hp} {p : Addr} {xs : List V} (h : SqL K H p xs) : SqL K (untb H) p xs := by
  rcases h with (h | ⟨o, h⟩) | h
  · exact .inl (.inl (untb_of h fun _ z => nomatch z))
  · exact .inl (.inr ⟨o, untb_of h fun _ z => nomatch z⟩)
  · exact .inr h
theorem law_ok (W0 : Wd P w K mg base tb fns cn G r0) (BG : Begins P w K mg base r0) {a : Addr} {fd : FuncData} {qual x : Str} {params : Arguments} {scope : Scope} {N : List Str} {pre' post' : List Stmt} {stB : Stmt} {l : Lw} {xs : Str}
    {hb : Bool} (F : FunD K x qual params (pre' ++ stB :: post') scope [] [] a fd) (S : FnScope N [xs] scope) (hns : l.ns = N.length) (c1 : chkSs (tb.at_ hb) N scope [] false l.pre pre' = true) (c2 : begB N scope l.i stB = true) (c3 : chkSs (tb.at_ hb) N scope [] false l.post post' = true) (hT : hb = true → TabAt base mg G qual fd.code)
    (h : ∀ c, c ≤ 63 → (lawN fns cn l n c).wb T.noX BIG (fun r _ => r = (.bl true, false))) :
    FnG P w K mg base (n + r0 + 1) a fd [xs] (fun vs H Q _ => ∃ (p : Addr) (ns : List Int), vs = [.ref p] ∧ ns.length ≤ 63 ∧ SqL K H p (ns.map V.int) ∧ LamX.Tabs G.tabs H ∧ ∀ H', Q (.bl true) H') := by
  refine FnG.of F S (fun vs H Q E ⟨p, ns, e, _⟩ => by rw [e]; rfl) fun cdv A outer s H vs Q E ecd room gu ⟨p, ns, ev, hl, sq, tbs, hQ⟩ => ?_
  subst ev
  obtain ⟨n0, hN0⟩ : ∃ m, N.length = m + 1 := by
    have := congrArg List.length S.pre
    rw [List.length_take, List.length_singleton] at this
    exact ⟨N.length - 1, by omega⟩
  obtain ⟨eN, hEN⟩ : ∃ z, z = envE (cxOf (CX P w) P w K mg base N qual scope a cdv A outer s H E) := ⟨_, rfl⟩
  have f0 := W0.fok (n := n) (cl := callN fns cn n) (io := ioOf fns) (f := ⟨K, G, H, ⟨untb H, none, eN⟩, [], true⟩) (no := false) (a := a) (qual := qual) (cdv := cdv) (A := A) (outer := outer) (s := s) (H := H) (XE := T.noX) (E := E) (hb := hb) (fn_all W0 n) S room gu rfl rfl rfl (fun z => by cases z) (fun cls d σ H' ⟨_, _, _, _, z, _⟩ => z.elim) (fun z => by rw [← ecd]; exact hT z) (fun _ => hEN)
  have f1 := W0.fok (n := n) (cl := callN fns cn n) (io := ioOf fns) (f := ⟨K, G, H, ⟨untb H, none, eN⟩, [], false⟩) (no := false) (a := a) (qual := qual) (cdv := cdv) (A := A) (outer := outer) (s := s) (H := H) (XE := T.noX) (E := E) (hb := hb) (fn_all W0 n) S room gu rfl rfl rfl (fun z => by cases z) (fun cls d σ H' ⟨_, _, _, _, z, _⟩ => z.elim) (fun z => by rw [← ecd]; exact hT z) (fun _ => hEN)
  have rv0 : RV K G ⟨untb H, none, eN⟩ (.scr ns.length) (.ref p) := .scr (sql_untb sq) rfl
  have R0 : Rl ⟨K, G, H, ⟨untb H, none, eN⟩, [], true⟩ ⟨untb H, none, eN⟩ BIG (some (.scr ns.length, false) :: List.replicate (l.ns - 1) none) (start N [.ref p]) H := {
    le0 := Gh.le.refl _
    sub := fun c o h => (untb_some h).1
    kee := fun _ _ h _ _ => .inl h
    tab := tbs
    new := fun _ _ h => .inl h
    nT := fun c ps h => (untb_some h).2 ps rfl
    dF := fun _ h => (List.not_mem_nil h).elim
    orc := fun _ h => by cases h
    d0 := fun _ h => (List.not_mem_nil h).elim
    dn := fun _ => rfl
    ioS := fun _ h => (List.not_mem_nil h).elim
    len := by
      show (some (W.scr ns.length, false) :: List.replicate (l.ns - 1) (none : Option (W × Bool))).length = (List.map some [V.ref p] ++ List.replicate (N.length - [V.ref p].length) none).length
      simp only [List.length_cons, List.length_replicate, List.length_append, List.length_map, List.length_nil]
      omega
    frz := fun i w e => by
      cases i with
      | zero =>
        have e : some (some (W.scr ns.length, false)) = some (some (w, false)) := by simpa using e
        cases e
        exact ⟨.ref p, rfl, rv0⟩
      | succ i =>
        rw [List.getElem?_cons_succ, List.getElem?_replicate] at e
        split at e <;> cases e
    own := fun i w e => by
      cases i with
      | zero => simp at e
      | succ i =>
        rw [List.getElem?_cons_succ, List.getElem?_replicate] at e
        split at e <;> cases e
    inj := fun i j w w' c e => by
      cases i with
      | zero => simp at e
      | succ i =>
        rw [List.getElem?_cons_succ, List.getElem?_replicate] at e
        split at e <;> cases e }
  refine pre_ok f0 c1 R0 (T.wb_mono (fun fl b1 ⟨hb1, k1⟩ => ?_) (T.wb_le (T.wb_bind.mp (h ns.length hl))))
  cases fl with
  | brk sl => exact k1.elim
  | cont sl => exact k1.elim
  | ret r sl =>
    intro g' σ' v H' l' R' vl e
    have k1 : r = (.bl true, false) := k1
    subst k1
    cases vl
    exact hQ H'
  | nx sl1 =>
    intro g1 σ1 H1 l1 R1 _
    obtain ⟨r, e0, k1⟩ := rd_wb (T.wb_bind.mp k1)
    obtain ⟨k2, k3⟩ := T.wb_guard k1
    obtain ⟨w1, fr⟩ := r
    have ew : w1 = .scr ns.length ∧ fr = false := by
      unfold isScr at k2
      split at k2
      · rename_i c he
        cases he
        exact ⟨by rw [Nat.eq_of_beq_eq_true k2], rfl⟩
      · cases k2
    obtain ⟨rfl, rfl⟩ := ew
    obtain ⟨v, s1, rv⟩ := R1.frz 0 _ e0
    -- the statement
    unfold begB at c2
    cases q1 : asAsg stB with
    | none => rw [q1] at c2; cases c2
    | some y =>
      rw [q1] at c2
      obtain ⟨t, e⟩ := y
      obtain ⟨ps, rfl⟩ := asAsg_ok q1
      dsimp only at c2
      cases q2 : asName t with
      | none => rw [q2] at c2; cases c2
      | some m =>
        rw [q2] at c2
        obtain ⟨pm, rfl⟩ := asName_ok q2
        dsimp only at c2
        split at c2
        · rename_i ar q3
          obtain ⟨p4, p5, rfl, hg⟩ := calls_ok q3
          cases q4 : asName ar with
          | none => rw [q4] at c2; cases c2
          | some z =>
            rw [q4] at c2
            obtain ⟨p6, rfl⟩ := asName_ok q4
            simp only [Bool.and_eq_true, okN, Bool.not_eq_true'] at c2
            obtain ⟨d1, d2, ⟨d3, d4, _⟩, d5, d6⟩ := c2
            obtain ⟨ba, m1, m2, m3⟩ := BG
            obtain ⟨lo, lf⟩ := f0.loc m d6
            refine of_pss (pss_cons ps_w pss_w) (of_ps (ps_set (i := l.i) (te := tW _ _) S.nd (atB_ok d5) lo pe_w rfl lf) ?_)
            refine w_callF (f0.glo _ hg) m1 m2 (by decide +kernel) rfl (w_cons rfl (w_var (atB_ok d1) (f0.vis z d2) d3 d4 s1 (w_nil ?_)))
            cases rv with
            | scr sq1 el =>
              rename_i pa ms
              refine m3 _ ⟨rfl, rfl, rfl, rfl, rfl, rfl, room.mono (Nat.le_add_left ..), gu⟩ H1 pa ms _ (SqL.le R1.sub sq1) (by rw [el]; exact hl) fun dd H2 sm fr orc => ?_
              have gD : g1.D = none := R1.dn rfl
              have l2 : g1.le ⟨g1.F, some dd, g1.E⟩ := ⟨Same.refl _, fun d e => (by rw [gD] at e; cases e), rfl⟩
              have R2 : Rl ⟨K, G, H, ⟨untb H, none, eN⟩, [], false⟩ ⟨g1.F, some dd, g1.E⟩ b1 sl1 σ1 H2 := {
                le0 := R1.le0.trans l2
                sub := R1.sub.trans sm
                kee := fun c o e1 e2 _ => by
                  have k := R1.kee c o e1 e2 (by rw [gD]; exact List.not_mem_nil)
                  obtain ⟨o1, e⟩ := k.some
                  rw [e] at k
                  exact k.trans (.inl (sm c o1 e))
                tab := R1.tab.ext sm
                new := R1.new
                nT := R1.nT
                dF := fun c hc => R1.freeF (fr c hc)
                orc := fun d hd => by
                  cases hd
                  exact orc.le hb1 fun _ _ _ h => h
                d0 := fun c hc => .inr (R1.free0 (fr c hc))
                dn := fun h => by cases h
                ioS := fun _ h => (List.not_mem_nil h).elim
                len := R1.len
                frz := fun i u e => by
                  obtain ⟨v, h1, h2⟩ := R1.frz i u e
                  exact ⟨v, h1, h2.le l2⟩
                own := fun i u e => by
                  obtain ⟨c, h1, h2, h3, _, h5⟩ := R1.own i u e
                  obtain ⟨o, eo⟩ := h2.some
                  refine ⟨c, h1, h2.le l2 fun o' eo' => sm c o' eo', h3, fun hc => ?_, h5⟩
                  rw [fr c hc] at eo
                  cases eo
                inj := R1.inj }
              have R3 := R2.setF (i := l.i) (w := .orc) (v := .ref dd.1) (.orc (m := dd.1) (c := dd.2.1) (l := dd.2.2) rfl)
              rw [sett_eq] at k3
              refine (sndSs l.post).run f1 c3 R3 (T.wb_mono (fun fl b4 k4 => ?_) (T.wb_bind.mp k3))
              cases fl with
              | nx sl => exact k4.elim
              | brk sl => exact k4.elim
              | cont sl => exact k4.elim
              | ret r sl =>
                intro g' σ' v H' l' R' vl e
                have k4 : r = (.bl true, false) := k4
                subst k4
                cases vl
                exact hQ H'
        · cases c2
end
end Ev
end
end
section
set_option Elab.async false
set_option linter.all false
set_option maxRecDepth 100000
set_option maxHeartbeats 2000000
/-! EvErr: errors of the program: a class over ValueError whose __init__ says super().__init__(text), then keeps its arguments as fields. -/
noncomputable section
namespace Ev
open PySem PySem.Spec L2
set_option autoImplicit false
section
variable {P : Program} {w : World} {K : PySem.W.Frag} {mg : Str → Option Value} {base : Heap}
/-- the context of such an __init__ -/
def cxI (P : Program) (w : World) (K : PySem.W.Frag) (mg : Str → Option Value) (base : Heap) (N : List Str) (fd : FuncData) (f : Addr) (A : Around) (outer : List Env) (s : Shared) (H : Hp) (E : XK) : Cx where
  prog := P
  w := w
  K := K
  mg := mg
  base := base
  A := A.deeper (callEnv fd s.heap.objs.size f)
  N := N
  s_0 := s
  H_0 := H
  env := callEnv fd s.heap.objs.size f
  outer := outer
  stack := callEnv fd s.heap.objs.size f :: outer
  ex := []
  fn := fun _ => false
  calm := true
  pn := []
  xe := fun e s' => wpAny (model P w) (A.deeper (callEnv fd s.heap.objs.size f)) (leaving (callEnv fd s.heap.objs.size f) e) (fun _ s'' => CX P w outer H s E e s'') (fun e' s'' => CX P w outer H s E e' s'') s'
/-- what a class of errors and its __init__ are -/
structure ErrF (P : Program) (K : PySem.W.Frag) (C fI cda cc : Addr) (fd : FuncData) (xs : List Str) : Prop where
  oex : OexC K C
  ini : PySem.W.findIn K (.ref C) "__init__" = some (some (.ref fI))
  typ : PySem.W.typeIn K (.ref fI) = some (.type "function")
  fn : ∃ oc od osl, K.lookup fI = some ⟨oc, od, .func fd, osl⟩
  glo : fd.globals = mainGlobals
  blt : fd.builtins = builtinsNs
  clo : fd.closure = [(("__class__" : Str), cc)]
  cod : fd.code = .ref cda
  cdi : PySem.W.codeIn K fd.code fd.qualname = true
  cdo : ∃ ccl cdd vs ccs file tf, K.lookup cda = some ⟨ccl, cdd, .fields vs, ccs⟩ ∧ vs[2]? = some (.str file tf) ∧ ((P.main.file : Str) == file) = true
  cel : ∃ cl cld csl, K.lookup cc = some ⟨cl, cld, .cell (some (.ref C)), csl⟩
  mro : PySem.W.mroIn K C (.ref C) = some true
  sup : PySem.W.nsIn K mainGlobals "super" = some none
  top : (P.main.scope.names.lookup ("super" : Str)).isSome = false
  thi : PySem.W.nsIn K cStatics "thirdparty.any" = some none
  alo : PySem.W.ks_superIn K C C "__init__" = some (some (.builtin "ValueError.__init__"))
  sub : PySem.W.subIn K (.ref C) (.type "ValueError") = some true
  exi : PySem.W.excInitIn K C [.type "ValueError", .type "Exception", .type "BaseException", .type "object"] "ValueError.__new__" = true
  no : ∀ x ∈ xs, PySem.W.findIn K (.ref C) x = some none
  knd : fd.scope.kind = .function
  co : fd.scope.isCoroutine = false
  gen : fd.scope.isGenerator = false
  nam : fd.scope.names.lookup ("super" : Str) = some .globalImplicit ∧ fd.scope.names.lookup ("__class__" : Str) = some .free
  loc : ∀ x ∈ ("self" : Str) :: xs, fd.scope.names.lookup x = some .local
  nce : ∀ y ∈ fd.scope.names, y.2 ≠ .cell
  fre : ∀ x, fd.scope.names.lookup x = some .free → x = "__class__"
  arg : ∃ ar : Arg, (fd.params.posonlyargs ++ fd.params.args).head? = some ar ∧ ar.arg = "self"
  nod : (("self" : Str) :: xs).Nodup
variable {C fI cda cc : Addr} {fd : FuncData} {xs : List Str} {A : Around} {outer : List Env} {s : Shared} {H : Hp} {E : XK} {us : List Value} {vs : List V}
theorem zip_sub : ∀ (ps : List Str) (us : List Value), ((ps.zip us).map (·.1)).Sublist ps
  | [], _ => by rw [List.zip_nil_left]; exact List.Sublist.refl _
  | p :: ps, [] => by rw [List.zip_nil_right]; exact List.nil_sublist _
  | p :: ps, u :: us => by
    rw [List.zip_cons_cons, List.map_cons]
    exact (zip_sub ps us).cons₂ _
theorem zip_look : ∀ {ps : List Str} {us : List Value} {i : Nat} {x : Str} {u : Value}, ps.Nodup → ps[i]? = some x → us[i]? = some u → (ps.zip us).reverse.lookup x = some u := by
  intro ps us i x u nd h1 h2
  have nd' : ((ps.zip us).reverse.map (·.1)).Nodup := by
    rw [List.map_reverse]
    refine (List.reverse_perm _).nodup_iff.mpr ?_
    exact List.Nodup.sublist (zip_sub ps us) nd
  have mem : (x, u) ∈ (ps.zip us).reverse := by
    rw [List.mem_reverse]
    refine List.mem_of_getElem? (i := i) ?_
    rw [List.getElem?_zip_eq_some]
    exact ⟨h1, h2⟩
  revert mem nd'
  generalize (ps.zip us).reverse = l
  intro nd' mem
  induction l with
  | nil => cases mem
  | cons p l ih =>
    obtain ⟨y, v⟩ := p
    rw [List.map_cons, List.nodup_cons] at nd'
    rcases List.mem_cons.mp mem with e | e
    · cases e
      rw [List.lookup_cons, beq_self_eq_true]
    · have hy : (x == y) = false := by
        cases q : x == y with
        | false => rfl
        | true =>
          have := eq_of_beq q
          subst this
          exact (nd'.1 (List.mem_map.mpr ⟨(x, u), e, rfl⟩)).elim
      rw [List.lookup_cons, hy]
      exact ih nd'.2 e
theorem vals_get : ∀ {vs : List V} {us : List Value} {i : Nat} {v : V}, Vals vs us → vs[i]? = some v → ∃ u, us[i]? = some u ∧ RelV v u
  | _, _, i, v, .nil, h => by simp at h
  | _, _, 0, v, .cons r _, h => by
    cases h
    exact ⟨_, rfl, r⟩
  | _, _, i + 1, v, .cons _ rs, h => by
    obtain ⟨u, h1, h2⟩ := vals_get (i := i) rs (by simpa using h)
    exact ⟨u, by simpa using h1, h2⟩
theorem inv_init (F : ErrF P K C fI cda cc fd xs) (hd : A.handled = none) (e0 : Env0 P w K mg base A outer s H) (hl : vs.length = xs.length + 1) (r : Vals vs us) {h' : Heap} {t' : Nat} (hn : h'.Ns s.heap.objs.size fun y => ((("self" : Str) :: xs).zip us).reverse.lookup y)
    (k : ∀ b o, s.heap.get? b = some o → h'.get? b = some o) : Inv (cxI P w K mg base (("self" : Str) :: xs) fd fI A outer s H E) [] (start (("self" : Str) :: xs) vs) H { s with heap := h', toks := t' } := by
  have noA : ∀ b : Addr, b ∉ (cxI P w K mg base (("self" : Str) :: xs) fd fI A outer s H E).ex := fun b z => List.not_mem_nil (show b ∈ ([] : List Addr) from z)
  have cells : (callEnv fd s.heap.objs.size fI).cells = [(("__class__" : Str), cc)] := F.clo
  obtain ⟨cl, cld, csl, hc⟩ := F.cel
  have one : ∀ {x : Str} {c : Addr}, (callEnv fd s.heap.objs.size fI).cells.lookup x = some c → x = "__class__" ∧ c = cc := fun {x c} h => by
    rw [cells, List.lookup_cons] at h
    cases q : x == ("__class__" : Str) with
    | true =>
      rw [q] at h
      exact ⟨eq_of_beq q, (Option.some.inj h).symm⟩
    | false =>
      rw [q] at h
      cases h
  have hb := e0.mod.kin _ _ hc
  refine ⟨⟨e0.mod, F.knd, F.glo, F.blt, Nat.le_refl _, fun x y c h1 h2 => ?_, fun x hx => ?_, fun x c z => ?_, fun _ => hd, Around.frames_deeper e0.frames, .inr ⟨rfl, rfl⟩, fun b z => absurd z (noA b), e0.bs, e0.bsz, fun b _ _ => noA b, fun b z => absurd z (noA b), e0.funs, e0.frf⟩,
    rfl, e0.bare, Un.kept k, ⟨_, hn, fun i x v h1 h2 h3 => ?_⟩, fun x c h => ?_, e0.hok.fresh (Nat.le_refl _), fun x c h => ?_, fun p hp => ?_, e0.hok.kept k, ?_⟩
  · rw [(one h1).1, (one h2).1]
  · have hx : fd.scope.names.lookup x = some .cell ∨ fd.scope.names.lookup x = some .free := hx
    rcases hx with z | z
    · exact absurd rfl (F.nce _ (PySem.mem_of_lookup z))
    · refine ⟨cc, ?_⟩
      show (callEnv fd s.heap.objs.size fI).cells.lookup x = some cc
      rw [cells, F.fre x z, List.lookup_cons, beq_self_eq_true]
  · cases z
  · have hv : vs[i]? = some v := getA h2
    obtain ⟨u, hu, ru⟩ := vals_get r hv
    refine ⟨u, ru, .inl ⟨F.loc x (List.mem_of_getElem? h1), zip_look F.nod h1 hu⟩⟩
  · obtain ⟨e1, e2⟩ := one h
    subst e2
    exact ⟨_, ⟨_, k _ _ (e0.bs _ _ hb).1, rfl⟩⟩
  · obtain ⟨e1, e2⟩ := one h
    subst e2
    exact (e0.bs _ _ hb).2
  · exact absurd (show p ∈ ([] : List (Addr × Obj)) from hp) List.not_mem_nil
  · show (List.map some vs ++ List.replicate _ none).length = _
    rw [List.length_append, List.length_map, List.length_replicate, hl, List.length_cons]
    show _ = xs.length + 1
    omega
/-- what an __init__ promises: a the new exception -/
def spI (C : Addr) (xs : List Str) : Sp := fun vs H Q _ => ∃ (a : Addr) (ws : List V), vs = .ref a :: ws ∧ ws.length = xs.length ∧ H a = some (exo a C none) ∧
  ∀ (d : Addr) (fs : List (Str × V)) (H' : Hp), H d = none → H' a = some (exo a C (some d)) → H' d = some (exd d fs) → (∀ b, b ≠ a → b ≠ d → H' b = H b) → (∀ (i : Nat) x v, xs[i]? = some x → ws[i]? = some v → fs.lookup x = some v) → Q .non H'
/-- super().__init__(text) -/
theorem super_ok (F : ErrF P K C fI cda cc fd xs) {X : Cx} {pins : List (Addr × Obj)} {σ : St} {a : Addr} {txt : Str} {jj : Nat} {body : List Stmt} {p0 p1 p2 p3 p4 : Pos} {Q : Value → Shared → Prop} {sI : Shared}
    (hpos : (p2.endLine == p4.line) = true) (hX : X = cxI P w K mg base (("self" : Str) :: xs) fd fI A outer s H E) (I : Inv X pins σ H sI) (h0 : σ[0]? = some (some (.ref a))) (ha : H a = some (exo a C none)) (hq : ∀ s', Inv X pins σ H s' → Q .none s') :
    PySem.wpAt (model P w) X.A (.func body X.env) (eval (.Call (.Attribute (.Call (.Name "super" p0) [] [] p1) "__init__" p2) [.Constant (.str txt) jj p3] [] p4) X.env) Q X.xe sI := by
  subst hX
  obtain ⟨oc, od, osl, lkf⟩ := F.fn
  obtain ⟨ar, har, hself⟩ := F.arg
  obtain ⟨ccl, cdd, vs, ccs, file, tf, lkc, hvs, hfile⟩ := F.cdo
  obtain ⟨cl, cld, csl, lkcell⟩ := F.cel
  have inK : K.In sI.heap := I.kIn
  have he : ∀ env : Env, eval (.Call (.Attribute (.Call (.Name "super" p0) [] [] p1) "__init__" p2) [.Constant (.str txt) jj p3] [] p4) env = (do
      let ov ← attributeBase (.Call (.Name "super" p0) [] [] p1) "__init__" env (eval (.Call (.Name "super" p0) [] [] p1) env)
      standAt p2.atName
      let (f, first) ← holding [ov] (getMethod ov "__init__" (do return (← importBound (.Call (.Name "super" p0) [] [] p1) env).getD true))
      callWith p4 f first (backTo p4 (starEach [.Constant (.str txt) jj p3] env)) []) := fun env => by
    rw [eval]
    unfold methodCall methodCallPos
    rw [hpos, Bool.or_true, if_pos rfl]
    rfl
  refine PySem.ks_wpAt_MethodCall ?_ (he _)
  refine PySem.ks_wpAt_super_base (env := callEnv fd s.heap.objs.size fI) F.nam.1 F.nam.2 (by decide) rfl (inK _ _ lkf) rfl har F.cod (inK _ _ lkc) rfl hvs hfile F.top ?_
  have hb : ∀ b o, base.get? b = some o → sI.heap.get? b = some o := I.bk
  obtain ⟨mb, nsB, boot⟩ := I.mod.blt
  refine PySem.W.ks_loadName_global F.knd F.nam.1 (PySem.Calls.loadGlobal_builtin (env := callEnv fd s.heap.objs.size fI) (by rw [show (callEnv fd s.heap.objs.size fI).globals = mainGlobals from F.glo]; exact I.mod.glob.keeps hb) (PySem.W.mg_none_of I.mod.kin I.mod.glob F.sup) (by rw [show (callEnv fd s.heap.objs.size fI).builtins = builtinsNs from F.blt]; exact nsB.keeps hb) ((boot _ (by decide +kernel)).trans (by kernel_rfl)) ⟨rfl, ?_⟩)
  have cells : (callEnv fd s.heap.objs.size fI).cells.lookup ("__class__" : Str) = some cc := by
    rw [show (callEnv fd s.heap.objs.size fI).cells = [(("__class__" : Str), cc)] from F.clo, List.lookup_cons, beq_self_eq_true]
  refine wpAny_loadName_free F.knd F.nam.2 cells ⟨_, inK _ _ lkcell, rfl⟩ ?_
  obtain ⟨m, nsL, look⟩ := I.loc
  have selfL : fd.scope.names.lookup ("self" : Str) = some .local := F.loc _ (List.mem_cons_self ..)
  obtain ⟨u0, ru, lk0⟩ := look 0 "self" (.ref a) rfl h0 (.inl selfL)
  obtain rfl : u0 = Value.ref a := ru
  have mself : m "self" = some (.ref a) := by
    rcases lk0 with z | ⟨z, _⟩
    · exact z.2
    · have z : fd.scope.names.lookup ("self" : Str) = some .cell ∨ fd.scope.names.lookup ("self" : Str) = some .free := z
      rw [selfL] at z
      rcases z with z | z <;> cases z
  rw [hself]
  refine wpAny_loadName_local F.knd selfL nsL mself ?_
  obtain ⟨nm, qn, NN, bs, bm, sn, sub, ab, col, dd, k0, k1, k2, k3, k5, lkC, hbm⟩ := F.oex.cls
  have hC := inK _ _ lkC
  obtain ⟨t1, hx⟩ := exo_at I.hok ha
  obtain ⟨hp, gg, dr, tk, os⟩ := sI
  refine PySem.ks_wpAny_isType_cls hC rfl ⟨rfl, ?_⟩
  refine PySem.ks_wpAny_call_super hC rfl hx rfl (fun c z => by cases z) (PySem.W.looks_mroIn inK F.mro) fun h2 hso keep2 => ?_
  -- its __init__
  have I2 : Inv (cxI P w K mg base (("self" : Str) :: xs) fd fI A outer s H E) pins σ H ⟨h2, gg, dr, tk, os⟩ := I.kept (t' := tk) keep2
  have inK2 : K.In h2 := I2.kIn
  have hx2 := keep2 _ _ hx
  have inst2 : PySem.W.InstAt h2 a _ C none := ⟨hx2, rfl, rfl, trivial⟩
  have cls : PySem.W.clsIn K C = some { name := nm, bases := bs, mro := .ref C :: bm, ns := NN, qualname := qn, hasDict := true, slotNames := sn, subclasses := sub, abstract := ab, collection := col, hasDel := false } := by
    unfold PySem.W.clsIn
    rw [lkC]
  have along := F.alo
  unfold PySem.W.ks_superIn at along
  rw [cls] at along
  have aC : a ≠ C := fun z => by
    subst z
    rw [hC] at hx
    cases hx
  refine PySem.W.kxs_getMethod PySem.W.kxs_ValueError hso (PySem.W.looks_opaque inK2 F.thi) (l₀ := .ref C :: bm) ?_ rfl inK2 along (inst2.type.andThen (PySem.W.looks_subIn inK2 F.sub)) aC (by decide) ?_
  · exact (PySem.W.looks_clsIn inK2 cls).andThen .now
  -- called with the text
  have keep3 : ∀ b o, h2.get? b = some o → (h2.push (PySem.W.kxs_mw "ValueError.__init__" a)).get? b = some o := fun b o e => Heap.get?_push_of_some _ e
  have at3 : (h2.push (PySem.W.kxs_mw "ValueError.__init__" a)).get? h2.objs.size = some (PySem.W.kxs_mw "ValueError.__init__" a) := Heap.get?_push_at rfl rfl
  have hx3 := keep3 _ _ hx2
  have hC3 := keep3 _ _ (keep2 _ _ hC)
  generalize hh3 : h2.push (PySem.W.kxs_mw "ValueError.__init__" a) = h3 at keep3 at3 hx3 hC3
  generalize h2.objs.size = u at at3
  refine PySem.W.kxs_callWith (i := "ValueError.__init__") (x := a) rfl ?_
  refine PySem.Calls.evalArgs_plain ?_
  show wpAny _ _ (spliced ((false, eval (.Constant (.str txt) jj p3) (callEnv fd s.heap.objs.size fI)) :: backTo p4 (starEach [] (callEnv fd s.heap.objs.size fI)))) _ _ _
  refine PySem.Calls.spliced_cons (PySem.Calls.Constant_str (PySem.Calls.spliced_nil ⟨at3, ?_⟩))
  show wpAny _ _ (call (.ref u) [.str txt _]) _ _ _
  refine wpAny_call (codeAny_of_tree (show wpAny _ _ (callAny (.ref u) ⟨[.str txt _], []⟩) _ _ _ from ?_))
  unfold callAny
  dsimp only
  refine wpAny_bind (wpAny_load at3 ?_)
  dsimp only [PySem.W.kxs_mw]
  rw [if_pos (by decide)]
  show wpAny _ _ (if _ then _ else _) _ _ _
  rw [if_pos (by decide)]
  have fb := PySem.F.excBase_ValueError
  refine wpAny_bind (PySem.W.check_bound_init fb.toExcCallFacts hC3 hx3 rfl (wpAny_pure ?_))
  show _ ∧ _
  refine ⟨PySem.plainId_quiet fb.init.plain _, codeAny_builtin fb.initEntry ?_⟩
  refine PySem.W.exc_init_tree (cls := .ref C) (t0 := t1) (dv := none) (c2 := .none) (c3 := .none) (b4 := .bool false) hx3 (Nat.le_trans (Nat.le_refl 1) (by rw [sizeLine_eq]; decide)) fun h4 keep4 hx4 _ => ?_
  show Q .none _
  have I3 : Inv (cxI P w K mg base (("self" : Str) :: xs) fd fI A outer s H E) pins σ H ⟨h3, gg, dr, tk + 1 + 1, os⟩ := I2.kept (t' := tk + 1 + 1) keep3
  have I4 := I3.write (t' := tk + 1 + 1) (x := a) (e := a) (o := exo a C none) (by rw [ha]; trivial) (Or.inl rfl) keep4 ⟨_, hx4⟩ (exo_ok hx4)
  have same : upd H a (exo a C none) = H := funext fun c => by
    by_cases z : c = a
    · subst z
      rw [upd_same, ha]
    · exact upd_ne z
  rw [same] at I4
  exact hq _ I4
/-- self.x = x for these names -/
inductive Asgs : List Str → List Stmt → Prop
  | nil : Asgs [] []
  | cons {x : Str} {r : List Str} {sts : List Stmt} {q0 q1 q2 q3 : Pos} : Asgs r sts → Asgs (x :: r) (.Assign [.Attribute (.Name "self" q0) x q1] (.Name x q2) q3 :: sts)
/-- how far the fields are kept -/
def Kept (C a : Addr) (xs : List Str) (ws : List V) (H0 : Hp) (i : Nat) (H : Hp) : Prop := (i = 0 ∧ H = H0 ∧ H0 a = some (exo a C none)) ∨
  ∃ (d : Addr) (fs : List (Str × V)), H0 d = none ∧ d ≠ a ∧ H a = some (exo a C (some d)) ∧ H d = some (exd d fs) ∧ fs.length = i ∧ (∀ b, b ≠ a → b ≠ d → H b = H0 b) ∧ ∀ (k : Nat) x v, k < i → xs[k]? = some x → ws[k]? = some v → fs.lookup x = some v
theorem asg_ok (F : ErrF P K C fI cda cc fd xs) {X : Cx} {σ : St} {a : Addr} {ws : List V} {D : Ends} {H0 : Hp} (hX : X = cxI P w K mg base (("self" : Str) :: xs) fd fI A outer s H E) (h0 : σ[0]? = some (some (.ref a))) (hσ : ∀ (i : Nat) v, ws[i]? = some v → σ[i + 1]? = some (some v)) (hl : ws.length = xs.length) (hxl : xs.length ≤ 900)
    (nn : ∀ x ∈ xs, (x == ("__debug__" : Str)) = false ∧ (x == ("__classdict__" : Str)) = false) (hD : ∀ H', Kept C a xs ws H0 xs.length H' → D.nx σ H') :
    ∀ {todo : List Str} {sts : List Stmt} {i : Nat} {H1 : Hp}, Asgs todo sts → i ≤ xs.length → xs.drop i = todo → Kept C a xs ws H0 i H1 → tWSs X sts D σ H1
  | _, _, i, H1, .nil, hil, hd, hk => by
    have hi : xs.length ≤ i := List.drop_eq_nil_iff.mp hd
    obtain rfl : i = xs.length := by omega
    exact of_pss pss_nil (hD H1 hk)
  | _, _, i, H1, .cons (x := x) (r := rr) r, hil, hd, hk => by
    have hx : xs[i]? = some x := by
      have := congrArg (fun l : List Str => l[0]?) hd
      simpa using this
    have hm : x ∈ xs := List.mem_of_getElem? hx
    have hi : i < xs.length := (List.getElem?_eq_some_iff.mp hx).1
    have hw : ws[i]? = some ws[i] := List.getElem?_eq_getElem (by omega)
    have hdr : xs.drop (i + 1) = rr := by
      have := congrArg List.tail hd
      rw [List.tail_drop] at this
      exact this
    have nod := (List.nodup_cons.mp F.nod).2
    subst hX
    refine of_pss (pss_cons (ps_ost pe_w pe_w) pss_w) ?_
    refine w_var (i := i + 1) (x := x) (v := ws[i]) (by show (("self" : Str) :: xs)[i + 1]? = _; rw [List.getElem?_cons_succ]; exact hx) (.inl (F.loc x (List.mem_cons_of_mem _ hm))) (nn x hm).1 (nn x hm).2 (hσ i _ hw) ?_
    refine w_var (i := 0) (x := "self") (v := .ref a) rfl (.inl (F.loc _ (List.mem_cons_self ..))) (by decide) (by decide) h0 ?_
    refine ⟨a, C, rfl, F.oex, F.no x hm, ?_⟩
    have look : ∀ {fs : List (Str × V)}, fs.length = i → (∀ (k : Nat) y v, k < i → xs[k]? = some y → ws[k]? = some v → fs.lookup y = some v) → ∀ (k : Nat) y v, k < i + 1 → xs[k]? = some y → ws[k]? = some v → ((x, ws[i]) :: fs).lookup y = some v := fun {fs} _ h k y v hk1 hk2 hk3 => by
      rw [lookup_put]
      by_cases hki : k = i
      · subst hki
        rw [hx] at hk2
        cases hk2
        rw [if_pos rfl, ← hk3, hw]
      · have hyx : y ≠ x := fun z => by
          subst z
          have h1 := (List.getElem?_eq_some_iff.mp hk2)
          have h2 := (List.getElem?_eq_some_iff.mp hx)
          exact hki ((List.getElem_inj nod).mp (h1.2.trans h2.2.symm))
        rw [if_neg hyx]
        exact h k y v (by omega) hk2 hk3
    rcases hk with ⟨z1, z2, z3⟩ | ⟨d, fs, y1, y2, y3, y4, y5, y6, y7⟩
    · subst z1 z2
      refine .inl ⟨z3, fun dx hdx hne => ?_⟩
      refine asg_ok F rfl h0 hσ hl hxl nn hD r (by omega) hdr (.inr ⟨dx, [(x, ws[0])], hdx, hne, upd_same, by rw [upd_ne hne, upd_same], rfl, fun b h1 h2 => by rw [upd_ne h1, upd_ne h2], look rfl fun k y v hk => by omega⟩)
    · refine .inr ⟨d, fs, y3, y4, by omega, ?_⟩
      refine asg_ok F rfl h0 hσ hl hxl nn hD r (by omega) hdr (.inr ⟨d, (x, ws[i]) :: fs, y1, y2, by rw [upd_ne (Ne.symm y2)]; exact y3, upd_same, by rw [List.length_cons, y5], fun b h1 h2 => by rw [upd_ne h2]; exact y6 b h1 h2, look y5 y7⟩)
/-- such an __init__ keeps its promise -/
theorem init_ok (F : ErrF P K C fI cda cc fd xs) {txt : Str} {jj k : Nat} {rest : List Stmt} {p0 p1 p2 p3 p4 p5 : Pos} (hbody : fd.body = .stmts (.Expr (.Call (.Attribute (.Call (.Name "super" p0) [] [] p1) "__init__" p2) [.Constant (.str txt) jj p3] [] p4) p5 :: rest))
    (hpos : (p2.endLine == p4.line) = true) (as : Asgs xs rest) (nn : ∀ x ∈ xs, (x == ("__debug__" : Str)) = false ∧ (x == ("__classdict__" : Str)) = false) (hx1 : 1 ≤ xs.length) (hxl : xs.length ≤ 900) : FnOk P w K mg base (CX P w) (k + 1) fI fd (("self" : Str) :: xs) (spI C xs) := by
  refine ⟨fun vs H Q E ⟨a, ws, e, hl, _⟩ => by rw [e, List.length_cons, List.length_cons, hl], fun A outer s H args us vs Q E room e0 bt rel sp => ?_⟩
  obtain ⟨a, ws, rfl, hl, ha, hq⟩ := sp
  obtain ⟨oc, od, osl, lkf⟩ := F.fn
  have inK : K.In s.heap := e0.mod.kin.keeps fun c o e => (e0.bs c o e).1
  have noL : s.heap.NoLimit := e0.mod.nolimit.keeps fun c o e => (e0.bs c o e).1
  refine PySem.ks_codeAny_call_defAt (fd := fd) room.depth (inK _ _ lkf) rfl noL (PySem.W.codeRec_of inK F.cdi) hbody bt F.nce (fun y hy => F.loc y.1 (List.of_mem_zip hy).1) (fun h' ns keep => ?_) F.co F.gen F.knd
  have J := inv_init (w := w) (mg := mg) (E := E) (t' := s.toks + ((("self" : Str) :: xs).zip us).length) F room.hd e0 (by rw [List.length_cons, hl]) rel ns keep
  have h0 : (start (("self" : Str) :: xs) (V.ref a :: ws))[0]? = some (some (.ref a)) := rfl
  have hσ : ∀ (i : Nat) v, ws[i]? = some v → (start (("self" : Str) :: xs) (V.ref a :: ws))[i + 1]? = some (some v) := fun i v h => getB (xs := V.ref a :: ws) (by rw [List.getElem?_cons_succ]; exact h)
  have hint : interactive (callEnv fd s.heap.objs.size fI) = false := by
    unfold interactive
    rw [show (callEnv fd s.heap.objs.size fI).scope.kind = .function from F.knd]
    rfl
  refine PySem.ks_wpAt_execs_cons (PySem.ks_wpAt_Expr_any (super_ok F hpos rfl J h0 ha fun s' I' => ?_) hint)
  show PySem.wpAt _ _ _ (execs rest _) _ _ _
  have z := asg_ok (w := w) (mg := mg) (base := base) (A := A) (outer := outer) (s := s) (H := H) (E := E) (X := cxI P w K mg base ((("self" : Str)) :: xs) fd fI A outer s H E) F (D := { nx := fun _ H' => Q .non H', rt := Q }) rfl h0 hσ hl hxl nn (fun H' hk => ?_) as (Nat.zero_le _) List.drop_zero (.inl ⟨rfl, rfl, ha⟩)
  · refine PySem.wpAt_of_wpAny (wpAny_mono (z [] s' I') (fun fl s2 q => ?_) fun e s2 q => q)
    cases fl with
    | ret u =>
      obtain ⟨v, σ', H', J', rv, q⟩ := q
      exact ⟨v, H', J'.os, J'.bare, J'.base, J'.hok, rv, q⟩
    | next =>
      obtain ⟨σ', H', J', q⟩ := q
      exact ⟨.non, H', J'.os, J'.bare, J'.base, J'.hok, rfl, q⟩
    | brk => exact (let ⟨_, _, _, q⟩ := q; q.elim)
    | cont => exact (let ⟨_, _, _, q⟩ := q; q.elim)
  · rcases hk with ⟨y, _⟩ | ⟨d, fs, y1, y2, y3, y4, y5, y6, y7⟩
    · omega
    · exact hq d fs H' y1 y3 y4 y6 fun i x v h1 h2 => y7 i x v (List.getElem?_eq_some_iff.mp h1).1 h1 h2
/-- such errors are made -/
theorem makes_ok (F : ErrF P K C fI cda cc fd xs) {txt x : Str} {jj c r0 : Nat} {rest : List Stmt} {p0 p1 p2 p3 p4 p5 : Pos} {G : Gx} (hbody : fd.body = .stmts (.Expr (.Call (.Attribute (.Call (.Name "super" p0) [] [] p1) "__init__" p2) [.Constant (.str txt) jj p3] [] p4) p5 :: rest))
    (hpos : (p2.endLine == p4.line) = true) (as : Asgs xs rest) (nn : ∀ x ∈ xs, (x == ("__debug__" : Str)) = false ∧ (x == ("__classdict__" : Str)) = false) (hx1 : 1 ≤ xs.length) (hxl : xs.length ≤ 900)
    (he : errs[c]? = some (x, xs)) (hG : G (clN + c) = some C) (hm : mg x = some (.ref C)) (hdb : (x == ("__debug__" : Str)) = false) (bd : Binds K fd (("self" : Str) :: xs) []) {X : Cx} (pl : Pl P w K mg base r0 X) (h2 : 2 ≤ r0) : Makes X G c := by
  obtain ⟨e1, e2, e3, e4, e5, _, room, gu⟩ := pl
  subst e1 e2 e3 e4 e5
  refine ⟨x, xs, C, he, hG, fun {e es p pos} hg hs hany => ?_⟩
  have mk := pmk_oex (CX := CX X.prog X.w) (k := 1) (p := p) (pos := pos) F.oex F.ini F.typ (init_ok (k := 0) F hbody hpos as nn hx1 hxl) (room.mono h2) bd .nil (fun pins σ H s e s' I z => (cx_no z).elim) hg hm (pa_w (X := X) (es := e :: es)) hdb hs hany
  intro pins s σ H Q I h
  refine mk pins s σ H Q I (tWA.mono h fun vs H1 ⟨q1, q2⟩ => ⟨by omega, fun a ha => ?_⟩)
  refine ⟨a, vs, by rw [List.append_nil], q1, upd_same, fun d fs H2 hd h3 h4 h5 h6 => ⟨rfl, d, fs, h3, h4, ?_, ?_⟩⟩
  · have hda : d ≠ a := fun z => by
      subst z
      rw [upd_same] at hd
      cases hd
    rw [upd_ne hda] at hd
    exact hd
  · have hda : d ≠ a := fun z => by
      subst z
      rw [upd_same] at hd
      cases hd
    rw [upd_ne hda] at hd
    refine q2 d fs _ hd upd_same (fun b hb => ?_) h6
    rw [upd_ne hb]
    by_cases hba : b = a
    · subst hba
      rw [del_same, ha]
    · rw [del_ne hba, h5 b hba hb, upd_ne hba]
end
end Ev
end
end
section
set_option Elab.async false
set_option linter.all false
set_option maxRecDepth 100000
set_option maxHeartbeats 2000000
/-! EvErrB: a class of errors, looked at in the head. -/
noncomputable section
namespace Ev
open PySem PySem.Spec L2
set_option autoImplicit false
/-- self.x = x, for these names -/
def asgsB : List Str → List Stmt → Bool
  | [], [] => true
  | x :: r, .Assign [.Attribute (.Name s _) y _] (.Name z _) _ :: sts => decide (s = ("self" : Str)) && (decide (y = x) && (decide (z = x) && asgsB r sts))
  | _, _ => false
theorem asgsB_ok : ∀ {xs : List Str} {sts : List Stmt}, asgsB xs sts = true → Asgs xs sts := by
  intro xs sts h
  fun_induction asgsB xs sts with
  | case1 => exact .nil
  | case2 x r s p0 y p1 z p2 p3 sts ih =>
    simp only [Bool.and_eq_true, decide_eq_true_eq] at h
    obtain ⟨h1, h2, h3, h4⟩ := h
    subst h1 h2 h3
    exact .cons (ih h4)
  | case3 => cases h
def oexB (K : PySem.W.Frag) (C : Addr) : Bool := (match K.lookup C with
  | some ⟨.type "type", _, .cls cd, sl⟩ => (match cd.mro, sl.toList with
    | .ref C' :: bm, [_, _, _, _, some (.builtin n), _] => decide (C' = C) && (decide (n = "ValueError.__new__") && (!cd.hasDel && (cd.hasDict && PySem.HandSPX.refsVE bm)))
    | _, _ => false)
  | _ => false) && (decide (PySem.W.findIn K (.ref C) "__setattr__" = some (some (.builtin "object.__setattr__"))) && (decide (PySem.W.subIn K (.ref C) (.type "BaseException") = some true) && (decide (PySem.W.typeIn K (.ref C) = some (.type "type")) && PySem.W.keepIn K (.ref C))))
theorem oexB_ok {K : PySem.W.Frag} {C : Addr} (h : oexB K C = true) : OexC K C := by
  unfold oexB at h
  simp only [Bool.and_eq_true, decide_eq_true_eq] at h
  obtain ⟨h1, h2, h3, h4, h5⟩ := h
  refine ⟨?_, h2, h3, h4, h5⟩
  split at h1
  · rename_i dd cd sl ho
    split at h1
    · rename_i C' bm k0 k1 k2 k3 n k5 hm hs
      simp only [Bool.and_eq_true, decide_eq_true_eq, Bool.not_eq_true'] at h1
      obtain ⟨rfl, rfl, hdel, hdct, hr⟩ := h1
      obtain ⟨nm, bs, mro, ns, qn, hd', sn, sub, ab, col, del⟩ := cd
      dsimp only at hm hdel hdct
      subst hm hdel hdct
      obtain ⟨l⟩ := sl
      dsimp only at hs
      subst hs
      exact ⟨nm, qn, ns, bs, bm, sn, sub, ab, col, dd, k0, k1, k2, k3, k5, ho, hr⟩
    · cases h1
  · cases h1
def allD (l : List Str) (f : Str → Bool) : Bool := l.all f
/-- the class x and its __init__, as wanted -/
def errB (P : Program) (K : PySem.W.Frag) (C : Addr) (xs : List Str) : Bool := oexB K C && (match PySem.W.findIn K (.ref C) "__init__" with
  | some (some (.ref fI)) => (match K.lookup fI with
    | some ⟨_, _, .func fd, _⟩ => (match fd.code, fd.closure, fd.body with
      | .ref cda, [(cn, cc)], .stmts (.Expr (.Call (.Attribute (.Call (.Name s0 _) [] [] _) i0 p2) [.Constant (.str _) _ _] [] p4) _ :: rest) =>
        decide (PySem.W.typeIn K (.ref fI) = some (.type "function")) && (decide (fd.globals = mainGlobals) && (decide (fd.builtins = builtinsNs) && (decide (cn = ("__class__" : Str)) && (PySem.W.codeIn K fd.code fd.qualname &&
        ((match K.lookup cda with
          | some ⟨_, _, .fields vs, _⟩ => (match (vs[2]? : Option Value) with
            | some (.str file _) => (P.main.file : Str) == file
            | _ => false)
          | _ => false) && ((match K.lookup cc with
          | some ⟨_, _, .cell (some (.ref D)), _⟩ => decide (D = C)
          | _ => false) && (decide (PySem.W.mroIn K C (.ref C) = some true) && (decide (PySem.W.nsIn K mainGlobals "super" = some none) && (!(P.main.scope.names.lookup ("super" : Str)).isSome && (decide (PySem.W.nsIn K cStatics "thirdparty.any" = some none) &&
        (decide (PySem.W.ks_superIn K C C "__init__" = some (some (.builtin "ValueError.__init__"))) && (decide (PySem.W.subIn K (.ref C) (.type "ValueError") = some true) && (PySem.W.excInitIn K C [.type "ValueError", .type "Exception", .type "BaseException", .type "object"] "ValueError.__new__" &&
        (xs.all (fun x => decide (PySem.W.findIn K (.ref C) x = some none)) && (decide (fd.scope.kind = .function) && (!fd.scope.isCoroutine && (!fd.scope.isGenerator && (decide (fd.scope.names.lookup ("super" : Str) = some .globalImplicit) && (decide (fd.scope.names.lookup ("__class__" : Str) = some .free) &&
        ((("self" : Str) :: xs).all (fun x => decide (fd.scope.names.lookup x = some .local)) && (fd.scope.names.all (fun y => decide (y.2 ≠ .cell) && (decide (y.2 ≠ .free) || decide (y.1 = ("__class__" : Str)))) &&
        (decide ((fd.params.posonlyargs ++ fd.params.args).head?.map (·.arg) = some ("self" : Str)) && (decide (("self" : Str) :: xs).Nodup && (decide (s0 = ("super" : Str)) && (decide (i0 = ("__init__" : Str)) && ((p2.endLine == p4.line) && asgsB xs rest))))))))))))))))))))))))))
      | _, _, _ => false)
    | _ => false)
  | _ => false)
theorem errB_ok {P : Program} {K : PySem.W.Frag} {C : Addr} {xs : List Str} (h : errB P K C xs = true) : ∃ fI cda cc fd txt jj rest p0 p1 p2 p3 p4 p5, ErrF P K C fI cda cc fd xs ∧
    fd.body = .stmts (.Expr (.Call (.Attribute (.Call (.Name "super" p0) [] [] p1) "__init__" p2) [.Constant (.str txt) jj p3] [] p4) p5 :: rest) ∧ (p2.endLine == p4.line) = true ∧ Asgs xs rest := by
  unfold errB at h
  rw [Bool.and_eq_true] at h
  obtain ⟨h0, h⟩ := h
  split at h
  · rename_i fI hI
    split at h
    · rename_i oc od fd osl lk
      split at h
      · rename_i cda cn cc s0 p0 p1 i0 p2 txt jj p3 p4 p5 rest hcode hclo hbody
        simp only [Bool.and_eq_true, decide_eq_true_eq, Bool.not_eq_true', List.all_eq_true, Bool.or_eq_true] at h
        obtain ⟨a1, a2, a3, a4, a5, a6, a7, a8, a9, a10, a11, a12, a13, a14, a15, a16, a17, a18, a19, a20, a21, a22, a23, a24, a25, a26, a27, a28⟩ := h
        subst a4 a25 a26
        refine ⟨fI, cda, cc, fd, txt, jj, rest, p0, p1, p2, p3, p4, p5, ⟨oexB_ok h0, hI, a1, ⟨oc, od, osl, lk⟩, a2, a3, hclo, hcode, a5, ?_, ?_, a8, a9, a10, a11, a12, a13, a14, a15, a16, a17, a18, ⟨a19, a20⟩, a21, fun y hy => (a22 y hy).1, fun x hx => ?_, ?_, a24⟩, hbody, a27, asgsB_ok a28⟩
        · split at a6
          · rename_i c1 c2 vs c3 lc
            split at a6
            · rename_i file tf hv
              exact ⟨c1, c2, vs, c3, file, tf, lc, hv, a6⟩
            · cases a6
          · cases a6
        · split at a7
          · rename_i c1 c2 D c3 lc
            have a7 : D = C := of_decide_eq_true a7
            subst a7
            exact ⟨c1, c2, c3, lc⟩
          · cases a7
        · rcases (a22 _ (PySem.mem_of_lookup hx)).2 with z | z
          · exact absurd rfl z
          · exact z
        · cases q : (fd.params.posonlyargs ++ fd.params.args).head? with
          | none => rw [q] at a23; cases a23
          | some ar =>
            rw [q] at a23
            exact ⟨ar, rfl, Option.some.inj a23⟩
      · cases h
    · cases h
  · cases h
end Ev
end
end
section
set_option Elab.async false
set_option linter.all false
set_option maxRecDepth 100000
set_option maxHeartbeats 4000000
/-! EvMkE: a class of errors called with arguments by places or by keywords: BaseException.__new__, then its own __init__. -/
noncomputable section
namespace Ev
open PySem PySem.W PySem.Calls PyProof.Rows PySem.HandSPX
set_option autoImplicit false
section
variable {P : Program} {w : World} {M : Model} {A : Around} {E : Value → Shared → Prop} {R : Result → Shared → Prop} {h : Heap} {g : Array GenState} {dr : Drawn} {tk : Nat} {os : OsState}
variable {nm qn : Str} {C N : Addr} {bs bm bmB : List Value} {hd : Bool} {sn : List Str} {sub : List Value} {ab : Bool} {col : Option Bool} {dd : Option Addr} {k0 k1 k2 k3 k5 : Option Value} {B nw ini : String}
/-- the class at C -/
def ClsAt (h : Heap) (nm qn : Str) (C N : Addr) (bs bm : List Value) (hd : Bool) (sn : List Str) (sub : List Value) (ab : Bool) (col : Option Bool) (dd : Option Addr) (k0 k1 k2 k3 k5 : Option Value) (nw : String) : Prop :=
  h.get? C = some (excClassObj nm qn C N bs bm hd sn sub ab col dd k0 k1 k2 k3 k5 nw)
theorem chk_newK (F : ExcBaseFacts B nw ini bmB) (hT : ∀ y : String, bm.contains (.type y) = bmB.contains (.type y)) {ps : List Value} {kw : List (Str × Value)} {Q : Unit → Shared → Prop}
    (hC : ClsAt h nm qn C N bs bm hd sn sub ab col dd k0 k1 k2 k3 k5 nw) (hq : Q () ⟨h, g, dr, tk, os⟩) : wpAny M A (checkBuiltinCall nw ⟨.ref C :: ps, kw⟩) Q E ⟨h, g, dr, tk, os⟩ := by
  have hC : h.get? C = some (excClassObj nm qn C N bs bm hd sn sub ab col dd k0 k1 k2 k3 k5 nw) := hC
  have own : (Value.ref C :: bm).contains (.type B) = true := by
    rw [List.contains_cons, hT, F.hasB, Bool.or_true]
  have ns := F.noStar
  unfold checkBuiltinCall
  rw [F.newKind, F.newSplit, F.newRow]
  dsimp only
  repeat
    first
      | refine wpAny_loadPart_at hC ?_
      | (refine wpAny_isSubtype_exc hC ?_
         rw [own])
      | refine wpAny_staticBase_exc hC ?_
      | refine wpAny_madeBy_exc hC ?_
      | simp only [bne_self_eq_false, Bool.false_eq_true, if_false]
      | wp_step
  exact hq
theorem newK (F : ExcBaseFacts B nw ini bmB) (hT : ∀ y : String, bm.contains (.type y) = bmB.contains (.type y)) {ps : List Value} {kw : List (Str × Value)}
    (hC : ClsAt h nm qn C N bs bm hd sn sub ab col dd k0 k1 k2 k3 k5 nw) (hl : ps.length ≤ sizeLine) (hq : R (.ok (.ret (.ref (h.objs.size + 1)))) ⟨(h.push (kdv_tup ps)).push (excO C h.objs.size), g, dr, tk, os⟩) :
    codeAny (model P w) A (.builtin nw ⟨.ref C :: ps, kw⟩) R ⟨h, g, dr, tk, os⟩ := by
  have hC : h.get? C = some (excClassObj nm qn C N bs bm hd sn sub ab col dd k0 k1 k2 k3 k5 nw) := hC
  have en := F.ends
  have cont : ∀ y : String, (Value.ref C :: bm).contains (.type y) = bmB.contains (.type y) := fun y => by
    rw [List.contains_cons, hT]
    rfl
  have c1 := (cont B).trans F.hasB
  have c2 := (cont "AttributeError").trans F.noAttr
  have c3 := (cont "NameError").trans F.noName
  refine codeAny_builtinAt F.entry ?_
  unfold Builtin.«BaseException.__new__»
  refine PySem.wpAt_bind ?_
  show PySem.wpAt _ _ _ (stack >>= _) _ _ _
  refine PySem.wpAt_bind (PySem.wpAt_stack fun p below => PySem.wpAt_of_wpAny ?_)
  wp_walk
  refine PySem.wpAt_of_wpAny ?_
  rw [F.owner]
  repeat
    first
      | with_reducible refine wpAny_madeHere_exc F.canon hC ?_
      | with_reducible refine wpAny_loadPart_at hC ?_
      | (with_reducible refine wpAny_isSubtype_exc hC ?_
         first
           | rw [c1]
           | rw [c2]
           | rw [c3])
      | wp_step
  show R _ _
  rw [Heap.size_push]
  exact hq
theorem type_callK (F : ExcBaseFacts B nw ini bmB) (hT : ∀ y : String, bm.contains (.type y) = bmB.contains (.type y)) {ps : List Value} {kw : List (Str × Value)} {fI : Addr} {Q : Fin → Shared → Prop}
    (hC : ClsAt h nm qn C N bs bm hd sn sub ab col dd k0 k1 k2 k3 k5 nw) (hi : Looks (model P w) h (typeLookup (.ref C) "__init__") (some (.ref fI))) (hb : ∀ x, Looks (model P w) h (bindSpecial (.ref fI) x) (.ref fI, [x])) (hl : ps.length ≤ sizeLine)
    (hq : codeAny (model P w) A (.call (.ref fI) ⟨.ref (h.objs.size + 1) :: ps, kw⟩) (fun r s' => match r with
      | .ok (.ret v) => v = .none ∧ Q (.done (.ret (.ref (h.objs.size + 1)))) s'
      | .ok _ => False
      | .error e => E e s') ⟨(h.push (kdv_tup ps)).push (excO C h.objs.size), g, dr, tk, os⟩) :
    wpAny (model P w) A (Builtin.«type.__call__» ⟨.ref C :: ps, kw⟩) Q E ⟨h, g, dr, tk, os⟩ := by
  have hC' := hC
  have hC : h.get? C = some (excClassObj nm qn C N bs bm hd sn sub ab col dd k0 k1 k2 k3 k5 nw) := hC
  repeat
    first
      | with_reducible refine wpAny_loadPart_at hC ?_
      | with_reducible refine wpAny_madeBy_exc hC ?_
      | wp_step
  refine codeAny_call_builtin_code (Code.quiet_builtin _ F.quiet) (chk_newK F hT hC' ?_)
  refine newK F hT hC' hl ?_
  show wpAny _ _ _ _ _ _
  have keep : ∀ b o, h.get? b = some o → ((h.push (kdv_tup ps)).push (excO C h.objs.size)).get? b = some o := fun b o e => Heap.get?_push_of_some _ (Heap.get?_push_of_some _ e)
  have hC2 := keep _ _ hC
  have here : ((h.push (kdv_tup ps)).push (excO C h.objs.size)).get? (h.objs.size + 1) = some (excO C h.objs.size) := by heap_get
  have self : (Value.ref C :: bm).contains (.ref C) = true := by simp
  have i1 := hi.keeps keep
  have b1 := (hb (.ref (h.objs.size + 1))).keeps keep
  unfold isInstance
  repeat
    first
      | with_reducible refine wpAny_loadPart_at here ?_
      | (with_reducible refine wpAny_isSubtype_exc hC2 ?_
         rw [self])
      | wp_step
  show wpAny _ _ (typeLookup (.ref C) _) _ _ _
  refine i1.at ?_
  refine wpAny_holding (wpAny_bind (b1.at ?_))
  refine wpAny_bind (wpAny_call (codeAny_mono hq fun r s' z => ?_))
  cases r with
  | error e => exact z
  | ok fl =>
    cases fl with
    | next => exact z.elim
    | brk => exact z.elim
    | cont => exact z.elim
    | ret v =>
      obtain ⟨rfl, z⟩ := z
      first
        | exact wpAny_pure (wpAny_pure z)
        | (wp_walk
           exact z)
theorem chk_typeK {ps : List Value} {kw : List (Str × Value)} {Q : Unit → Shared → Prop} (hC : ClsAt h nm qn C N bs bm hd sn sub ab col dd k0 k1 k2 k3 k5 nw) (hq : Q () ⟨h, g, dr, tk, os⟩) : wpAny M A (checkBuiltinCall "type.__call__" ⟨.ref C :: ps, kw⟩) Q E ⟨h, g, dr, tk, os⟩ := by
  have hC : h.get? C = some (excClassObj nm qn C N bs bm hd sn sub ab col dd k0 k1 k2 k3 k5 nw) := hC
  have f3 := tc_sub
  have hT : (⟨h, g, dr, tk, os⟩ : Shared).TypeIs (.ref C) "type" := ⟨_, hC, rfl⟩
  unfold checkBuiltinCall
  rw [tc_kind, tc_split]
  dsimp only
  repeat
    any_goals
      first
        | assumption
        | with_reducible refine wpAny_loadPart_at hC ?_
        | with_reducible refine wpAny_onRaise ?_
        | with_reducible refine wpAny_map ?_
        | wp_step
/-- C(.., x=..) -/
theorem callK (F : ExcBaseFacts B nw ini bmB) (hT : ∀ y : String, bm.contains (.type y) = bmB.contains (.type y)) {ps : List Value} {kw : List (Str × Value)} {fI : Addr}
    (hC : ClsAt h nm qn C N bs bm hd sn sub ab col dd k0 k1 k2 k3 k5 nw) (hi : Looks (model P w) h (typeLookup (.ref C) "__init__") (some (.ref fI))) (hb : ∀ x, Looks (model P w) h (bindSpecial (.ref fI) x) (.ref fI, [x])) (hl : ps.length ≤ sizeLine)
    (hq : codeAny (model P w) (A.under (.builtin "type.__call__" ⟨.ref C :: ps, kw⟩)) (.call (.ref fI) ⟨.ref (h.objs.size + 1) :: ps, kw⟩) (InitBack (h.objs.size + 1) R) ⟨(h.push (kdv_tup ps)).push (excO C h.objs.size), g, dr, tk, os⟩) :
    codeAny (model P w) A (.call (.ref C) ⟨ps, kw⟩) R ⟨h, g, dr, tk, os⟩ := by
  have hC' := hC
  have hC : h.get? C = some (excClassObj nm qn C N bs bm hd sn sub ab col dd k0 k1 k2 k3 k5 nw) := hC
  have f1 := tc_lookup
  have f2 := tc_bind (.ref C)
  have hTy : (⟨h, g, dr, tk, os⟩ : Shared).TypeIs (.ref C) "type" := ⟨_, hC, rfl⟩
  refine codeAny_of_tree ?_
  show wpAny _ _ (callAny (.ref C) _) _ _ _
  repeat
    any_goals
      first
        | assumption
        | with_reducible refine wpAny_loadPart_at hC ?_
        | wp_step
  refine ⟨rfl, ?_⟩
  refine codeAny_call_builtin_at (Code.quiet_builtin _ (by decide +kernel)) entry_typeCall (chk_typeK hC' (type_callK F hT hC' hi hb hl ?_))
  refine codeAny_mono hq fun r s' z => ?_
  cases r with
  | error e => exact z
  | ok fl =>
    cases fl with
    | ret v => exact z
    | next => exact z
    | brk => exact z
    | cont => exact z
end
end Ev
end
end
section
set_option Elab.async false
set_option linter.all false
set_option maxRecDepth 100000
set_option maxHeartbeats 2000000
/-! EvErrM: an error made as a value. -/
noncomputable section
namespace Ev
open PySem PySem.Spec L2
set_option autoImplicit false
section
variable {P : Program} {w : World} {K : PySem.W.Frag} {mg : Str → Option Value} {base : Heap} {C fI cda cc : Addr} {fd : FuncData} {xs : List Str}
/-- what an __init__ promises, also one that keeps nothing -/
def spG (C : Addr) (xs : List Str) : Sp := fun vs H Q _ => ∃ (a : Addr) (ws : List V), vs = .ref a :: ws ∧ ws.length = xs.length ∧ H a = some (exo a C none) ∧ ∀ H', Kept C a xs ws H xs.length H' → Q .non H'
theorem init_okG (F : ErrF P K C fI cda cc fd xs) {txt : Str} {jj k : Nat} {rest : List Stmt} {p0 p1 p2 p3 p4 p5 : Pos} (hbody : fd.body = .stmts (.Expr (.Call (.Attribute (.Call (.Name "super" p0) [] [] p1) "__init__" p2) [.Constant (.str txt) jj p3] [] p4) p5 :: rest))
    (hpos : (p2.endLine == p4.line) = true) (as : Asgs xs rest) (nn : ∀ x ∈ xs, (x == ("__debug__" : Str)) = false ∧ (x == ("__classdict__" : Str)) = false) (hxl : xs.length ≤ 900) : FnOk P w K mg base (CX P w) (k + 1) fI fd (("self" : Str) :: xs) (spG C xs) := by
  refine ⟨fun vs H Q E ⟨a, ws, e, hl, _⟩ => by rw [e, List.length_cons, List.length_cons, hl], fun A outer s H args us vs Q E room e0 bt rel sp => ?_⟩
  obtain ⟨a, ws, rfl, hl, ha, hq⟩ := sp
  obtain ⟨oc, od, osl, lkf⟩ := F.fn
  have inK : K.In s.heap := e0.mod.kin.keeps fun c o e => (e0.bs c o e).1
  have noL : s.heap.NoLimit := e0.mod.nolimit.keeps fun c o e => (e0.bs c o e).1
  refine PySem.ks_codeAny_call_defAt (fd := fd) room.depth (inK _ _ lkf) rfl noL (PySem.W.codeRec_of inK F.cdi) hbody bt F.nce (fun y hy => F.loc y.1 (List.of_mem_zip hy).1) (fun h' ns keep => ?_) F.co F.gen F.knd
  have J := inv_init (w := w) (mg := mg) (E := E) (t' := s.toks + ((("self" : Str) :: xs).zip us).length) F room.hd e0 (by rw [List.length_cons, hl]) rel ns keep
  have h0 : (start (("self" : Str) :: xs) (V.ref a :: ws))[0]? = some (some (.ref a)) := rfl
  have hσ : ∀ (i : Nat) v, ws[i]? = some v → (start (("self" : Str) :: xs) (V.ref a :: ws))[i + 1]? = some (some v) := fun i v h => getB (xs := V.ref a :: ws) (by rw [List.getElem?_cons_succ]; exact h)
  have hint : interactive (callEnv fd s.heap.objs.size fI) = false := by
    unfold interactive
    rw [show (callEnv fd s.heap.objs.size fI).scope.kind = .function from F.knd]
    rfl
  refine PySem.ks_wpAt_execs_cons (PySem.ks_wpAt_Expr_any (super_ok F hpos rfl J h0 ha fun s' I' => ?_) hint)
  show PySem.wpAt _ _ _ (execs rest _) _ _ _
  have z := asg_ok (w := w) (mg := mg) (base := base) (A := A) (outer := outer) (s := s) (H := H) (E := E) (X := cxI P w K mg base ((("self" : Str)) :: xs) fd fI A outer s H E) F (D := { nx := fun _ H' => Q .non H', rt := Q }) rfl h0 hσ hl hxl nn (fun H' hk => hq H' hk) as (Nat.zero_le _) List.drop_zero (.inl ⟨rfl, rfl, ha⟩)
  refine PySem.wpAt_of_wpAny (wpAny_mono (z [] s' I') (fun fl s2 q => ?_) fun e s2 q => q)
  cases fl with
  | ret u =>
    obtain ⟨v, σ', H', J', rv, q⟩ := q
    exact ⟨v, H', J'.os, J'.bare, J'.base, J'.hok, rv, q⟩
  | next =>
    obtain ⟨σ', H', J', q⟩ := q
    exact ⟨.non, H', J'.os, J'.bare, J'.base, J'.hok, rfl, q⟩
  | brk => exact (let ⟨_, _, _, q⟩ := q; q.elim)
  | cont => exact (let ⟨_, _, _, q⟩ := q; q.elim)
end
theorem errO_ok {P : Program} {w : World} {H : Hp} {h : Heap} {a C : Addr} {od : Option Addr} {vs : Array Value} (e : h.get? a = some ⟨.ref C, od, .fields vs, #[]⟩) : ObjOk P w H h a (errO a (.ref C) od) :=
  ⟨⟨_, vs, e, ⟨rfl, rfl⟩, rfl⟩, ⟨_, e⟩, fun h1 h2 z k => by
    obtain ⟨oe, ws, z1, z2, z3⟩ := z
    exact ⟨oe, ws, k _ z1, z2, z3⟩⟩
theorem errO_own {a x : Addr} {c : Value} {d : Option Addr} : errO a c d ≠ .own x := fun z => by
  have z' : HO.ext _ = HO.own x := z
  cases z'
theorem errO_tup {a : Addr} {c : Value} {d : Option Addr} {xs : List V} : errO a c d ≠ .tup xs := fun z => by
  have z' : HO.ext _ = HO.tup xs := z
  cases z'
section
variable {X : Cx} {pins : List (Addr × Obj)} {σ : St} {H1 H2 : Hp} {hp hp2 h2 : Heap} {g1 g2 : Array GenState} {d1 d2 : Drawn} {t1 t2 : Nat} {os1 os2 : OsState} {a C d : Addr} {xs : List Str} {ws : List V}
/-- the end of C(..): the new error is known -/
theorem mk_last (I1 : Inv X pins σ H1 ⟨hp, g1, d1, t1, os1⟩) (ha : hp.objs.size ≤ a) (k : ∀ b o, hp.get? b = some o → hp2.get? b = some o) (un : Un (frs X.stack) [] (upd H1 a (exo a C none)) H2 hp2 h2) (hok : HOk X.prog X.w H2 h2) (ho : os2 = os1) (hb : PyProof.Rows.AllBare g2)
    (kp : Kept C a xs ws (upd H1 a (exo a C none)) xs.length H2) (hl : ws.length = xs.length) : ∃ H', ErrNew H1 a C xs ws H' ∧ Inv X pins σ H' ⟨h2, g2, d2, t2, os2⟩ := by
  have hn : H1 a = none := I1.hok.fresh ha
  have nha : ∀ {b : Addr} {o : Obj}, hp.get? b = some o → b ≠ a := fun {b o} z => Nat.ne_of_lt (Nat.lt_of_lt_of_le (Heap.lt_size z) ha)
  have up : ∀ {b : Addr}, b ≠ a → H1 b = none → upd H1 a (exo a C none) b = none := fun {b} q n => by
    rw [upd_ne q]
    exact n
  rcases kp with ⟨z1, z2, z3⟩ | ⟨dx, fs, y1, y2, y3, y4, y5, y6, y7⟩
  · refine ⟨_, .inl ⟨List.length_eq_zero_iff.mp z1, rfl⟩, ?_⟩
    subst z2
    obtain ⟨t0, hoe⟩ := exo_at hok z3
    refine I1.call' (ch := []) ho { keep := fun b o z n hf hx => un.keep b o (k b o z) (up (nha z) n) hf hx, slot := fun b o z n hf hx => un.slot b o (k b o z) (up (nha z) n) hf hx, free := fun b o z n hx => by rw [upd_ne (nha z)]; exact n, there := fun b o z hx => un.there b o (k b o z) hx, tups := fun b ys z => by rw [upd_ne (ne_of_none z hn)]; exact z, frzs := fun b o v z => by rw [upd_ne (ne_of_none z hn)]; exact z, tbls := fun b ps z => ⟨#[], by rw [upd_ne (ne_of_none z hn), z]; simp⟩ } (fun b o z => ?_) hb (fun b z => absurd z (by simp))
    by_cases hba : b = a
    · subst hba
      rw [upd_same] at z
      cases z
      exact errO_ok hoe
    · rw [upd_ne hba] at z
      exact (hok b o (by rw [upd_ne hba]; exact z)).stay (fun c v hc q => q)
        (fun c hc => by
          have : c ≠ a := fun q => by
            subst q
            rw [upd_same] at hc
            exact exo_own (Option.some.inj hc)
          rw [upd_ne this] at hc ⊢
          exact hc)
        (fun c ys hc => by
          have : c ≠ a := fun q => by
            subst q
            rw [upd_same] at hc
            exact exo_tup (Option.some.inj hc)
          rw [upd_ne this] at hc ⊢
          exact hc)
  · rw [upd_ne y2] at y1
    obtain ⟨t0, hoe⟩ := exo_at hok y3
    obtain ⟨mA, hns, rel⟩ := exd_at hok y4
    refine ⟨upd (upd H1 dx (.xd fs)) a (errO a (.ref C) (some dx)), .inr ⟨dx, fs, y1, y2, rfl, fun i x v h1 h2 => y7 i x v (List.getElem?_eq_some_iff.mp h1).1 h1 h2⟩, ?_⟩
    have nd : ∀ {b : Addr} {o : Obj}, hp.get? b = some o → H1 b = none → b ≠ dx := fun {b o} z n e => by
      have y := un.free b o (k b o z) (up (nha z) n) (by simp)
      rw [e, y4] at y
      cases y
    have same : ∀ {b : Addr}, b ≠ a → b ≠ dx → H2 b = H1 b := fun {b} q1 q2 => by
      rw [y6 b q1 q2, upd_ne q1]
    refine I1.call' (ch := []) ho { keep := fun b o z n hf hx => un.keep b o (k b o z) (up (nha z) n) hf hx, slot := fun b o z n hf hx => un.slot b o (k b o z) (up (nha z) n) hf hx, free := fun b o z n hx => by rw [upd_ne (nha z), upd_ne (nd z n)]; exact n, there := fun b o z hx => un.there b o (k b o z) hx, tups := fun b ys z => by rw [upd_ne (ne_of_none z hn), upd_ne (ne_of_none z y1)]; exact z, frzs := fun b o v z => by rw [upd_ne (ne_of_none z hn), upd_ne (ne_of_none z y1)]; exact z, tbls := fun b ps z => ⟨#[], by rw [upd_ne (ne_of_none z hn), upd_ne (ne_of_none z y1), z]; simp⟩ } (fun b o z => ?_) hb (fun b z => absurd z (by simp))
    by_cases hba : b = a
    · subst hba
      rw [upd_same] at z
      cases z
      exact errO_ok hoe
    · rw [upd_ne hba] at z
      by_cases hbd : b = dx
      · subst hbd
        rw [upd_same] at z
        cases z
        exact ⟨mA, hns, rel⟩
      · rw [upd_ne hbd] at z
        exact (hok b o (by rw [same hba hbd]; exact z)).stay (fun c v hc q => q)
          (fun c hc => by
            have q1 : c ≠ a := fun q => by
              subst q
              rw [y3] at hc
              exact exo_own (Option.some.inj hc)
            have q2 : c ≠ dx := fun q => by
              subst q
              rw [y4] at hc
              exact exd_own (Option.some.inj hc)
            rw [upd_ne q1, upd_ne q2, ← same q1 q2]
            exact hc)
          (fun c ys hc => by
            have q1 : c ≠ a := fun q => by
              subst q
              rw [y3] at hc
              exact exo_tup (Option.some.inj hc)
            have q2 : c ≠ dx := fun q => by
              subst q
              rw [y4] at hc
              exact exd_tup (Option.some.inj hc)
            rw [upd_ne q1, upd_ne q2, ← same q1 q2]
            exact hc)
end
/-! ### the first argument by its place, the others by keywords -/
theorem bind_kw1 {fd : FuncData} {p0 : Str} {ps : List Str} (h : plainA fd.params (p0 :: ps) = true) (hd : fd.defaults = .none) {a : Value} {kw : List (Str × Value)} {us : List Value} (hk : KwOk ps ⟨[], kw⟩ us) : bindArgs fd ⟨[a], kw⟩ = pure ((p0 :: ps).zip (a :: us)) := by
  obtain ⟨ks, ws, is, e, lw, nd, sup, k1, k2⟩ := hk
  have e : kw = ks.zip ws := congrArg Args.kw e
  subst e
  obtain ⟨d1, d2, ⟨a1, a2, a3, a4, a5, a6, a7⟩, d4, d5, d6, d7, d8, d9, d10, d11, d12, d13, d14, d15⟩ := fd
  dsimp only at h hd
  subst hd
  simp only [plainA, Bool.and_eq_true, List.isEmpty_iff, Option.isNone_iff_eq_none, decide_eq_true_eq] at h
  obtain ⟨h1, h2, h3, ⟨h4, h5⟩, h6⟩ := h
  subst h1 h2 h3 h4
  have np := (List.nodup_cons.mp h6).1
  obtain ⟨fz, lo⟩ := kw_fm nd k1 k2
  have mp : (ks.zip ws).map (·.1) = ks := List.map_fst_zip (by omega)
  have ne : ∀ n ∈ ps, (n == p0) = false := fun n hn => by
    cases q : n == p0 with
    | false => rfl
    | true => exact (np (eq_of_beq q ▸ hn)).elim
  have fz2 : ((p0 :: ps).filterMap fun n => (((p0, a) :: ks.zip ws).lookup n).map (n, ·)) = (p0, a) :: ps.zip us := by
    rw [List.filterMap_cons, List.lookup_cons, beq_self_eq_true]
    show (p0, a) :: _ = _
    rw [← fz]
    congr 1
    refine fm_congr fun n hn => ?_
    rw [List.lookup_cons, ne n hn]
  unfold bindArgs
  simp only [List.map_nil, List.nil_append, List.append_nil, Option.isNone_none, Bool.and_true]
  generalize hps : List.map (fun x : Arg => x.arg) a2 = qs at *
  subst h5
  have mis : (List.filter (fun n => (List.lookup n ((p0, a) :: ks.zip ws)).isNone) (p0 :: ps)) = [] := by
    rw [List.filter_eq_nil_iff]
    intro n hn
    rcases List.mem_cons.mp hn with z | z
    · subst z
      rw [List.lookup_cons, beq_self_eq_true]
      simp
    · rw [List.lookup_cons, ne n z]
      have := lo n z
      simp only [Option.isNone_iff_eq_none]
      intro y
      have y : (ks.zip ws).lookup n = none := y
      rw [y] at this
      cases this
  rw [forIn_inv0 (fun l => ((p0, a) :: l, [])) (a := ((p0 :: ps).zip [a], [])) (by rw [List.zip_cons_cons, List.zip_nil_right]) fun p x q e => ?_, pure_bind]
  · have sq : seqItems? Value.none = pure none := rfl
    rw [sq, pure_bind]
    rw [if_neg (by simp)]
    simp only [Option.getD_none, List.drop_nil, List.length_nil, Nat.sub_zero, List.take_length, mis, List.isEmpty_nil, Bool.not_true, Bool.false_eq_true, if_false, List.drop_length, List.zip_nil_left, List.zip_nil_right, List.forIn_nil, pure_bind, fz2]
    rfl
  · have mx : x ∈ ks.zip ws := by rw [e]; simp
    have xm : x.1 ∈ ps := sup _ (List.of_mem_zip (a := x.1) (b := x.2) mx).1
    have c1 : (p0 :: ps).contains x.1 = true := by
      rw [List.contains_iff_mem]
      exact List.mem_cons_of_mem _ xm
    have c2 : (List.lookup x.1 ((p0, a) :: p)) = none := by
      rw [List.lookup_cons, ne _ xm]
      refine look_none fun z => ?_
      rw [← mp, e, List.map_append, List.map_cons] at nd
      have := (List.nodup_append.mp nd).2.2 _ z _ (List.mem_cons_self ..)
      exact this rfl
    simp only [c1, c2, Bool.true_or, if_true, Option.isSome_none, Bool.false_eq_true, if_false]
    rfl
section
variable {P : Program} {w : World} {K : PySem.W.Frag} {mg : Str → Option Value} {base : Heap} {C fI cda cc : Addr} {fd : FuncData} {xs : List Str}
/-- such errors are made as values -/
theorem mkO_ok (F : ErrF P K C fI cda cc fd xs) {txt x : Str} {jj c r0 : Nat} {rest : List Stmt} {p0 p1 p2 p3 p4 p5 : Pos} {G : Gx} (hbody : fd.body = .stmts (.Expr (.Call (.Attribute (.Call (.Name "super" p0) [] [] p1) "__init__" p2) [.Constant (.str txt) jj p3] [] p4) p5 :: rest))
    (hpos : (p2.endLine == p4.line) = true) (as : Asgs xs rest) (nn : ∀ x ∈ xs, (x == ("__debug__" : Str)) = false ∧ (x == ("__classdict__" : Str)) = false) (hxl : xs.length ≤ 900)
    (he : errs[c]? = some (x, xs)) (hc : argsN c = xs.length) (hG : G (clN + c) = some C) (hm : mg x = some (.ref C)) (bd : Binds K fd (("self" : Str) :: xs) []) (hpl : plainA fd.params (("self" : Str) :: xs) = true) (hdf : fd.defaults = .none) {X : Cx} (pl : Pl P w K mg base r0 X) (h2 : 2 ≤ r0) : MakesO X G c := by
  obtain ⟨e1, e2, e3, e4, e5, _, room, gu⟩ := pl
  subst e1 e2 e3 e4 e5
  refine ⟨x, xs, C, he, hG, hm, F.oex.kC, fun pins σ H s us kw vals vs Q I hk r hl h => ?_⟩
  obtain ⟨nm, q, N, bs, bm, sn, sub, ab, col, dd, k0, k1, k2, k3, k5, hC, hbm⟩ := F.oex.cls
  obtain ⟨hp, g, dr, tk, os⟩ := s
  have lv : vals.length = xs.length := by
    rw [← r.length, hl, hc]
  have lu : us.length ≤ sizeLine := by
    rw [sizeLine_eq]
    rcases hk with ⟨z, _⟩ | ⟨z, _⟩
    · rw [z]; omega
    · rw [z]; simp
  have F1 : FnOk X.prog X.w X.K X.mg X.base (CX X.prog X.w) 1 fI fd (("self" : Str) :: xs) (spG C xs) := init_okG (k := 0) F hbody hpos as nn hxl
  have room := room.mono h2
  have hsz : hp.objs.size ≤ hp.objs.size + 1 := Nat.le_succ _
  have hn : H (hp.objs.size + 1) = none := I.hok.fresh hsz
  have kk : ∀ b o, hp.get? b = some o → ((hp.push (PySem.W.kdv_tup us)).push (PySem.HandSPX.excO C hp.objs.size)).get? b = some o := fun b o e => Heap.get?_push_of_some _ (Heap.get?_push_of_some _ e)
  have hget : ((hp.push (PySem.W.kdv_tup us)).push (PySem.HandSPX.excO C hp.objs.size)).get? (hp.objs.size + 1) = some (PySem.HandSPX.excO C hp.objs.size) := by heap_get
  have I2 : Inv X pins σ (upd H (hp.objs.size + 1) (exo (hp.objs.size + 1) C none)) ⟨(hp.push (PySem.W.kdv_tup us)).push (PySem.HandSPX.excO C hp.objs.size), g, dr, tk, os⟩ :=
    I.laid (t' := tk) (a := hp.objs.size + 1) (o := exo (hp.objs.size + 1) C none) (h' := (hp.push (PySem.W.kdv_tup us)).push (PySem.HandSPX.excO C hp.objs.size)) kk hsz (exo_ok hget)
  generalize ea : hp.objs.size + 1 = a at *
  have r2 : Vals (V.ref a :: vs) (Value.ref a :: vals) := .cons rfl r
  have bt : BindsTo ⟨(hp.push (PySem.W.kdv_tup us)).push (PySem.HandSPX.excO C hp.objs.size), g, dr, tk, os⟩ fd ⟨Value.ref a :: us, kw⟩ ((("self" : Str) :: xs).zip (Value.ref a :: vals)) := by
    rcases hk with ⟨z1, z2⟩ | ⟨z1, z2⟩
    · subst z1 z2
      have := bd ⟨(hp.push (PySem.W.kdv_tup us)).push (PySem.HandSPX.excO C hp.objs.size), g, dr, tk, os⟩ (Value.ref a :: us) I2.kIn (by rw [List.append_nil, List.length_cons, List.length_cons, lv])
      rw [List.append_nil] at this
      exact this
    · subst z1
      exact .of_eq (bind_kw1 hpl hdf z2)
  have sp : spG C xs (V.ref a :: vs) (upd H a (exo a C none)) (fun v H2 => v = .non ∧ Kept C a xs vs (upd H a (exo a C none)) xs.length H2) (fun _ _ _ => False) := ⟨a, vs, rfl, by rw [hl, hc], upd_same, fun H' hk => ⟨rfl, hk⟩⟩
  refine wpAny_call (callK PySem.F.excBase_ValueError (fun y => PySem.HandSPX.refsVE_contains y bm hbm) (I.kIn _ _ hC) (PySem.W.looks_findIn I.kIn F.ini) (fun self => PySem.W.bind_fn I.kIn self F.typ) lu
    (codeAny_mono (ea ▸ F1.run _ X.stack _ _ ⟨Value.ref a :: us, kw⟩ (Value.ref a :: vals) _ _ (fun _ _ _ => False) (room.make C us kw) (I2.env0.make C us kw) bt r2 sp) fun res s' hq => ?_))
  cases res with
  | error er => exact (cx_no hq).elim
  | ok fl =>
    cases fl with
    | ret u =>
      obtain ⟨v, H2, os2, bare2, un2, hok2, rv, ev, kp⟩ := hq
      subst ev
      obtain ⟨h2, g2, d2, t2, os'⟩ := s'
      subst ea
      obtain ⟨H', en, I3⟩ := mk_last (d2 := d2) (t2 := t2) I (Nat.le_succ _) kk un2 hok2 os2 bare2 kp (by rw [hl, hc])
      refine ⟨rv, ?_⟩
      exact ⟨.ref (hp.objs.size + 1), H', I3, rfl, h _ H' hn en⟩
    | next => exact hq.elim
    | brk => exact hq.elim
    | cont => exact hq.elim
/-- an error of the class above them all -/
theorem mkT_ok {x : Str} {c : Nat} {G : Gx} {X : Cx} (T : OexC X.K C) (hi : PySem.W.findIn X.K (.ref C) "__init__" = some (some (.builtin "ValueError.__init__"))) (he : errs[c]? = some (x, [])) (hc : argsN c = 1) (hG : G (clN + c) = some C) (hm : X.mg x = some (.ref C)) : MakesO X G c := by
  refine ⟨x, [], C, he, hG, hm, T.kC, fun pins σ H s us kw vals vs Q I hk r hl h => ?_⟩
  obtain ⟨nm, q, N, bs, bm, sn, sub, ab, col, dd, k0, k1, k2, k3, k5, hC, hbm⟩ := T.cls
  obtain ⟨hp, g, dr, tk, os⟩ := s
  have lv : vals.length = 1 := by
    rw [← r.length, hl, hc]
  rcases hk with ⟨z1, z2⟩ | ⟨z1, ks, ws, is, _, _, _, _, z3, z4⟩
  · subst z1 z2
    have hsz : hp.objs.size ≤ hp.objs.size + 1 := Nat.le_succ _
    have hn : H (hp.objs.size + 1) = none := I.hok.fresh hsz
    refine PySem.W.call_B PySem.F.excBase_ValueError (fun y => PySem.HandSPX.refsVE_contains y bm hbm) (I.kIn _ _ hC) (PySem.W.looks_findIn I.kIn hi) (by rw [lv, sizeLine_eq]; omega) fun h' k e1 _ => ?_
    have I2 : Inv X pins σ (upd H (hp.objs.size + 1) (errO (hp.objs.size + 1) (.ref C) none)) ⟨h', g, dr, tk, os⟩ := I.laid (t' := tk) (a := hp.objs.size + 1) (o := errO (hp.objs.size + 1) (.ref C) none) (h' := h') k hsz (errO_ok e1)
    exact ⟨.ref (hp.objs.size + 1), _, I2, rfl, h _ _ hn (.inl ⟨rfl, rfl⟩)⟩
  · have e0 : is = [] := by simpa using z3
    subst e0
    have : vals.length = 0 := by
      have := congrArg List.length z4
      simpa using this.symm
    omega
end
end Ev
end
end
section
set_option Elab.async false
set_option linter.all false
set_option maxRecDepth 100000
set_option maxHeartbeats 2000000
/-! EvHead: the facts of a law's module (constants, defs), read off the head. -/
noncomputable section
namespace Ev
open PySem L2
set_option autoImplicit false
/-! ### constants -/
mutual
/-- the module's value u is w -/
def conV (K : PySem.W.Frag) : W → Value → Bool
  | .non, u => (match u with | .none => true | _ => false)
  | .bl b, u => (match u with | .bool c => b == c | _ => false)
  | .int i, u => (match u with | .int j _ => eqI i j | _ => false)
  | .str x, u => (match u with | .str y _ => eqS x y | _ => false)
  | .tup ws, u => (match u with
    | .ref a => (match K.lookup a with
      | some ⟨.type c, none, .seq its _, _⟩ => decide (c = "tuple") && (decide (its.size ≤ sizeLine) && conVs K ws its.toList)
      | _ => false)
    | _ => false)
  | .rpr _, _ => false
  | .lst _, _ => false
  | .dct _, _ => false
  | .fn _, _ => false
  | .orc, _ => false
  | .scr _, _ => false
  | .clo _ _, _ => false
  | .clr _ _, _ => false
  | .err _ _, _ => false
def conVs (K : PySem.W.Frag) : List W → List Value → Bool
  | [], us => us.isEmpty
  | w :: ws, us => (match us with
    | [] => false
    | u :: us => conV K w u && conVs K ws us)
end
section
variable {K : PySem.W.Frag} {G : Gx}
mutual
theorem conV_ok : ∀ {w : W} {u : Value}, conV K w u = true → ∃ v, RelV v u ∧ (∀ g : Gh, RV K G g w v) ∧ TupC K w v
  | .non, u, h => by
    unfold conV at h
    split at h
    · exact ⟨.non, rfl, fun _ => .non, fun _ e => by cases e⟩
    · cases h
  | .bl b, u, h => by
    unfold conV at h
    split at h
    · rename_i c
      have e : b = c := eq_of_beq h
      subst e
      exact ⟨.bl b, rfl, fun _ => .bl b, fun _ e => by cases e⟩
    · cases h
  | .int i, u, h => by
    unfold conV at h
    split at h
    · rename_i j t
      rw [eqI_dec] at h
      have e := of_decide_eq_true h
      subst e
      exact ⟨.int i, ⟨t, rfl⟩, fun _ => .int i, fun _ e => by cases e⟩
    · cases h
  | .str x, u, h => by
    unfold conV at h
    split at h
    · rename_i y t
      have e := eqS_iff.mp h
      subst e
      exact ⟨.str x, ⟨t, rfl⟩, fun _ => .str x, fun _ e => by cases e⟩
    · cases h
  | .tup ws, u, h => by
    unfold conV at h
    split at h
    · rename_i a
      split at h
      · rename_i c its n sl q
        simp only [Bool.and_eq_true, decide_eq_true_eq] at h
        obtain ⟨h1, h2, h3⟩ := h
        obtain ⟨vs, r1, r2⟩ := conVs_ok h3
        refine ⟨.ref a, rfl, fun g => .tup (.inr ⟨_, its, n, q, congrArg Value.type h1, rfl, h2, r1⟩) (r2 g), fun _ _ => ⟨a, _, rfl, q, congrArg Value.type h1, rfl⟩⟩
      · cases h
    · cases h
  | .rpr _, _, h => by unfold conV at h; cases h
  | .lst _, _, h => by unfold conV at h; cases h
  | .dct _, _, h => by unfold conV at h; cases h
  | .fn _, _, h => by unfold conV at h; cases h
  | .orc, _, h => by unfold conV at h; cases h
  | .scr _, _, h => by unfold conV at h; cases h
  | .clo _ _, _, h => by unfold conV at h; cases h
  | .clr _ _, _, h => by unfold conV at h; cases h
  | .err _ _, _, h => by unfold conV at h; cases h
theorem conVs_ok : ∀ {ws : List W} {us : List Value}, conVs K ws us = true → ∃ vs, Vals vs us ∧ ∀ g : Gh, RVs K G g ws vs
  | [], us, h => by
    unfold conVs at h
    rw [List.isEmpty_iff] at h
    subst h
    exact ⟨[], .nil, fun _ => .nil⟩
  | w :: ws, us, h => by
    unfold conVs at h
    split at h
    · cases h
    · rename_i u us
      rw [Bool.and_eq_true] at h
      obtain ⟨v, r1, r2, _⟩ := conV_ok h.1
      obtain ⟨vs, r3, r4⟩ := conVs_ok h.2
      exact ⟨v :: vs, .cons r1 r3, fun g => .cons (r2 g) (r4 g)⟩
end
end
def mconB (K : PySem.W.Frag) (c : Str × W) : Bool := match PySem.W.nsIn K mainGlobals c.1 with
  | some (some u) => conV K c.2 u
  | _ => false
/-! ### what is told of the head -/
/-- the class p and its __init__, as wanted -/
def mkB (P : Program) (K : PySem.W.Frag) (p : Str × List Str) : Bool := errB P K (He.ga K p.1) p.2 && (match PySem.W.findIn K (.ref (He.ga K p.1)) "__init__" with
    | some (some (.ref fI)) => (match K.lookup fI with
      | some ⟨_, _, .func fd, _⟩ => plainA fd.params ("self" :: p.2) && (match fd.defaults with
        | .none => true
        | _ => false)
      | _ => false)
    | _ => false)
/-- the class above them all -/
def topB (K : PySem.W.Frag) (C : Addr) : Bool := oexB K C && decide (PySem.W.findIn K (.ref C) "__init__" = some (some (.builtin "ValueError.__init__")))
/-- the class number c -/
def erB (P : Program) (K : PySem.W.Frag) (c : Nat) : Bool := match nth errs c with
  | some p => ((xfB K (He.ga K p.1) && isB K (He.ga K p.1)) && (decide (PySem.W.exmOne K (.ref (He.ga K p.1)) (.ref (He.ga K "VerbError")) = some true) && famL.all fun y => decide (PySem.W.kitOne K (.ref (He.ga K p.1)) (.type y.1) = some y.2))) && cond (Nat.beq c cTop) (topB K (He.ga K p.1)) (mkB P K p)
  | none => false
/-- which of two classes is which -/
def erP (K : PySem.W.Frag) (c d : Nat) : Bool := match nth errs c with
  | some p => (match nth errs d with
    | some q => decide (PySem.W.exmOne K (.ref (He.ga K p.1)) (.ref (He.ga K q.1)) = some (subE c d)) && decide (PySem.W.kitOne K (.ref (He.ga K p.1)) (.ref (He.ga K q.1)) = some (subE c d))
    | none => false)
  | none => false
def distB : List Nat → Bool
  | [] => true
  | x :: r => r.all (fun y => !Nat.beq x y) && distB r
def smB (K : PySem.W.Frag) : Bool := match K.lookup sysModules with
  | some o => (match o.data with
    | .dict _ _ => true
    | _ => false)
  | none => false
def exB (P : Program) (cs : List (Str × W)) (ers : List Nat) (tf : List He.Defn) (K : PySem.W.Frag) : Bool := (cs.all (mconB K) && smB K) && (ers.all (erB P K) && (ers.all (fun c => ers.all (erP K c)) && (distB (tf.map fun p => (He.cT K p).2) && !(tf.any fun p => Nat.beq (He.cT K p).2 mainGlobals))))
/-- what can be reached, and the statics -/
def refsE (g : Addr → Option Obj) (a : Addr) : List Addr := match g a with
  | some o => He.refsD o
  | none => []
/-- what a class holds: its functions, their code, their cells -/
def clsE (g : Addr → Option Obj) (a : Addr) : List Addr := match g a with
  | some o => (match o.data with
    | .cls cd => (refsE g cd.ns).flatMap fun f => f :: refsE g f
    | _ => [])
  | none => []
/-- rows within rows -/
def seqE (g : Addr → Option Obj) : Nat → Addr → List Addr
  | 0, _ => []
  | n + 1, a => match g a with
    | some o => (match o.data with
      | .seq _ _ => (refsE g a).flatMap fun b => b :: seqE g n b
      | _ => [])
    | none => []
def rootsE (g : Addr → Option Obj) (n : Nat) : List Addr := mainGlobals :: cStatics :: sysModules :: (refsE g mainGlobals ++ ((refsE g mainGlobals).flatMap (refsE g) ++ ((refsE g mainGlobals).flatMap (clsE g) ++ (refsE g mainGlobals).flatMap (seqE g n))))
def kE (g : Addr → Option Obj) (n : Nat) : PySem.W.Frag := He.frT g (rootsE g n)
def obsE (n : Nat) (fa : List He.Fa) (fn : List He.DefD) (ts : List He.Tab) (tf : List He.Defn) (ex : PySem.W.Frag → Bool) (g : Addr → Option Obj) : He.AlX := (He.obsT fa fn ts (kE g n), ex (kE g n) && He.tabsB g tf (kE g n))
theorem saysE {n : Nat} {fa : List He.Fa} {fn : List He.DefD} {ts : List He.Tab} {tf : List He.Defn} {ex : PySem.W.Frag → Bool} {w : World} {h : Heap} (e : obsE n fa fn ts tf ex h.get? = He.valX fn ts w) : He.SaysX fa fn ts tf ex w h (kE h.get? n) := by
  have q1 : He.obsT fa fn ts (kE h.get? n) = He.valT fn ts w := congrArg Prod.fst e
  have q2 : (ex (kE h.get? n) && He.tabsB h.get? tf (kE h.get? n)) = true := congrArg Prod.snd e
  rw [Bool.and_eq_true] at q2
  have at_ : ∀ p ∈ tf, PySem.W.codeHdIn (kE h.get? n) (He.cT (kE h.get? n) p).1 (He.cT (kE h.get? n) p).2 = true ∧ ∃ o, h.get? (He.cT (kE h.get? n) p).2 = some o ∧ He.emptyTab o = true := fun p hp => by
    have z := List.all_eq_true.mp q2.2 p hp
    rw [Bool.and_eq_true] at z
    have z2 := z.2
    split at z2
    · rename_i o ho
      exact ⟨z.1, o, ho, z2⟩
    · cases z2
  refine ⟨q1, q2.1, fun p hp => (at_ p hp).1, fun p hp => ?_, fun p hp => ?_⟩
  · obtain ⟨_, o, y1, y2⟩ := at_ p hp
    exact He.frT_none y1 y2
  · obtain ⟨_, o, y1, y2⟩ := at_ p hp
    rw [y1, He.emptyTab_eq y2]
def hookE (n : Nat) (fa : List He.Fa) (fn : List He.DefD) (ts : List He.Tab) (tf : List He.Defn) (ex : PySem.W.Frag → Bool) : PySem.W.Hook where
  α := He.AlX
  obs := fun s => obsE n fa fn ts tf ex s.heap.get?
  val := fun w => He.valX fn ts w
  says := fun w h => ∃ K : PySem.W.Frag, K.In h ∧ He.SaysX fa fn ts tf ex w h K
  of := fun _ _ e => ⟨_, He.frT_in, saysE e⟩
  keeps := fun _ _ _ y k => let ⟨K, y1, y2⟩ := y; ⟨K, PySem.W.Frag.In.keeps y1 k, ⟨y2.t, y2.more, y2.hd, y2.out, fun p hp => k _ _ (y2.empty p hp)⟩⟩
theorem obsE_eq {n : Nat} {fa : List He.Fa} {fn : List He.DefD} {ts : List He.Tab} {tf : List He.Defn} {ex : PySem.W.Frag → Bool} {g : Addr → Option Obj} {s : Shared} (h : ∀ a, g a = s.heap.get? a) : obsE n fa fn ts tf ex g = (hookE n fa fn ts tf ex).obs s := by
  obtain rfl : g = s.heap.get? := funext h
  rfl
/-! ### the defs of a law: a row for each -/
structure Rw where
  d : He.DefD
  N : List Str
  hk : Bool := false
def erN (c : Nat) : Str := match nth errs c with
  | some p => p.1
  | none => "VerbError"
def faOf (fnm : List Str) (ers : List Nat) : List He.Fa := fnm.map .glo ++ (allBi.map .free ++ cond ers.isEmpty [] (.glo "VerbError" :: ers.map fun c => .glo (erN c)))
def tfOf (rows : List Rw) : List He.Defn := (rows.filter (·.hk)).map (·.d.at_)
def scopeB (N ps : List Str) (sc : Scope) : Bool := (match sc.kind with | .function => true | _ => false) && (!sc.isCoroutine && (!sc.isGenerator && (decide N.Nodup && (decide (N.take ps.length = ps) && ((ps.all fun x => match sc.names.lookup x with
  | some .local => true
  | some .cell => true
  | _ => false) && sc.names.all fun y => match y.2 with
  | .free => false
  | _ => true)))))
theorem scopeB_ok {N ps : List Str} {sc : Scope} (h : scopeB N ps sc = true) : FnScope N ps sc := by
  simp only [scopeB, Bool.and_eq_true, Bool.not_eq_true', decide_eq_true_eq, List.all_eq_true] at h
  obtain ⟨h1, h2, h3, h4, h5, h6, h7⟩ := h
  refine ⟨?_, h2, h3, h4, h5, fun x hx => ?_, fun y hy e => ?_⟩
  · split at h1
    · assumption
    · cases h1
  · have := h6 x hx
    split at this
    · rename_i e; exact .inl e
    · rename_i e; exact .inr e
    · cases this
  · have := h7 y hy
    rw [e] at this
    cases this
def rowB (tb : Tb) (k : Fk) (r : Rw) : Bool := match k with
  | .begun => true
  | .code fn => (fn.hk == r.hk && (fn.pn.isEmpty || decide (fn.pn = r.N.take fn.np))) && (plainA r.d.params (r.N.take fn.np) && (scopeB r.N (r.N.take fn.np) r.d.scope && (r.d.dfl.isEmpty && (r.d.kwd.isEmpty && (Nat.beq (r.N.take fn.np).length fn.np && (Nat.beq fn.ns r.N.length && chkSs (tb.at_ r.hk) r.N r.d.scope (prOf fn.io 0) (noOf fn.io) fn.body r.d.body))))))
  | .lam _ _ => false
def rowsB (tb : Tb) : List Fk → List Rw → List Str → Bool
  | _, [], [] => true
  | k :: ks, r :: rs, x :: xs => decide (r.d.name = x) && (decide (r.d.at_ = (x, none)) && (rowB tb k r && rowsB tb ks rs xs))
  | _, _, _ => false
theorem rowsB_get {tb : Tb} : ∀ {ks : List Fk} {rs : List Rw} {xs : List Str}, rowsB tb ks rs xs = true → ∀ {j : Nat} {x : Str}, xs[j]? = some x → ∃ k r, ks[j]? = some k ∧ rs[j]? = some r ∧ r.d.name = x ∧ r.d.at_ = (x, none) ∧ rowB tb k r = true
  | _, [], [], _, j, x, h => by simp at h
  | k :: ks, r :: rs, y :: xs, c, j, x, h => by
    simp only [rowsB, Bool.and_eq_true, decide_eq_true_eq] at c
    obtain ⟨c1, c2, c3, c4⟩ := c
    cases j with
    | zero =>
      have h : y = x := by simpa using h
      subst h
      exact ⟨k, r, rfl, rfl, c1, c2, c3⟩
    | succ j =>
      obtain ⟨k', r', h1, h2, h3⟩ := rowsB_get c4 (j := j) (x := x) (by simpa using h)
      exact ⟨k', r', by simpa using h1, by simpa using h2, h3⟩
  | [], [], _ :: _, c, _, _, _ => by cases c
  | [], _ :: _, _, c, _, _, _ => by cases c
  | _ :: _, [], _ :: _, c, _, _, _ => by cases c
  | _ :: _, _ :: _, [], c, _, _, _ => by cases c
/-! ### lambdas -/
def lamStB (m : Lm) : Bool := (match m.scope.kind with | .function => true | _ => false) && (!m.scope.isCoroutine && (!m.scope.isGenerator && (m.scope.names.all (fun y => (match y.2 with
  | .cell => false
  | .free => m.N.elem y.1
  | _ => true)) && (m.N.all (fun x => match m.scope.names.lookup x with
  | some .free => true
  | _ => false) && (lamP m.params m.scope && decide (m.N ++ lamPs m.params).Nodup)))))
theorem lamStB_ok {m : Lm} (h : lamStB m = true) : LamSt m := by
  simp only [lamStB, Bool.and_eq_true, Bool.not_eq_true', decide_eq_true_eq, List.all_eq_true] at h
  obtain ⟨h1, h2, h3, h4, h5, h6, h7⟩ := h
  refine ⟨?_, h2, h3, fun y hy e => ?_, fun y hy e => ?_, fun x hx => ?_, h6, h7⟩
  · split at h1
    · assumption
    · cases h1
  · have := h4 y hy
    rw [e] at this
    cases this
  · have := h4 y hy
    rw [e] at this
    exact List.elem_iff.mp this
  · have := h5 x hx
    split at this
    · assumption
    · cases this
def fpnOf (fns : List Fk) (j : Nat) : List Str := match nth fns j with
  | some (.code fn) => fn.pn
  | _ => []
/-- is it the lambda number k? -/
def cklOf (fnm cnm : List Str) (ers : List Nat) (fns : List Fk) (k : Nat) (xs : List Str) (ps : Arguments) (sp : Scope) (bd : Expr) : Bool := match nth fns k with
  | some (.lam n e) => lamStB ⟨xs, ps, bd, sp⟩ && (Nat.beq n (xs.length + (lamPs ps).length) && chkE ⟨fnm, cnm, ers, false, fun _ _ _ _ _ => false, fpnOf fns⟩ (xs ++ lamPs ps) sp e bd)
  | _ => false
def mkTb (fnm cnm : List Str) (ers : List Nat) (fns : List Fk) : Tb := ⟨fnm, cnm, ers, false, cklOf fnm cnm ers fns, fpnOf fns⟩
section
variable {P : Program} {fnm cnm : List Str} {ers : List Nat} {fns : List Fk} {rows : List Rw} {cs : List (Str × W)} {ts : List He.Tab} {K : PySem.W.Frag} {w : World} {h : Heap} {mg : Str → Option Value} {base : Heap}
abbrev Says (P : Program) (fnm : List Str) (ers : List Nat) (rows : List Rw) (cs : List (Str × W)) (ts : List He.Tab) (w : World) (h : Heap) (K : PySem.W.Frag) : Prop := He.SaysX (faOf fnm ers) (rows.map Rw.d) ts (tfOf rows) (exB P cs ers (tfOf rows)) w h K
theorem glo_mem (X : K.In base) (G : base.Ns mainGlobals mg) (c : Says P fnm ers rows cs ts w h K) {x : Str} (e : .glo x ∈ faOf fnm ers) : mg x = some (.ref (He.ga K x)) := He.glo_ok X G (c.t.d.facts e)
theorem glo_at (X : K.In base) (G : base.Ns mainGlobals mg) (c : Says P fnm ers rows cs ts w h K) {j : Nat} {x : Str} (e : fnm[j]? = some x) : mg x = some (.ref (He.ga K x)) :=
  glo_mem X G c (List.mem_append_left _ (List.mem_map.mpr ⟨x, List.mem_of_getElem? e, rfl⟩))
theorem glo_er (X : K.In base) (G : base.Ns mainGlobals mg) (c : Says P fnm ers rows cs ts w h K) {d : Nat} {p : Str × List Str} (hd : d ∈ ers) (e : nth errs d = some p) : mg p.1 = some (.ref (He.ga K p.1)) := by
  refine glo_mem X G c (List.mem_append_right _ (List.mem_append_right _ ?_))
  cases q : ers with
  | nil => rw [q] at hd; cases hd
  | cons a r =>
    refine List.mem_cons_of_mem _ (List.mem_map.mpr ⟨d, by rw [← q]; exact hd, ?_⟩)
    unfold erN
    rw [e]
theorem def_at (c : Says P fnm ers rows cs ts w h K) {j : Nat} {r : Rw} (e : rows[j]? = some r) : ∃ fd, FunD K r.d.name r.d.qual r.d.params r.d.body r.d.scope (r.d.dvs K) (r.d.kws K) (He.fAd K r.d.at_) fd :=
  c.t.d.def_ j (by rw [List.getElem?_map, e]; rfl)
theorem exOf (c : Says P fnm ers rows cs ts w h K) : cs.all (mconB K) = true ∧ (∀ d ∈ ers, erB P K d = true) ∧ (∀ d ∈ ers, ∀ d' ∈ ers, erP K d d' = true) ∧ distB ((tfOf rows).map fun p => (He.cT K p).2) = true ∧ ∀ p ∈ tfOf rows, (He.cT K p).2 ≠ mainGlobals := by
  have m := c.more
  simp only [exB, Bool.and_eq_true, List.all_eq_true, Bool.not_eq_true'] at m
  obtain ⟨⟨m1, _⟩, m2, m3, m4, m5⟩ := m
  refine ⟨List.all_eq_true.mpr m1, m2, m3, m4, fun p hp z => ?_⟩
  rw [List.any_eq_false] at m5
  exact m5 p hp (by rw [z]; exact Nat.beq_refl _)
theorem dist_inj {α : Type} {f : α → Nat} : ∀ {l : List α}, distB (l.map f) = true → ∀ {x y : α}, x ∈ l → y ∈ l → f x = f y → x = y
  | [], _, x, y, h, _, _ => (List.not_mem_nil h).elim
  | a :: l, c, x, y, hx, hy, e => by
    rw [List.map_cons] at c
    have c : ((l.map f).all (fun y => !Nat.beq (f a) y) && distB (l.map f)) = true := c
    rw [Bool.and_eq_true, List.all_eq_true] at c
    have no : ∀ z ∈ l, f a ≠ f z := fun z hz q => by
      have := c.1 (f z) (List.mem_map.mpr ⟨z, hz, rfl⟩)
      rw [q, Nat.beq_refl] at this
      cases this
    rcases List.mem_cons.mp hx with ex | hx
    · rcases List.mem_cons.mp hy with ey | hy
      · rw [ex, ey]
      · exact (no y hy (by rw [← ex]; exact e)).elim
    · rcases List.mem_cons.mp hy with ey | hy
      · exact (no x hx (by rw [← ey]; exact e.symm)).elim
      · exact dist_inj c.2 hx hy e
/-- the tables of the defs that have lambdas -/
def tabsOf (rows : List Rw) (K : PySem.W.Frag) : List (Addr × Str) := (rows.filter (·.hk)).map fun r => ((He.cT K r.d.at_).2, (r.d.qual ++ ".<locals>.") ++ "<lambda>")
def csOf (rows : List Rw) (K : PySem.W.Frag) : List (Addr × Addr) := (tfOf rows).map (He.cT K)
/-- where all stands -/
def gaOf (fnm cnm : List Str) (ers : List Nat) (fns : List Fk) (rows : List Rw) (K : PySem.W.Frag) : Gx where
  fn j := if j < clN then (fnm[j]?).map (He.ga K) else if (j - clN) ∈ ers then some (He.ga K (erN (j - clN))) else none
  lam k m := LamSt m ∧ ∃ n e, fns[k]? = some (.lam n e) ∧ n = m.N.length + (lamPs m.params).length ∧ chkE (mkTb fnm cnm ers fns).low (m.N ++ lamPs m.params) m.scope e m.body = true
  tabs := tabsOf rows K
/-- a row's at_ and qual fit -/
def quB (rows : List Rw) : Bool := rows.all fun r => decide (r.d.at_ = (r.d.qual, none))
theorem tab_at (c : Says P fnm ers rows cs ts w h K) (qb : quB rows = true) {r : Rw} (hr : r ∈ rows) (hk : r.hk = true) (hT : ∀ p ∈ csOf rows K, LamX.TabB base mg p.1 p.2) {fd : FuncData} {dv : List V} {kw : List (Str × V)} (F : FunD K r.d.name r.d.qual r.d.params r.d.body r.d.scope dv kw (He.fAd K r.d.at_) fd) :
    TabAt base mg (gaOf fnm cnm ers fns rows K) r.d.qual fd.code := by
  obtain ⟨oc, od, dV, kV, doc, pm, an, cdv, ct, osl, e, lk, hcd, _, _⟩ := F.ex
  obtain ⟨cc, ec⟩ := He.codeIn_ref hcd
  have efd : fd.code = .ref cc := by rw [e, ec] <;> rfl
  have eq1 := He.codeOf_eq lk efd
  have mr : r ∈ rows.filter (·.hk) := List.mem_filter.mpr ⟨hr, hk⟩
  have mt : r.d.at_ ∈ tfOf rows := List.mem_map.mpr ⟨r, mr, rfl⟩
  refine ⟨cc, (He.cT K r.d.at_).2, efd, ?_, List.mem_map.mpr ⟨r, mr, rfl⟩, fun p hp ep => ?_⟩
  · have := hT _ (List.mem_map.mpr ⟨_, mt, rfl⟩)
    rw [show (He.cT K r.d.at_).1 = cc from eq1] at this
    exact this
  · obtain ⟨r', hr', rfl⟩ := List.mem_map.mp hp
    obtain ⟨h1, h2⟩ := List.mem_filter.mp hr'
    have := dist_inj (f := fun p => (He.cT K p).2) (exOf c).2.2.2.1 (List.mem_map.mpr ⟨r', hr', rfl⟩) mt ep
    have q1 := of_decide_eq_true (List.all_eq_true.mp qb r' h1)
    have q2 := of_decide_eq_true (List.all_eq_true.mp qb r hr)
    rw [q1, q2] at this
    have : r'.d.qual = r.d.qual := congrArg Prod.fst this
    show (r'.d.qual ++ ".<locals>.") ++ "<lambda>" = _
    rw [this]
theorem FunD.bindsK {x qual : Str} {params : Arguments} {body : List Stmt} {scope : Scope} {kws : List (Str × V)} {f : Addr} {fd : FuncData} {ps : List Str} (F : FunD K x qual params body scope [] kws f fd) (h : plainA params ps = true) : BindsK K fd ps := by
  obtain ⟨oc, od, dV, kV, doc, pm, an, cdv, ct, osl, rfl, lk, hcd, hD, hK⟩ := F.ex
  rcases hD with ⟨_, rfl⟩ | ⟨e, _⟩
  · exact fun s us args _ hk => .of_eq (bind_kw (fd := PySem.W.fnOf _ _ _ _ _ _ _ _ _ _ _ _) h rfl hk)
  · exact absurd rfl e
theorem defs_at (X : K.In base) (G : base.Ns mainGlobals mg) (c : Says P fnm ers rows cs ts w h K) (hn : fnm.length < clN) (rb : rowsB (mkTb fnm cnm ers fns) fns rows fnm = true) (qb : quB rows = true) (hT : ∀ p ∈ csOf rows K, LamX.TabB base mg p.1 p.2) : ∀ (j : Nat) x, fnm[j]? = some x → DefOk (mkTb fnm cnm ers fns) fns K mg base (gaOf fnm cnm ers fns rows K) j x := fun j x e => by
  obtain ⟨k, r, h1, h2, h3, h4, h5⟩ := rowsB_get rb e
  obtain ⟨fd, F0⟩ := def_at c h2
  have ea : He.fAd K r.d.at_ = He.ga K x := by rw [h4]; rfl
  have F := F0
  rw [ea, h3] at F
  have hj : j < clN := Nat.lt_trans (List.getElem?_eq_some_iff.mp e).1 hn
  refine ⟨_, glo_at X G c e, F.kp, by show (if j < clN then _ else _) = _; rw [if_pos hj, e]; rfl, ?_⟩
  cases k with
  | begun => exact .inl h1
  | lam _ _ => cases h5
  | code fn =>
    simp only [rowB, Bool.and_eq_true, List.isEmpty_iff] at h5
    obtain ⟨p0, p1, p2, p3, p4, p5, p6, p7⟩ := h5
    have e1 : r.d.dvs K = [] := by unfold He.DefD.dvs; rw [p3]; rfl
    have e2 : r.d.kws K = [] := by unfold He.DefD.kws; rw [p4]; rfl
    rw [e1, e2] at F
    exact .inr ⟨fd, _, _, _, _, r.N, r.N.take fn.np, fn, r.hk, F, scopeB_ok p2, ⟨FunD.bindsN F fun kV doc pm an cdv ct us hl => bind_plain (fd := PySem.W.fnOf _ _ _ _ _ _ _ _ _ _ _ _) p1 rfl us hl, FunD.bindsK F p1, fun hp => by
      have e0 : (mkTb fnm cnm ers fns).fpn j = fn.pn := by
        show fpnOf fns j = _
        unfold fpnOf
        rw [nth_eq, h1]
      rw [e0] at hp ⊢
      rcases Bool.or_eq_true_iff.mp p0.2 with z | z
      · exact absurd (List.isEmpty_iff.mp z) hp
      · exact of_decide_eq_true z⟩, h1, (Nat.eq_of_beq_eq_true p5).symm, Nat.eq_of_beq_eq_true p6, eq_of_beq p0.1, fun hk => tab_at c qb (List.mem_of_getElem? h2) hk hT F0, p7⟩
theorem bi_at (X : K.In base) (G : base.Ns mainGlobals mg) (c : Says P fnm ers rows cs ts w h K) : ∀ x ∈ allBi, mg x = none := fun x hx =>
  He.free_ok X G (c.t.d.facts (List.mem_append_right _ (List.mem_append_left _ (List.mem_map.mpr ⟨x, hx, rfl⟩))))
theorem con_at {cn : Nat → W} {Gg : Gx} (X : K.In base) (G : base.Ns mainGlobals mg) (c : Says P fnm ers rows cs ts w h K) (hc : cnm = cs.map (·.1)) (hn : ∀ (k : Nat) x w, cs[k]? = some (x, w) → cn k = w) : ∀ (k : Nat) x, cnm[k]? = some x → ∃ v u, mg x = some u ∧ RelV v u ∧ (∀ g : Gh, RV K Gg g (cn k) v) ∧ TupC K (cn k) v := fun k x e => by
  rw [hc, List.getElem?_map] at e
  cases q : cs[k]? with
  | none => rw [q] at e; cases e
  | some p =>
    obtain ⟨y, w⟩ := p
    rw [q] at e
    have e : y = x := by simpa using e
    subst e
    have cc := List.all_eq_true.mp (exOf c).1 _ (List.mem_of_getElem? q)
    unfold mconB at cc
    rw [hn k y w q]
    split at cc
    · rename_i u eu
      obtain ⟨v, r1, r2, r3⟩ := conV_ok (G := Gg) cc
      exact ⟨v, u, PySem.W.mg_of X G eu, r1, r2, r3⟩
    · cases cc
theorem gfn_at (j : Nat) (a : Addr) (e : (gaOf fnm cnm ers fns rows K).fn j = some a) (hj : j < clN) : ∃ x, (mkTb fnm cnm ers fns).fnm[j]? = some x := by
  have e : (if j < clN then (fnm[j]?).map (He.ga K) else _) = some a := e
  rw [if_pos hj] at e
  cases q : fnm[j]? with
  | none => rw [q] at e; cases e
  | some x => exact ⟨x, q⟩
theorem cls_at {d : Nat} {C : Addr} (e : (gaOf fnm cnm ers fns rows K).fn (clN + d) = some C) : d ∈ ers ∧ C = He.ga K (erN d) := by
  have e : (if clN + d < clN then _ else if (clN + d - clN) ∈ ers then some (He.ga K (erN (clN + d - clN))) else none) = some C := e
  rw [if_neg (by omega), Nat.add_sub_cancel_left] at e
  split at e
  · rename_i hm
    exact ⟨hm, (Option.some.inj e).symm⟩
  · cases e
theorem cls_of {d : Nat} (hm : d ∈ ers) : (gaOf fnm cnm ers fns rows K).fn (clN + d) = some (He.ga K (erN d)) := by
  show (if clN + d < clN then _ else if (clN + d - clN) ∈ ers then some (He.ga K (erN (clN + d - clN))) else none) = _
  rw [if_neg (by omega), Nat.add_sub_cancel_left, if_pos hm]
theorem erB_ok {d : Nat} (h : erB P K d = true) : ∃ p, nth errs d = some p ∧ erN d = p.1 ∧ (XfC K (He.ga K p.1) ∧ IsC K (He.ga K p.1)) ∧ PySem.W.exmOne K (.ref (He.ga K p.1)) (.ref (He.ga K "VerbError")) = some true ∧ (∀ y ∈ famL, PySem.W.kitOne K (.ref (He.ga K p.1)) (.type y.1) = some y.2) ∧
    (Nat.beq d cTop = true → topB K (He.ga K p.1) = true) ∧ (Nat.beq d cTop = false → mkB P K p = true) := by
  unfold erB at h
  split at h
  · rename_i p hp
    simp only [Bool.and_eq_true, decide_eq_true_eq, List.all_eq_true] at h
    obtain ⟨⟨h1, h2, h3⟩, h4⟩ := h
    refine ⟨p, hp, by unfold erN; rw [hp], ⟨xfB_ok h1.1, isB_ok h1.2⟩, h2, h3, fun e => ?_, fun e => ?_⟩
    · rw [e] at h4
      exact h4
    · rw [e] at h4
      exact h4
  · cases h
theorem mkB_ok {p : Str × List Str} (h : mkB P K p = true) : errB P K (He.ga K p.1) p.2 = true ∧ ∃ fI fd oc od osl, PySem.W.findIn K (.ref (He.ga K p.1)) "__init__" = some (some (.ref fI)) ∧ K.lookup fI = some ⟨oc, od, .func fd, osl⟩ ∧ plainA fd.params ("self" :: p.2) = true ∧ fd.defaults = .none := by
  unfold mkB at h
  rw [Bool.and_eq_true] at h
  obtain ⟨h1, h4⟩ := h
  refine ⟨h1, ?_⟩
  split at h4
  · rename_i fI hI
    split at h4
    · rename_i oc od fd osl lk
      rw [Bool.and_eq_true] at h4
      refine ⟨fI, fd, oc, od, osl, hI, lk, h4.1, ?_⟩
      have := h4.2
      split at this
      · assumption
      · cases this
    · cases h4
  · cases h4
theorem errs_plain : errs.all (fun p => !(p.1 == ("__debug__" : Str)) && (p.2.all (fun x => !(x == ("__debug__" : Str)) && !(x == ("__classdict__" : Str))) && decide (p.2.length ≤ 900))) = true := by decide +kernel
/-- what the head says of a class that has its own __init__ -/
theorem er_all (c : Says P fnm ers rows cs ts w h K) {d : Nat} (hd : d ∈ ers) (ht : Nat.beq d cTop = false) : ∃ p fI cda cc fd txt jj rest p0 p1 p2 p3 p4 p5, nth errs d = some p ∧ erN d = p.1 ∧ ErrF P K (He.ga K p.1) fI cda cc fd p.2 ∧
    fd.body = .stmts (.Expr (.Call (.Attribute (.Call (.Name "super" p0) [] [] p1) "__init__" p2) [.Constant (.str txt) jj p3] [] p4) p5 :: rest) ∧ (p2.endLine == p4.line) = true ∧ Asgs p.2 rest ∧ plainA fd.params ("self" :: p.2) = true ∧ fd.defaults = .none ∧
    (p.1 == ("__debug__" : Str)) = false ∧ (∀ x ∈ p.2, (x == ("__debug__" : Str)) = false ∧ (x == ("__classdict__" : Str)) = false) ∧ p.2.length ≤ 900 := by
  obtain ⟨p, hp, en, _, _, _, _, hm⟩ := erB_ok ((exOf c).2.1 d hd)
  obtain ⟨he, fI, fd, oc, od, osl, hI, lk, h1, h2⟩ := mkB_ok (hm ht)
  obtain ⟨fI', cda, cc, fd', txt, jj, rest, p0, p1, p2, p3, p4, p5, F, hb, hpos, as⟩ := errB_ok he
  have e1 : fI' = fI := by
    have := F.ini.symm.trans hI
    cases this
    rfl
  subst e1
  have e2 : fd' = fd := by
    obtain ⟨a1, a2, a3, a4⟩ := F.fn
    rw [a4] at lk
    cases lk
    rfl
  subst e2
  have pl2 := List.all_eq_true.mp errs_plain p (by rw [nth_eq] at hp; exact List.mem_of_getElem? hp)
  simp only [Bool.and_eq_true, Bool.not_eq_true', List.all_eq_true, decide_eq_true_eq] at pl2
  obtain ⟨q1, q2, q4⟩ := pl2
  exact ⟨p, fI', cda, cc, fd', txt, jj, rest, p0, p1, p2, p3, p4, p5, hp, en, F, hb, hpos, as, h1, h2, q1, q2, q4⟩
theorem bindsI {fd : FuncData} {ps : List Str} (h1 : plainA fd.params ps = true) (h2 : fd.defaults = .none) : Binds K fd ps [] := .all fun us hl => bind_plain h1 h2 us hl
theorem ers_at {r0 : Nat} (X : K.In base) (G : base.Ns mainGlobals mg) (c : Says P fnm ers rows cs ts w h K) (h2 : 2 ≤ r0) (d : Nat) (hd : ers.contains d = true) (hf : errF d ≠ []) {X' : Cx} (pl : Pl P w K mg base r0 X') : Makes X' (gaOf fnm cnm ers fns rows K) d := by
  have hd := List.contains_iff_mem.mp hd
  have ht : Nat.beq d cTop = false := by
    cases q : Nat.beq d cTop with
    | false => rfl
    | true =>
      have := Nat.eq_of_beq_eq_true q
      subst this
      exact (hf rfl).elim
  obtain ⟨p, fI, cda, cc, fd, txt, jj, rest, p0, p1, p2, p3, p4, p5, hp, en, F, hb, hpos, as, pa, df, q1, q2, q4⟩ := er_all c hd ht
  have q3 : 1 ≤ p.2.length := by
    cases e : p.2 with
    | nil =>
      refine (hf ?_).elim
      unfold errF
      rw [hp]
      exact e
    | cons _ _ => rw [List.length_cons]; omega
  exact makes_ok F hb hpos as q2 q3 q4 (by rw [← nth_eq]; exact hp) (by rw [← en]; exact cls_of hd) (glo_er X G c hd hp) q1 (bindsI pa df) pl h2
theorem ero_at {r0 : Nat} (X : K.In base) (G : base.Ns mainGlobals mg) (c : Says P fnm ers rows cs ts w h K) (h2 : 2 ≤ r0) (d : Nat) (hd : ers.contains d = true) {X' : Cx} (pl : Pl P w K mg base r0 X') : MakesO X' (gaOf fnm cnm ers fns rows K) d := by
  have hd := List.contains_iff_mem.mp hd
  cases ht : Nat.beq d cTop with
  | true =>
    obtain ⟨p, hp, en, _, _, _, hm0, _⟩ := erB_ok ((exOf c).2.1 d hd)
    have hm := hm0 ht
    clear hm0
    unfold topB at hm
    rw [Bool.and_eq_true, decide_eq_true_eq] at hm
    have cl := cls_of (fnm := fnm) (cnm := cnm) (fns := fns) (rows := rows) (K := K) hd
    rw [en] at cl
    have gl := glo_er X G c hd hp
    have ed := Nat.eq_of_beq_eq_true ht
    have ep : p.2 = [] := by
      rw [ed] at hp
      cases hp
      rfl
    have er : errs[d]? = some (p.1, []) := by
      rw [← nth_eq, hp, ← ep]
    exact mkT_ok (by rw [pl.K]; exact oexB_ok hm.1) (by rw [pl.K]; exact hm.2) er (by rw [ed]; rfl) cl (by rw [pl.mg]; exact gl)
  | false =>
    obtain ⟨p, fI, cda, cc, fd, txt, jj, rest, p0, p1, p2, p3, p4, p5, hp, en, F, hb, hpos, as, pa, df, q1, q2, q4⟩ := er_all c hd ht
    have ha : argsN d = p.2.length := by
      unfold argsN errN
      rw [ht, hp]
      rfl
    exact mkO_ok F hb hpos as q2 q4 (by rw [← nth_eq]; exact hp) ha (by rw [← en]; exact cls_of hd) (glo_er X G c hd hp) (bindsI pa df) pa df pl h2
theorem xib_at (c : Says P fnm ers rows cs ts w h K) (k : Nat) (z : String) (v : Bool) (e : famL[k]? = some (z, v)) (d : Nat) (C : Addr) (hC : (gaOf fnm cnm ers fns rows K).fn (clN + d) = some C) : PySem.W.kitOne K (.ref C) (.type z) = some v := by
  obtain ⟨hd, rfl⟩ := cls_at hC
  obtain ⟨p, hp, en, _, _, hf, _⟩ := erB_ok ((exOf c).2.1 d hd)
  rw [en]
  exact hf _ (List.mem_of_getElem? e)
theorem xf_at (c : Says P fnm ers rows cs ts w h K) (d : Nat) (C : Addr) (e : (gaOf fnm cnm ers fns rows K).fn (clN + d) = some C) : XfC K C ∧ ∀ x xs y, errs[d]? = some (x, xs) → y ∈ xs → PySem.W.findIn K (.ref C) y = some none := by
  obtain ⟨hd, rfl⟩ := cls_at e
  obtain ⟨p, hp, en, hx, _⟩ := erB_ok ((exOf c).2.1 d hd)
  rw [en]
  refine ⟨hx.1, fun x xs y ee hy => ?_⟩
  have ht : Nat.beq d cTop = false := by
    cases q : Nat.beq d cTop with
    | false => rfl
    | true =>
      have := Nat.eq_of_beq_eq_true q
      subst this
      cases ee
      cases hy
  obtain ⟨p', fI, cda, cc, fd, txt, jj, rest, p0, p1, p2, p3, p4, p5, hp', en', F, _⟩ := er_all c hd ht
  rw [hp] at hp'
  cases hp'
  rw [nth_eq] at hp
  rw [hp] at ee
  cases ee
  exact F.no y hy
theorem smd_at (c : Says P fnm ers rows cs ts w h K) : SmD K := by
  have m := c.more
  simp only [exB, Bool.and_eq_true] at m
  have m := m.1.2
  unfold smB at m
  split at m
  · rename_i o ho
    split at m
    · rename_i es n hd
      exact ⟨o, es, n, ho, hd⟩
    · cases m
  · cases m
theorem xis_at (X : K.In base) (G : base.Ns mainGlobals mg) (c : Says P fnm ers rows cs ts w h K) : (∀ d C, (gaOf fnm cnm ers fns rows K).fn (clN + d) = some C → IsC K C) ∧ ∀ d x xs, (mkTb fnm cnm ers fns).ers.contains d = true → errs[d]? = some (x, xs) → ∃ D, mg x = some (.ref D) ∧ ∀ k C, (gaOf fnm cnm ers fns rows K).fn (clN + k) = some C → PySem.W.kitOne K (.ref C) (.ref D) = some (subE k d) := by
  refine ⟨fun d C e => ?_, fun d x xs hd ed => ?_⟩
  · obtain ⟨hd, rfl⟩ := cls_at e
    obtain ⟨p, hp, en, hx, _⟩ := erB_ok ((exOf c).2.1 d hd)
    rw [en]
    exact hx.2
  · have hd := List.contains_iff_mem.mp hd
    rw [← nth_eq] at ed
    refine ⟨_, glo_er X G c hd ed, fun k C e => ?_⟩
    obtain ⟨hk, rfl⟩ := cls_at e
    have pr := (exOf c).2.2.1 k hk d hd
    unfold erP at pr
    split at pr
    · rename_i p hp
      split at pr
      · rename_i q hq
        rw [ed] at hq
        cases hq
        have := of_decide_eq_true (Bool.and_eq_true_iff.mp pr).2
        have en : erN k = p.1 := by unfold erN; rw [hp]
        rw [en]
        exact this
      · cases pr
    · cases pr
theorem hdl_at (X : K.In base) (G : base.Ns mainGlobals mg) (c : Says P fnm ers rows cs ts w h K) (he : ers ≠ []) (s : Sel) (x : Str) (hs : selN (mkTb fnm cnm ers fns) s x = true) : ∃ D, mg x = some (.ref D) ∧ ∀ d C, (gaOf fnm cnm ers fns rows K).fn (clN + d) = some C → PySem.W.exmOne K (.ref C) (.ref D) = some (selB s d) := by
  cases s with
  | any =>
    have e : x = "VerbError" := eqS_iff.mp hs
    subst e
    refine ⟨_, glo_mem X G c (List.mem_append_right _ (List.mem_append_right _ ?_)), fun d C e => ?_⟩
    · cases q : ers with
      | nil => exact (he q).elim
      | cons _ _ => exact List.mem_cons_self ..
    · obtain ⟨hd, rfl⟩ := cls_at e
      obtain ⟨p, hp, en, _, h3, _⟩ := erB_ok ((exOf c).2.1 d hd)
      rw [en]
      exact h3
  | one k =>
    have hs : (ers.contains k && (match nth errs k with
      | some y => eqS y.1 x
      | none => false)) = true := hs
    rw [Bool.and_eq_true] at hs
    have hk := List.contains_iff_mem.mp hs.1
    have hs := hs.2
    split at hs
    · rename_i y hy
      have ex := eqS_iff.mp hs
      subst ex
      refine ⟨_, glo_er X G c hk hy, fun d C e => ?_⟩
      obtain ⟨hd, rfl⟩ := cls_at e
      have pr := (exOf c).2.2.1 d hd k hk
      unfold erP at pr
      split at pr
      · rename_i p hp
        split at pr
        · rename_i q hq
          rw [hy] at hq
          cases hq
          have := of_decide_eq_true (Bool.and_eq_true_iff.mp pr).1
          have en : erN d = p.1 := by unfold erN; rw [hp]
          rw [en]
          exact this
        · cases pr
      · cases pr
    · cases hs
theorem lmk_at (k : Nat) (xs : List Str) (ps : Arguments) (sp : Scope) (bd : Expr) (hk : (mkTb fnm cnm ers fns).ckl k xs ps sp bd = true) : (gaOf fnm cnm ers fns rows K).lam k ⟨xs, ps, bd, sp⟩ := by
  have hk : cklOf fnm cnm ers fns k xs ps sp bd = true := hk
  unfold cklOf at hk
  split at hk
  · rename_i n e q
    simp only [Bool.and_eq_true] at hk
    exact ⟨lamStB_ok hk.1, n, e, by rw [← nth_eq]; exact q, Nat.eq_of_beq_eq_true hk.2.1, hk.2.2⟩
  · cases hk
/-- what the law's context asks of the tables -/
theorem cs_says (X : K.In h) (c : Says P fnm ers rows cs ts w h K) : (∀ p ∈ csOf rows K, h.get? p.2 = some oTab) ∧ (∀ p ∈ csOf rows K, K.lookup p.2 = none) ∧ ∀ p ∈ csOf rows K, PySem.W.CodeHd h p.1 p.2 := by
  refine ⟨fun p hp => ?_, fun p hp => ?_, fun p hp => ?_⟩ <;> obtain ⟨q, hq, rfl⟩ := List.mem_map.mp hp
  · exact c.empty q hq
  · exact c.out q hq
  · exact PySem.W.codeHd_of_K X (c.hd q hq)
theorem tabs_says {H : Hp} (c : Says P fnm ers rows cs ts w h K) (hH : ∀ p ∈ csOf rows K, H p.2 = some (.tbl #[])) : LamX.Tabs (gaOf fnm cnm ers fns rows K).tabs H := fun p hp => by
  obtain ⟨r, hr, rfl⟩ := List.mem_map.mp hp
  have := hH _ (List.mem_map.mpr ⟨_, List.mem_map.mpr ⟨r, hr, rfl⟩, rfl⟩)
  exact LamX.TabS.nil this
/-- what is told, in two parts -/
theorem obs_split {n : Nat} {fa1 fa2 : List He.Fa} {fn1 fn2 : List He.DefD} {ts : List He.Tab} {tf : List He.Defn} {ex : PySem.W.Frag → Bool} {g : Addr → Option Obj} {w : World} (e1 : obsE n fa1 fn1 ts tf (fun _ => true) g = He.valX fn1 ts w) (e2 : obsE n fa2 fn2 ts [] ex g = He.valX fn2 ts w) : obsE n (fa1 ++ fa2) (fn1 ++ fn2) ts tf ex g = He.valX (fn1 ++ fn2) ts w := by
  unfold obsE He.valX He.obsT He.valT He.obsD He.valD at *
  simp only [Prod.mk.injEq, Bool.and_eq_true, Bool.true_and, He.tabsB, List.all_nil, Bool.and_true, List.all_append, List.map_append] at *
  obtain ⟨⟨⟨⟨a1, a2⟩, a3⟩, a4⟩, a5⟩ := e1
  obtain ⟨⟨⟨⟨b1, b2⟩, b3⟩, b4⟩, b5⟩ := e2
  exact ⟨⟨⟨⟨⟨a1, b1⟩, a2, b2⟩, by rw [a3, b3]⟩, a4⟩, b5, a5⟩
theorem map_two {α β γ δ : Type} {X : Option α} {f : α → β} {g : α → γ} {v : β} {u : γ} {h : α → δ} {y : δ} (e1 : X.map f = some v) (e2 : X.map g = some u) (k : ∀ s, f s = v → g s = u → h s = y) : X.map h = some y := by
  cases X with
  | none => cases e1
  | some s =>
    show some (h s) = some y
    rw [k s (Option.some.inj e1) (Option.some.inj e2)]
end
end Ev
end
end
section
set_option Elab.async false
set_option linter.all false
set_option maxRecDepth 100000
set_option maxHeartbeats 4000000
noncomputable section
namespace Ov
open PySem Ev
/-- is_whole: 0=value -/
def nm0 : List Str := ["value"]
def fk0 : Fk := .code ⟨1, 1, [false], (.cons (.ret (.and (.cons (.bi .isInt (.cons (.var 0) .nil)) (.cons (.not (.bi .isBool (.cons (.var 0) .nil))) .nil)))) .nil), false, []⟩
/-- is_within: 0=value 1=least 2=most -/
def nm1 : List Str := ["value", "least", "most"]
def fk1 : Fk := .code ⟨3, 3, [false, false, false], (.cons (.ret (.and (.cons (.call 0 (.cons (.var 0) .nil)) (.cons (.chain .le .le (.var 1) (.var 0) (.var 2)) .nil)))) .nil), false, []⟩
/-- is_tuple_of: 0=value 1=many -/
def nm2 : List Str := ["value", "many"]
def fk2 : Fk := .code ⟨2, 2, [false, false], (.cons (.ret (.and (.cons (.bi .isTuple (.cons (.var 0) .nil)) (.cons (.op .eq (.bi .len (.cons (.var 0) .nil)) (.var 1)) .nil)))) .nil), false, []⟩
/-- product: 0=numbers 1=found 2=number -/
def nm3 : List Str := ["numbers", "found", "number"]
def fk3 : Fk := .code ⟨1, 3, [false], (.cons (.asg (.nm 1) (.con (.int 1))) (.cons (.for_ (.nm 2) (.seq (.var 0)) (.cons (.asg (.nm 1) (.op .mul (.var 1) (.var 2))) .nil)) (.cons (.retv 1) .nil))), false, []⟩
/-- first_bad: 0=things 1=is_good 2=place 3=thing -/
def nm4 : List Str := ["things", "is_good", "place", "thing"]
def fk4 : Fk := .code ⟨2, 4, [false, false], (.cons (.for_ (.tp [(.nm 2), (.nm 3)]) (.enum (.var 0)) (.cons (.ite (.not (.callv 1 (.cons (.var 3) .nil))) (.cons (.retv 2) .nil) .nil) .nil)) (.cons (.ret (.con .non)) .nil)), false, []⟩
/-- is_one_side: 0=value -/
def nm5 : List Str := ["value"]
def fk5 : Fk := .code ⟨1, 1, [false], (.cons (.ret (.call 1 (.cons (.var 0) (.cons (.con (.int 0)) (.cons (.glo 0) .nil))))) .nil), false, []⟩
/-- lasting_product: 0=sides 1=side -/
def nm6 : List Str := ["sides", "side"]
def fk6 : Fk := .code ⟨1, 2, [false], (.cons (.ret (.call 3 (.cons (.lc [1] (.var 1) (.nm 1) (.seq (.var 0)) (.cons (.op .gt (.var 1) (.con (.int 0))) .nil)) .nil))) .nil), false, []⟩
/-- need_shape: 0=shape 1=place -/
def nm7 : List Str := ["shape", "place"]
def fk7 : Fk := .code ⟨1, 2, [false], (.cons (.ite (.or (.cons (.not (.bi .isTuple (.cons (.var 0) .nil))) (.cons (.op .gt (.bi .len (.cons (.var 0) .nil)) (.glo 2)) .nil))) (.cons (.raise 1 (.cons (.con .non) .nil)) .nil) .nil) (.cons (.asg (.nm 1) (.call 4 (.cons (.var 0) (.cons (.fnv 5) .nil)))) (.cons (.ite (.op .isnot (.var 1) (.con .non)) (.cons (.raise 1 (.cons (.var 1) .nil)) .nil) .nil) (.cons (.ite (.op .gt (.call 6 (.cons (.var 0) .nil)) (.glo 1)) (.cons (.raise 1 (.cons (.con (.str ⟨#[112, 114, 111, 100, 117, 99, 116]⟩)) .nil)) .nil) .nil) (.cons (.ret (.var 0)) .nil))))), false, []⟩
/-- is_shape: 0=value -/
def nm8 : List Str := ["value"]
def fk8 : Fk := .code ⟨1, 1, [false], (.cons (.ite (.or (.cons (.not (.bi .isTuple (.cons (.var 0) .nil))) (.cons (.op .gt (.bi .len (.cons (.var 0) .nil)) (.glo 2)) (.cons (.op .isnot (.call 4 (.cons (.var 0) (.cons (.fnv 5) .nil))) (.con .non)) .nil)))) (.cons (.ret (.con (.bl false))) .nil) .nil) (.cons (.ret (.op .le (.call 6 (.cons (.var 0) .nil)) (.glo 1))) .nil)), false, []⟩
/-- need_array: 0=array 1=place -/
def nm9 : List Str := ["array", "place"]
def fk9 : Fk := .code ⟨1, 2, [false], (.cons (.ite (.not (.call 2 (.cons (.var 0) (.cons (.con (.int 2)) .nil)))) (.cons (.raise 0 (.cons (.tup .nil) .nil)) .nil) .nil) (.cons (.ite (.not (.call 8 (.cons (.idx (.var 0) (.con (.int 0))) .nil))) (.cons (.raise 0 (.cons (.tup (.cons (.con (.int 0)) .nil)) .nil)) .nil) .nil) (.cons (.ite (.not (.call 2 (.cons (.idx (.var 0) (.con (.int 1))) (.cons (.call 3 (.cons (.idx (.var 0) (.con (.int 0))) .nil)) .nil)))) (.cons (.raise 0 (.cons (.tup (.cons (.con (.int 1)) .nil)) .nil)) .nil) .nil) (.cons (.asg (.nm 1) (.call 4 (.cons (.idx (.var 0) (.con (.int 1))) (.cons (.fnv 0) .nil)))) (.cons (.ite (.op .isnot (.var 1) (.con .non)) (.cons (.raise 0 (.cons (.tup (.cons (.con (.int 1)) (.cons (.var 1) .nil))) .nil)) .nil) .nil) (.cons (.ret (.var 0)) .nil)))))), false, []⟩
/-- scalar: 0=integer -/
def nm10 : List Str := ["integer"]
def fk10 : Fk := .code ⟨1, 1, [false], (.cons (.ite (.not (.call 0 (.cons (.var 0) .nil))) (.cons (.raise 6 (.cons (.var 0) .nil)) .nil) .nil) (.cons (.ret (.tup (.cons (.tup .nil) (.cons (.tup (.cons (.var 0) .nil)) .nil)))) .nil)), false, []⟩
/-- row_of: 0=integers 1=place -/
def nm11 : List Str := ["integers", "place"]
def fk11 : Fk := .code ⟨1, 2, [false], (.cons (.ite (.or (.cons (.not (.bi .isTuple (.cons (.var 0) .nil))) (.cons (.op .gt (.bi .len (.cons (.var 0) .nil)) (.glo 1)) .nil))) (.cons (.raise 11 (.cons (.con .non) .nil)) .nil) .nil) (.cons (.asg (.nm 1) (.call 4 (.cons (.var 0) (.cons (.fnv 0) .nil)))) (.cons (.ite (.op .isnot (.var 1) (.con .non)) (.cons (.raise 11 (.cons (.var 1) .nil)) .nil) .nil) (.cons (.ret (.tup (.cons (.tup (.cons (.bi .len (.cons (.var 0) .nil)) .nil)) (.cons (.var 0) .nil)))) .nil)))), false, []⟩
/-- first_unlike: 0=frame 1=far_frame 2=place 3=side 4=far_side -/
def nm12 : List Str := ["frame", "far_frame", "place", "side", "far_side"]
def fk12 : Fk := .code ⟨2, 5, [false, false], (.cons (.for_ (.tp [(.nm 2), (.tp [(.nm 3), (.nm 4)])]) (.enumZip (.var 0) (.var 1)) (.cons (.ite (.op .ne (.var 3) (.var 4)) (.cons (.retv 2) .nil) .nil) .nil)) (.cons (.ret (.con .non)) .nil)), false, []⟩
/-- need_agreeing: 0=frame 1=far_frame 2=place -/
def nm13 : List Str := ["frame", "far_frame", "place"]
def fk13 : Fk := .code ⟨2, 3, [false, false], (.cons (.exp (.call 7 (.cons (.var 0) .nil))) (.cons (.asg (.nm 2) (.call 12 (.cons (.var 0) (.cons (.call 7 (.cons (.var 1) .nil)) .nil)))) (.cons (.ite (.op .isnot (.var 2) (.con .non)) (.cons (.raise 10 (.cons (.var 2) .nil)) .nil) .nil) .nil))), false, []⟩
/-- greater_frame: 0=frame 1=far_frame -/
def nm14 : List Str := ["frame", "far_frame"]
def fk14 : Fk := .code ⟨2, 2, [false, false], (.cons (.exp (.call 13 (.cons (.var 0) (.cons (.var 1) .nil)))) (.cons (.ret (.ite (.op .ge (.bi .len (.cons (.var 0) .nil)) (.bi .len (.cons (.var 1) .nil))) (.var 0) (.var 1))) .nil)), false, []⟩
/-- frame_pairs: 0=frame 1=far_frame 2=wide 3=size 4=far_size 5=spot 6=#0 7=#1 -/
def nm15 : List Str := ["frame", "far_frame", "wide", "size", "far_size", "spot", "#0", "#1"]
def fk15 : Fk := .code ⟨2, 8, [false, false], (.cons (.asg (.nm 2) (.call 14 (.cons (.var 0) (.cons (.var 1) .nil)))) (.cons (.par [3, 4] 6 (.cons (.call 3 (.cons (.sli (.var 2) (some (.bi .len (.cons (.var 0) .nil))) none) .nil)) (.cons (.call 3 (.cons (.sli (.var 2) (some (.bi .len (.cons (.var 1) .nil))) none) .nil)) .nil))) (.cons (.ret (.bi .tuple (.cons (.lc [5] (.tup (.cons (.op .fdiv (.var 5) (.var 3)) (.cons (.op .fdiv (.var 5) (.var 4)) .nil))) (.nm 5) (.rng1 (.call 3 (.cons (.var 2) .nil))) .nil) .nil))) .nil))), false, []⟩
/-- indexes_of_shape: 0=shape 1=found 2=side 3=index 4=spot -/
def nm16 : List Str := ["shape", "found", "side", "index", "spot"]
def fk16 : Fk := .code ⟨1, 5, [false], (.cons (.asg (.nm 1) (.lst (.cons (.tup .nil) .nil))) (.cons (.for_ (.nm 2) (.seq (.var 0)) (.cons (.asg (.nm 1) (.lc2 [3, 4] [4] (.tupS false [true, false] (.cons (.var 3) (.cons (.var 4) .nil))) (.nm 3) (.seq (.var 1)) (.nm 4) (.rng1 (.var 2)))) .nil)) (.cons (.retv 1) .nil))), false, []⟩
/-- steps_of_sides: 0=shape 1=spot -/
def nm17 : List Str := ["shape", "spot"]
def fk17 : Fk := .code ⟨1, 2, [false], (.cons (.ret (.lc [1] (.call 3 (.cons (.sli (.var 0) (some (.op .add (.var 1) (.con (.int 1)))) none) .nil)) (.nm 1) (.rng1 (.bi .len (.cons (.var 0) .nil))) .nil)) .nil), false, []⟩
/-- is_whole_order: 0=value 1=axis -/
def nm18 : List Str := ["value", "axis"]
def fk18 : Fk := .code ⟨1, 2, [false], (.cons (.ite (.or (.cons (.not (.bi .isTuple (.cons (.var 0) .nil))) (.cons (.op .gt (.bi .len (.cons (.var 0) .nil)) (.glo 2)) .nil))) (.cons (.ret (.con (.bl false))) .nil) .nil) (.cons (.ret (.and (.cons (.bi .all (.cons (.lc [1] (.call 0 (.cons (.var 1) .nil)) (.nm 1) (.seq (.var 0)) .nil) .nil)) (.cons (.op .eq (.bi .sorted (.cons (.var 0) .nil)) (.conv false (.rng1 (.bi .len (.cons (.var 0) .nil))))) .nil)))) .nil)), false, []⟩
/-- is_place_row: 0=value 1=place -/
def nm19 : List Str := ["value", "place"]
def fk19 : Fk := .code ⟨1, 2, [false], (.cons (.ite (.or (.cons (.not (.bi .isTuple (.cons (.var 0) .nil))) (.cons (.op .gt (.bi .len (.cons (.var 0) .nil)) (.glo 1)) .nil))) (.cons (.ret (.con (.bl false))) .nil) .nil) (.cons (.ret (.bi .all (.cons (.lc [1] (.call 1 (.cons (.var 1) (.cons (.con (.int 0)) (.cons (.op .sub (.glo 0) (.con (.int 1))) .nil)))) (.nm 1) (.seq (.var 0)) .nil) .nil))) .nil)), false, []⟩
/-- is_row_move: 0=value -/
def nm20 : List Str := ["value"]
def fk20 : Fk := .code ⟨1, 1, [false], (.cons (.ite (.or (.cons (.not (.bi .isTuple (.cons (.var 0) .nil))) (.cons (.op .eq (.var 0) (.tup .nil)) (.cons (.not (.bi .isStr (.cons (.idx (.var 0) (.con (.int 0))) .nil))) .nil)))) (.cons (.ret (.con (.bl false))) .nil) .nil) (.cons (.ite (.op .isin (.idx (.var 0) (.con (.int 0))) (.glo 5)) (.cons (.ret (.op .eq (.bi .len (.cons (.var 0) .nil)) (.con (.int 1)))) .nil) .nil) (.cons (.ite (.op .ne (.bi .len (.cons (.var 0) .nil)) (.con (.int 2))) (.cons (.ret (.con (.bl false))) .nil) .nil) (.cons (.ite (.op .isin (.idx (.var 0) (.con (.int 0))) (.glo 3)) (.cons (.ret (.call 1 (.cons (.idx (.var 0) (.con (.int 1))) (.cons (.neg (.glo 4)) (.cons (.glo 4) .nil))))) .nil) .nil) (.cons (.ite (.op .eq (.idx (.var 0) (.con (.int 0))) (.con (.str ⟨#[112, 105, 99, 107]⟩))) (.cons (.ret (.call 19 (.cons (.idx (.var 0) (.con (.int 1))) .nil))) .nil) .nil) (.cons (.ite (.op .eq (.idx (.var 0) (.con (.int 0))) (.con (.str ⟨#[97, 120, 101, 115]⟩))) (.cons (.ret (.call 18 (.cons (.idx (.var 0) (.con (.int 1))) .nil))) .nil) .nil) (.cons (.ret (.and (.cons (.op .eq (.idx (.var 0) (.con (.int 0))) (.con (.str ⟨#[108, 97, 121]⟩))) (.cons (.call 8 (.cons (.idx (.var 0) (.con (.int 1))) .nil)) .nil)))) .nil))))))), false, []⟩
/-- need_made: 0=shape -/
def nm21 : List Str := ["shape"]
def fk21 : Fk := .code ⟨1, 1, [false], (.cons (.ite (.not (.call 8 (.cons (.var 0) .nil))) (.cons (.raise 7 (.cons (.tup .nil) (.cons (.con (.str ⟨#[103, 114, 101, 97, 116]⟩)) .nil))) .nil) .nil) (.cons (.ret (.var 0)) .nil)), false, []⟩
/-- along_first: 0=shape 1=spots 2=made 3=size 4=found 5=spot 6=#0 7=#1 -/
def nm22 : List Str := ["shape", "spots", "made", "size", "found", "spot", "#0", "#1"]
def fk22 : Fk := .code ⟨2, 8, [false, false], (.cons (.par [2, 3] 6 (.cons (.call 21 (.cons (.tupS false [false, true] (.cons (.bi .len (.cons (.var 1) .nil)) (.cons (.sli (.var 0) (some (.con (.int 1))) none) .nil))) .nil)) (.cons (.call 3 (.cons (.sli (.var 0) (some (.con (.int 1))) none) .nil)) .nil))) (.cons (.asg (.nm 4) (.lst .nil)) (.cons (.for_ (.nm 5) (.seq (.var 1)) (.cons (.ext 4 (.ite (.op .is (.var 5) (.con .non)) (.op .mul (.lst (.cons (.con .non) .nil)) (.var 3)) (.conv false (.rng2 (.op .mul (.var 5) (.var 3)) (.op .add (.op .mul (.var 5) (.var 3)) (.var 3)))))) .nil)) (.cons (.ret (.tup (.cons (.var 2) (.cons (.bi .tuple (.cons (.var 4) .nil)) .nil)))) .nil)))), false, []⟩
/-- spots_taken: 0=side 1=many 2=spot -/
def nm23 : List Str := ["side", "many", "spot"]
def fk23 : Fk := .code ⟨2, 3, [false, false], (.cons (.ite (.op .ge (.var 1) (.con (.int 0))) (.cons (.ret (.lc [2] (.ite (.op .lt (.var 2) (.var 0)) (.var 2) (.con .non)) (.nm 2) (.rng1 (.var 1)) .nil)) .nil) .nil) (.cons (.ret (.lc [2] (.ite (.op .ge (.op .add (.var 0) (.var 2)) (.con (.int 0))) (.op .add (.var 0) (.var 2)) (.con .non)) (.nm 2) (.rng2 (.var 1) (.con (.int 0))) .nil)) .nil)), false, []⟩
/-- spots_kept: 0=side 1=many -/
def nm24 : List Str := ["side", "many"]
def fk24 : Fk := .code ⟨2, 2, [false, false], (.cons (.ret (.ite (.op .ge (.var 1) (.con (.int 0))) (.conv false (.rng2 (.bi .min2 (.cons (.var 1) (.cons (.var 0) .nil))) (.var 0))) (.conv false (.rng1 (.bi .max2 (.cons (.con (.int 0)) (.cons (.op .add (.var 0) (.var 1)) .nil))))))) .nil), false, []⟩
/-- spots_moved: 0=verb 1=side 2=spot -/
def nm25 : List Str := ["verb", "side", "spot"]
def fk25 : Fk := .code ⟨2, 3, [false, false], (.cons (.ite (.op .eq (.idx (.var 0) (.con (.int 0))) (.con (.str ⟨#[116, 117, 114, 110]⟩))) (.cons (.ret (.conv false (.rng3 (.op .sub (.var 1) (.con (.int 1))) (.neg (.con (.int 1))) (.neg (.con (.int 1)))))) .nil) .nil) (.cons (.ite (.op .eq (.idx (.var 0) (.con (.int 0))) (.con (.str ⟨#[114, 111, 108, 108]⟩))) (.cons (.ret (.lc [2] (.op .mod (.op .add (.var 2) (.idx (.var 0) (.con (.int 1)))) (.var 1)) (.nm 2) (.rng1 (.var 1)) .nil)) .nil) .nil) (.cons (.ite (.op .eq (.idx (.var 0) (.con (.int 0))) (.con (.str ⟨#[116, 97, 107, 101]⟩))) (.cons (.ret (.call 23 (.cons (.var 1) (.cons (.idx (.var 0) (.con (.int 1))) .nil)))) .nil) .nil) (.cons (.ite (.op .eq (.idx (.var 0) (.con (.int 0))) (.con (.str ⟨#[100, 114, 111, 112]⟩))) (.cons (.ret (.call 24 (.cons (.var 1) (.cons (.idx (.var 0) (.con (.int 1))) .nil)))) .nil) .nil) (.cons (.ite (.bi .any (.cons (.lc [2] (.op .ge (.var 2) (.var 1)) (.nm 2) (.seq (.idx (.var 0) (.con (.int 1)))) .nil) .nil)) (.cons (.raise 7 (.cons (.tup .nil) (.cons (.con (.str ⟨#[112, 108, 97, 99, 101]⟩)) .nil))) .nil) .nil) (.cons (.ret (.bi .list (.cons (.idx (.var 0) (.con (.int 1))) .nil))) .nil)))))), false, []⟩
/-- axes_put: 0=order 1=shape 2=steps 3=made 4=found 5=index 6=axis 7=spot 8=#0 9=#1 -/
def nm26 : List Str := ["order", "shape", "steps", "made", "found", "index", "axis", "spot", "#0", "#1"]
def fk26 : Fk := .code ⟨2, 10, [false, false], (.cons (.ite (.op .ne (.bi .len (.cons (.var 0) .nil)) (.bi .len (.cons (.var 1) .nil))) (.cons (.raise 7 (.cons (.tup .nil) (.cons (.con (.str ⟨#[114, 97, 110, 107]⟩)) .nil))) .nil) .nil) (.cons (.par [2, 3] 8 (.cons (.call 17 (.cons (.var 1) .nil)) (.cons (.bi .tuple (.cons (.lc [6] (.idx (.var 1) (.var 6)) (.nm 6) (.seq (.var 0)) .nil) .nil)) .nil))) (.cons (.asg (.nm 4) (.lst .nil)) (.cons (.for_ (.nm 5) (.seq (.call 16 (.cons (.var 3) .nil))) (.cons (.app 4 (.bi .sum (.cons (.lc [7, 6] (.op .mul (.var 7) (.idx (.var 2) (.var 6))) (.tp [(.nm 7), (.nm 6)]) (.zip (.var 5) (.var 0)) .nil) .nil))) .nil)) (.cons (.ret (.tup (.cons (.var 3) (.cons (.bi .tuple (.cons (.var 4) .nil)) .nil)))) .nil))))), false, []⟩
/-- laid_out: 0=made 1=shape 2=many 3=spot -/
def nm27 : List Str := ["made", "shape", "many", "spot"]
def fk27 : Fk := .code ⟨2, 4, [false, false], (.cons (.asg (.nm 2) (.call 3 (.cons (.var 1) .nil))) (.cons (.ite (.and (.cons (.op .eq (.var 2) (.con (.int 0))) (.cons (.op .gt (.call 3 (.cons (.var 0) .nil)) (.con (.int 0))) .nil))) (.cons (.raise 7 (.cons (.tup .nil) (.cons (.con (.str ⟨#[101, 109, 112, 116, 121]⟩)) .nil))) .nil) .nil) (.cons (.ret (.tup (.cons (.var 0) (.cons (.bi .tuple (.cons (.lc [3] (.op .mod (.var 3) (.var 2)) (.nm 3) (.rng1 (.call 3 (.cons (.var 0) .nil))) .nil) .nil)) .nil)))) .nil))), false, []⟩
/-- row_of_move: 0=verb 1=shape 2=every -/
def nm28 : List Str := ["verb", "shape", "every"]
def fk28 : Fk := .code ⟨2, 3, [false, false], (.cons (.asg (.nm 2) (.conv true (.rng1 (.call 3 (.cons (.var 1) .nil))))) (.cons (.ite (.op .eq (.idx (.var 0) (.con (.int 0))) (.con (.str ⟨#[115, 97, 109, 101]⟩))) (.cons (.ret (.tup (.cons (.var 1) (.cons (.var 2) .nil)))) .nil) .nil) (.cons (.ite (.op .eq (.idx (.var 0) (.con (.int 0))) (.con (.str ⟨#[114, 97, 118, 101, 108]⟩))) (.cons (.ret (.tup (.cons (.tup (.cons (.bi .len (.cons (.var 2) .nil)) .nil)) (.cons (.var 2) .nil)))) .nil) .nil) (.cons (.ite (.op .eq (.idx (.var 0) (.con (.int 0))) (.con (.str ⟨#[119, 114, 97, 112]⟩))) (.cons (.ret (.tup (.cons (.call 21 (.cons (.tupS false [false, true] (.cons (.con (.int 1)) (.cons (.var 1) .nil))) .nil)) (.cons (.var 2) .nil)))) .nil) .nil) (.cons (.ite (.op .eq (.idx (.var 0) (.con (.int 0))) (.con (.str ⟨#[97, 120, 101, 115]⟩))) (.cons (.ret (.call 26 (.cons (.idx (.var 0) (.con (.int 1))) (.cons (.var 1) .nil)))) .nil) .nil) (.cons (.ite (.op .eq (.idx (.var 0) (.con (.int 0))) (.con (.str ⟨#[108, 97, 121]⟩))) (.cons (.ret (.call 27 (.cons (.idx (.var 0) (.con (.int 1))) (.cons (.var 1) .nil)))) .nil) .nil) (.cons (.ite (.op .eq (.var 1) (.tup .nil)) (.cons (.raise 7 (.cons (.tup .nil) (.cons (.con (.str ⟨#[114, 97, 110, 107]⟩)) .nil))) .nil) .nil) (.cons (.ret (.call 22 (.cons (.var 1) (.cons (.call 25 (.cons (.var 0) (.cons (.idx (.var 1) (.con (.int 0))) .nil))) .nil)))) .nil)))))))), false, []⟩
/-- source_row: 0=verb 1=shape -/
def nm29 : List Str := ["verb", "shape"]
def fk29 : Fk := .code ⟨2, 2, [false, false], (.cons (.ite (.not (.call 20 (.cons (.var 0) .nil))) (.cons (.raise 2 (.cons (.tup .nil) .nil)) .nil) .nil) (.cons (.ret (.call 28 (.cons (.var 0) (.cons (.call 7 (.cons (.var 1) .nil)) .nil)))) .nil)), false, []⟩
/-- _law_mixed: 0=_law_cell 1=_law_n 2=_law_blend -/
def nm30 : List Str := ["_law_cell", "_law_n", "_law_blend"]
def fk30 : Fk := .code ⟨2, 3, [false, false], (.cons (.asg (.nm 2) (.op .add (.op .add (.op .mod (.bi .int (.cons (.op .mul (.op .mul (.var 0) (.op .add (.con (.int 1)) (.op .mul (.con (.int 2)) (.var 1)))) (.con (.int 48271))) .nil)) (.con (.int 2147483647))) (.op .mul (.op .mul (.con (.int 7919)) (.var 1)) (.var 1))) (.op .mul (.con (.int 104729)) (.var 1)))) (.cons (.ret (.op .fdiv (.op .mod (.bi .int (.cons (.op .mul (.var 2) (.con (.int 69621))) .nil)) (.con (.int 2147483629))) (.con (.int 7)))) .nil)), false, []⟩
/-- _law_folded: 0=_law_script 1=_law_found 2=_law_n 3=_law_cell -/
def nm31 : List Str := ["_law_script", "_law_found", "_law_n", "_law_cell"]
def fk31 : Fk := .begun
/-- _law_draw: 0=_law_m 1=_law_limit 2=_law_n 3=_law_lot 4=_law_here 5=_law_cell -/
def nm32 : List Str := ["_law_m", "_law_limit", "_law_n", "_law_lot", "_law_here", "_law_cell"]
def fk32 : Fk := .begun
/-- _law_begun: 0=_law_script 1=_law_m 2=_law_cell -/
def nm33 : List Str := ["_law_script", "_law_m", "_law_cell"]
def fk33 : Fk := .begun
/-- _law_like: 0=_law_got 1=_law_due -/
def nm34 : List Str := ["_law_got", "_law_due"]
def fk34 : Fk := .code ⟨2, 2, [false, false], (.cons (.ret (.op .eq (.bi .repr (.cons (.var 0) .nil)) (.bi .repr (.cons (.var 1) .nil)))) .nil), false, []⟩
/-- _law_of: 0=_law_m 1=_law_some -/
def nm35 : List Str := ["_law_m", "_law_some"]
def fk35 : Fk := .code ⟨2, 2, [false, false], (.cons (.ret (.idx (.var 1) (.draw (.var 0) (.bi .len (.cons (.var 1) .nil))))) .nil), false, []⟩
/-- _law_words: 0=_law_made 1=_law_rows 2=_law_row -/
def nm36 : List Str := ["_law_made", "_law_rows", "_law_row"]
def fk36 : Fk := .code ⟨1, 3, [false], (.cons (.asg (.nm 1) (.lst (.cons (.tup (.cons (.con (.str ⟨#[66, 97, 100, 65, 114, 114, 97, 121]⟩)) (.cons (.isE 0 0) .nil))) (.cons (.tup (.cons (.con (.str ⟨#[66, 97, 100, 83, 104, 97, 112, 101]⟩)) (.cons (.isE 0 1) .nil))) .nil)))) (.cons (.asg (.nm 1) (.op .add (.var 1) (.lst (.cons (.tup (.cons (.con (.str ⟨#[66, 97, 100, 67, 117, 115, 116, 111, 109, 115]⟩)) (.cons (.isE 0 4) .nil))) (.cons (.tup (.cons (.con (.str ⟨#[66, 97, 100, 77, 101, 97, 110, 105, 110, 103]⟩)) (.cons (.isE 0 5) .nil))) .nil))))) (.cons (.asg (.nm 1) (.op .add (.var 1) (.lst (.cons (.tup (.cons (.con (.str ⟨#[66, 97, 100, 83, 105, 100, 101, 115]⟩)) (.cons (.isE 0 10) .nil))) (.cons (.tup (.cons (.con (.str ⟨#[66, 97, 100, 82, 111, 119]⟩)) (.cons (.isE 0 11) .nil))) .nil))))) (.cons (.asg (.nm 1) (.op .add (.var 1) (.lst (.cons (.tup (.cons (.con (.str ⟨#[66, 97, 100, 80, 108, 97, 110]⟩)) (.cons (.isE 0 13) .nil))) (.cons (.tup (.cons (.con (.str ⟨#[66, 97, 100, 66, 111, 111, 107]⟩)) (.cons (.isE 0 16) .nil))) .nil))))) (.cons (.asg (.nm 1) (.op .add (.var 1) (.lst (.cons (.tup (.cons (.con (.str ⟨#[66, 97, 100, 65, 99, 116]⟩)) (.cons (.isE 0 19) .nil))) (.cons (.tup (.cons (.con (.str ⟨#[66, 97, 100, 70, 105, 108, 108, 105, 110, 103]⟩)) (.cons (.isE 0 22) .nil))) .nil))))) (.cons (.asg (.nm 1) (.op .add (.var 1) (.lst (.cons (.tup (.cons (.con (.str ⟨#[66, 97, 100, 76, 101, 100, 103, 101, 114]⟩)) (.cons (.isE 0 24) .nil))) (.cons (.tup (.cons (.con (.str ⟨#[66, 97, 100, 86, 101, 114, 98]⟩)) (.cons (.isE 0 2) .nil))) .nil))))) (.cons (.asg (.nm 1) (.op .add (.var 1) (.lst (.cons (.tup (.cons (.con (.str ⟨#[66, 97, 100, 83, 101, 110, 116, 101, 110, 99, 101]⟩)) (.cons (.isE 0 3) .nil))) (.cons (.tup (.cons (.con (.str ⟨#[66, 97, 100, 76, 111, 111, 112]⟩)) (.cons (.isE 0 12) .nil))) .nil))))) (.cons (.asg (.nm 1) (.op .add (.var 1) (.lst (.cons (.tup (.cons (.con (.str ⟨#[66, 97, 100, 84, 114, 97, 105, 110]⟩)) (.cons (.isE 0 14) .nil))) (.cons (.tup (.cons (.con (.str ⟨#[66, 97, 100, 70, 111, 114, 109]⟩)) (.cons (.isE 0 15) .nil))) .nil))))) (.cons (.asg (.nm 1) (.op .add (.var 1) (.lst (.cons (.tup (.cons (.con (.str ⟨#[66, 97, 100, 80, 97, 116, 104]⟩)) (.cons (.isE 0 20) .nil))) (.cons (.tup (.cons (.con (.str ⟨#[66, 97, 100, 80, 97, 116, 116, 101, 114, 110]⟩)) (.cons (.isE 0 21) .nil))) .nil))))) (.cons (.asg (.nm 1) (.op .add (.var 1) (.lst (.cons (.tup (.cons (.con (.str ⟨#[66, 97, 100, 83, 117, 109]⟩)) (.cons (.isE 0 23) .nil))) (.cons (.tup (.cons (.con (.str ⟨#[66, 97, 100, 78, 117, 109, 98, 101, 114]⟩)) (.cons (.isE 0 6) .nil))) .nil))))) (.cons (.asg (.nm 1) (.op .add (.var 1) (.lst (.cons (.tup (.cons (.con (.str ⟨#[83, 116, 117, 99, 107]⟩)) (.cons (.isE 0 7) .nil))) (.cons (.tup (.cons (.con (.str ⟨#[84, 111, 111, 71, 114, 101, 97, 116]⟩)) (.cons (.isE 0 8) .nil))) .nil))))) (.cons (.asg (.nm 1) (.op .add (.var 1) (.lst (.cons (.tup (.cons (.con (.str ⟨#[66, 97, 100, 80, 97, 112, 101, 114]⟩)) (.cons (.isE 0 9) .nil))) (.cons (.tup (.cons (.con (.str ⟨#[66, 97, 100, 84, 101, 120, 116]⟩)) (.cons (.isE 0 17) .nil))) .nil))))) (.cons (.asg (.nm 1) (.op .add (.var 1) (.lst (.cons (.tup (.cons (.con (.str ⟨#[66, 97, 100, 78, 97, 109, 101]⟩)) (.cons (.isE 0 18) .nil))) (.cons (.tup (.cons (.con (.str ⟨#[78, 111, 116, 104, 105, 110, 103, 66, 97, 99, 107]⟩)) (.cons (.isE 0 25) .nil))) .nil))))) (.cons (.ret (.lc [2] (.idx (.var 2) (.con (.int 0))) (.nm 2) (.seq (.var 1)) (.cons (.idx (.var 2) (.con (.int 1))) .nil))) .nil)))))))))))))), false, []⟩
/-- _law_is_alone: 0=_law_made 1=_law_kind -/
def nm37 : List Str := ["_law_made", "_law_kind"]
def fk37 : Fk := .code ⟨2, 2, [false, false], (.cons (.ite (.or (.cons (.op .ne (.call 36 (.cons (.var 0) .nil)) (.lst (.cons (.var 1) .nil))) (.cons (.not (.isE 0 26)) (.cons (.not (.isE 0 100)) .nil)))) (.cons (.ret (.con (.bl false))) .nil) .nil) (.cons (.ite (.or (.cons (.isE 0 101) (.cons (.isE 0 102) .nil))) (.cons (.ret (.con (.bl false))) .nil) .nil) (.cons (.ret (.not (.isE 0 103))) .nil))), false, []⟩
/-- _law_places_kept: 0=_law_thing 1=_law_rows 2=_law_kind 3=_law_made 4=_law_other -/
def nm38 : List Str := ["_law_thing", "_law_rows", "_law_kind", "_law_made", "_law_other"]
def fk38 : Fk := .code ⟨1, 5, [false], (.cons (.asg (.nm 1) (.lst (.cons (.tup (.cons (.con (.str ⟨#[66, 97, 100, 65, 114, 114, 97, 121]⟩)) (.cons (.mkE false 0 [] (.cons (.var 0) .nil)) (.cons (.mkE true 0 [0] (.cons (.var 0) .nil)) .nil)))) .nil))) (.cons (.asg (.nm 1) (.op .add (.var 1) (.lst (.cons (.tup (.cons (.con (.str ⟨#[66, 97, 100, 83, 104, 97, 112, 101]⟩)) (.cons (.mkE false 1 [] (.cons (.var 0) .nil)) (.cons (.mkE true 1 [0] (.cons (.var 0) .nil)) .nil)))) .nil)))) (.cons (.asg (.nm 1) (.op .add (.var 1) (.lst (.cons (.tup (.cons (.con (.str ⟨#[66, 97, 100, 67, 117, 115, 116, 111, 109, 115]⟩)) (.cons (.mkE false 4 [] (.cons (.var 0) .nil)) (.cons (.mkE true 4 [0] (.cons (.var 0) .nil)) .nil)))) .nil)))) (.cons (.asg (.nm 1) (.op .add (.var 1) (.lst (.cons (.tup (.cons (.con (.str ⟨#[66, 97, 100, 77, 101, 97, 110, 105, 110, 103]⟩)) (.cons (.mkE false 5 [] (.cons (.var 0) .nil)) (.cons (.mkE true 5 [0] (.cons (.var 0) .nil)) .nil)))) .nil)))) (.cons (.asg (.nm 1) (.op .add (.var 1) (.lst (.cons (.tup (.cons (.con (.str ⟨#[66, 97, 100, 83, 105, 100, 101, 115]⟩)) (.cons (.mkE false 10 [] (.cons (.var 0) .nil)) (.cons (.mkE true 10 [0] (.cons (.var 0) .nil)) .nil)))) .nil)))) (.cons (.asg (.nm 1) (.op .add (.var 1) (.lst (.cons (.tup (.cons (.con (.str ⟨#[66, 97, 100, 82, 111, 119]⟩)) (.cons (.mkE false 11 [] (.cons (.var 0) .nil)) (.cons (.mkE true 11 [0] (.cons (.var 0) .nil)) .nil)))) .nil)))) (.cons (.asg (.nm 1) (.op .add (.var 1) (.lst (.cons (.tup (.cons (.con (.str ⟨#[66, 97, 100, 80, 108, 97, 110]⟩)) (.cons (.mkE false 13 [] (.cons (.var 0) .nil)) (.cons (.mkE true 13 [0] (.cons (.var 0) .nil)) .nil)))) .nil)))) (.cons (.asg (.nm 1) (.op .add (.var 1) (.lst (.cons (.tup (.cons (.con (.str ⟨#[66, 97, 100, 66, 111, 111, 107]⟩)) (.cons (.mkE false 16 [] (.cons (.var 0) .nil)) (.cons (.mkE true 16 [0] (.cons (.var 0) .nil)) .nil)))) .nil)))) (.cons (.asg (.nm 1) (.op .add (.var 1) (.lst (.cons (.tup (.cons (.con (.str ⟨#[66, 97, 100, 65, 99, 116]⟩)) (.cons (.mkE false 19 [] (.cons (.var 0) .nil)) (.cons (.mkE true 19 [0] (.cons (.var 0) .nil)) .nil)))) .nil)))) (.cons (.asg (.nm 1) (.op .add (.var 1) (.lst (.cons (.tup (.cons (.con (.str ⟨#[66, 97, 100, 70, 105, 108, 108, 105, 110, 103]⟩)) (.cons (.mkE false 22 [] (.cons (.var 0) .nil)) (.cons (.mkE true 22 [0] (.cons (.var 0) .nil)) .nil)))) .nil)))) (.cons (.asg (.nm 1) (.op .add (.var 1) (.lst (.cons (.tup (.cons (.con (.str ⟨#[66, 97, 100, 76, 101, 100, 103, 101, 114]⟩)) (.cons (.mkE false 24 [] (.cons (.var 0) .nil)) (.cons (.mkE true 24 [0] (.cons (.var 0) .nil)) .nil)))) .nil)))) (.cons (.for_ (.tp [(.nm 2), (.nm 3), (.nm 4)]) (.seq (.var 1)) (.cons (.ite (.or (.cons (.not (.call 37 (.cons (.var 3) (.cons (.var 2) .nil)))) (.cons (.not (.call 37 (.cons (.var 4) (.cons (.var 2) .nil)))) .nil))) (.cons (.ret (.con (.bl false))) .nil) .nil) (.cons (.ite (.not (.call 34 (.cons (.lst (.cons (.fld 3 "place") (.cons (.fld 4 "place") .nil))) (.cons (.lst (.cons (.var 0) (.cons (.var 0) .nil))) .nil)))) (.cons (.ret (.con (.bl false))) .nil) .nil) .nil))) (.cons (.ret (.con (.bl true))) .nil))))))))))))), false, []⟩
/-- _law_paths_kept: 0=_law_thing 1=_law_rows 2=_law_kind 3=_law_made 4=_law_other -/
def nm39 : List Str := ["_law_thing", "_law_rows", "_law_kind", "_law_made", "_law_other"]
def fk39 : Fk := .code ⟨1, 5, [false], (.cons (.asg (.nm 1) (.lst (.cons (.tup (.cons (.con (.str ⟨#[66, 97, 100, 86, 101, 114, 98]⟩)) (.cons (.mkE false 2 [] (.cons (.var 0) .nil)) (.cons (.mkE true 2 [0] (.cons (.var 0) .nil)) .nil)))) .nil))) (.cons (.asg (.nm 1) (.op .add (.var 1) (.lst (.cons (.tup (.cons (.con (.str ⟨#[66, 97, 100, 76, 111, 111, 112]⟩)) (.cons (.mkE false 12 [] (.cons (.var 0) .nil)) (.cons (.mkE true 12 [0] (.cons (.var 0) .nil)) .nil)))) .nil)))) (.cons (.asg (.nm 1) (.op .add (.var 1) (.lst (.cons (.tup (.cons (.con (.str ⟨#[66, 97, 100, 83, 101, 110, 116, 101, 110, 99, 101]⟩)) (.cons (.mkE false 3 [] (.cons (.var 0) .nil)) (.cons (.mkE true 3 [0] (.cons (.var 0) .nil)) .nil)))) .nil)))) (.cons (.asg (.nm 1) (.op .add (.var 1) (.lst (.cons (.tup (.cons (.con (.str ⟨#[66, 97, 100, 84, 114, 97, 105, 110]⟩)) (.cons (.mkE false 14 [] (.cons (.var 0) .nil)) (.cons (.mkE true 14 [0] (.cons (.var 0) .nil)) .nil)))) .nil)))) (.cons (.asg (.nm 1) (.op .add (.var 1) (.lst (.cons (.tup (.cons (.con (.str ⟨#[66, 97, 100, 70, 111, 114, 109]⟩)) (.cons (.mkE false 15 [] (.cons (.var 0) .nil)) (.cons (.mkE true 15 [0] (.cons (.var 0) .nil)) .nil)))) .nil)))) (.cons (.asg (.nm 1) (.op .add (.var 1) (.lst (.cons (.tup (.cons (.con (.str ⟨#[66, 97, 100, 80, 97, 116, 104]⟩)) (.cons (.mkE false 20 [] (.cons (.var 0) .nil)) (.cons (.mkE true 20 [0] (.cons (.var 0) .nil)) .nil)))) .nil)))) (.cons (.asg (.nm 1) (.op .add (.var 1) (.lst (.cons (.tup (.cons (.con (.str ⟨#[66, 97, 100, 83, 117, 109]⟩)) (.cons (.mkE false 23 [] (.cons (.var 0) .nil)) (.cons (.mkE true 23 [0] (.cons (.var 0) .nil)) .nil)))) .nil)))) (.cons (.asg (.nm 1) (.op .add (.var 1) (.lst (.cons (.tup (.cons (.con (.str ⟨#[66, 97, 100, 80, 97, 116, 116, 101, 114, 110]⟩)) (.cons (.mkE false 21 [] (.cons (.var 0) .nil)) (.cons (.mkE true 21 [0] (.cons (.var 0) .nil)) .nil)))) .nil)))) (.cons (.for_ (.tp [(.nm 2), (.nm 3), (.nm 4)]) (.seq (.var 1)) (.cons (.ite (.or (.cons (.not (.call 37 (.cons (.var 3) (.cons (.var 2) .nil)))) (.cons (.not (.call 37 (.cons (.var 4) (.cons (.var 2) .nil)))) .nil))) (.cons (.ret (.con (.bl false))) .nil) .nil) (.cons (.ite (.not (.call 34 (.cons (.lst (.cons (.fld 3 "path") (.cons (.fld 4 "path") .nil))) (.cons (.lst (.cons (.var 0) (.cons (.var 0) .nil))) .nil)))) (.cons (.ret (.con (.bl false))) .nil) .nil) .nil))) (.cons (.ret (.con (.bl true))) .nil)))))))))), false, []⟩
/-- _law_others_kept: 0=_law_thing 1=_law_other 2=_law_made -/
def nm40 : List Str := ["_law_thing", "_law_other", "_law_made"]
def fk40 : Fk := .code ⟨2, 3, [false, false], (.cons (.for_ (.nm 2) (.seq (.tup (.cons (.mkE false 6 [] (.cons (.var 0) .nil)) (.cons (.mkE true 6 [0] (.cons (.var 0) .nil)) .nil)))) (.cons (.ite (.or (.cons (.not (.call 37 (.cons (.var 2) (.cons (.con (.str ⟨#[66, 97, 100, 78, 117, 109, 98, 101, 114]⟩)) .nil)))) (.cons (.not (.call 34 (.cons (.fld 2 "value") (.cons (.var 0) .nil)))) .nil))) (.cons (.ret (.con (.bl false))) .nil) .nil) .nil)) (.cons (.for_ (.nm 2) (.seq (.tup (.cons (.mkE false 8 [] (.cons (.var 0) .nil)) (.cons (.mkE true 8 [0] (.cons (.var 0) .nil)) .nil)))) (.cons (.ite (.or (.cons (.not (.call 37 (.cons (.var 2) (.cons (.con (.str ⟨#[84, 111, 111, 71, 114, 101, 97, 116]⟩)) .nil)))) (.cons (.not (.call 34 (.cons (.fld 2 "most") (.cons (.var 0) .nil)))) .nil))) (.cons (.ret (.con (.bl false))) .nil) .nil) .nil)) (.cons (.for_ (.nm 2) (.seq (.tup (.cons (.mkE false 9 [] (.cons (.var 0) .nil)) (.cons (.mkE true 9 [0] (.cons (.var 0) .nil)) .nil)))) (.cons (.ite (.or (.cons (.not (.call 37 (.cons (.var 2) (.cons (.con (.str ⟨#[66, 97, 100, 80, 97, 112, 101, 114]⟩)) .nil)))) (.cons (.not (.call 34 (.cons (.fld 2 "word") (.cons (.var 0) .nil)))) .nil))) (.cons (.ret (.con (.bl false))) .nil) .nil) .nil)) (.cons (.for_ (.nm 2) (.seq (.tup (.cons (.mkE false 18 [] (.cons (.var 0) .nil)) (.cons (.mkE true 18 [0] (.cons (.var 0) .nil)) .nil)))) (.cons (.ite (.or (.cons (.not (.call 37 (.cons (.var 2) (.cons (.con (.str ⟨#[66, 97, 100, 78, 97, 109, 101]⟩)) .nil)))) (.cons (.not (.call 34 (.cons (.fld 2 "name") (.cons (.var 0) .nil)))) .nil))) (.cons (.ret (.con (.bl false))) .nil) .nil) .nil)) (.cons (.for_ (.nm 2) (.seq (.tup (.cons (.mkE false 7 [] (.cons (.var 0) (.cons (.var 1) .nil))) (.cons (.mkE true 7 [1, 0] (.cons (.var 1) (.cons (.var 0) .nil))) .nil)))) (.cons (.ite (.or (.cons (.not (.call 37 (.cons (.var 2) (.cons (.con (.str ⟨#[83, 116, 117, 99, 107]⟩)) .nil)))) (.cons (.not (.call 34 (.cons (.lst (.cons (.fld 2 "path") (.cons (.fld 2 "word") .nil))) (.cons (.lst (.cons (.var 0) (.cons (.var 1) .nil))) .nil)))) .nil))) (.cons (.ret (.con (.bl false))) .nil) .nil) .nil)) (.cons (.for_ (.nm 2) (.seq (.tup (.cons (.mkE false 17 [] (.cons (.var 0) (.cons (.var 1) .nil))) (.cons (.mkE true 17 [1, 0] (.cons (.var 1) (.cons (.var 0) .nil))) .nil)))) (.cons (.ite (.or (.cons (.not (.call 37 (.cons (.var 2) (.cons (.con (.str ⟨#[66, 97, 100, 84, 101, 120, 116]⟩)) .nil)))) (.cons (.not (.call 34 (.cons (.lst (.cons (.fld 2 "line") (.cons (.fld 2 "word") .nil))) (.cons (.lst (.cons (.var 0) (.cons (.var 1) .nil))) .nil)))) .nil))) (.cons (.ret (.con (.bl false))) .nil) .nil) .nil)) (.cons (.ret (.con (.bl true))) .nil))))))), false, []⟩
/-- _law_caught: 0=_law_call 1=_law_found 2=error -/
def nm41 : List Str := ["_law_call", "_law_found", "error"]
def fk41 : Fk := .code ⟨1, 3, [false], (.cons (.asg (.nm 1) (.lst .nil)) (.cons (.try_ .exp (.callv 0 .nil) [⟨.any, some 2, [.app 1 (.var 2)]⟩]) (.cons (.retv 1) .nil))), false, []⟩
/-- _law_raised_right: 0=_law_rows 1=_law_call 2=_law_kind 3=_law_found -/
def nm42 : List Str := ["_law_rows", "_law_call", "_law_kind", "_law_found"]
def fk42 : Fk := .code ⟨0, 4, [], (.cons (.asg (.nm 0) (.lst (.cons (.tup (.cons (.lamr 51 []) (.cons (.con (.str ⟨#[66, 97, 100, 83, 104, 97, 112, 101]⟩)) .nil))) (.cons (.tup (.cons (.lamr 50 []) (.cons (.con (.str ⟨#[66, 97, 100, 65, 114, 114, 97, 121]⟩)) .nil))) .nil)))) (.cons (.asg (.nm 0) (.op .add (.var 0) (.lst (.cons (.tup (.cons (.lamr 49 []) (.cons (.con (.str ⟨#[66, 97, 100, 78, 117, 109, 98, 101, 114]⟩)) .nil))) (.cons (.tup (.cons (.lamr 48 []) (.cons (.con (.str ⟨#[66, 97, 100, 82, 111, 119]⟩)) .nil))) .nil))))) (.cons (.asg (.nm 0) (.op .add (.var 0) (.lst (.cons (.tup (.cons (.lamr 47 []) (.cons (.con (.str ⟨#[66, 97, 100, 83, 105, 100, 101, 115]⟩)) .nil))) (.cons (.tup (.cons (.lamr 46 []) (.cons (.con (.str ⟨#[66, 97, 100, 86, 101, 114, 98]⟩)) .nil))) .nil))))) (.cons (.asg (.nm 0) (.op .add (.var 0) (.lst (.cons (.tup (.cons (.lamr 45 []) (.cons (.con (.str ⟨#[83, 116, 117, 99, 107]⟩)) .nil))) .nil)))) (.cons (.app 0 (.tup (.cons (.lamr 44 []) (.cons (.con (.str ⟨#[83, 116, 117, 99, 107]⟩)) .nil)))) (.cons (.for_ (.tp [(.nm 1), (.nm 2)]) (.seq (.var 0)) (.cons (.asg (.nm 3) (.callC 41 [] (.cons (.var 1) .nil))) (.cons (.ite (.or (.cons (.op .ne (.bi .len (.cons (.var 3) .nil)) (.con (.int 1))) (.cons (.not (.callC 37 [] (.cons (.idx (.var 3) (.con (.int 0))) (.cons (.var 2) .nil)))) .nil))) (.cons (.ret (.con (.bl false))) .nil) .nil) .nil))) (.cons (.ret (.con (.bl true))) .nil))))))), true, []⟩
/-- law: 0=_law_script 1=_law_m 2=_law_things 3=_law_turn 4=_law_made -/
def nm43 : List Str := ["_law_script", "_law_m", "_law_things", "_law_turn", "_law_made"]
def fk43 : Fk := .begun
def lw : Lw := ⟨5, .nil, 1, (.cons (.asg (.nm 2) (.lst (.cons (.con .non) (.cons (.con (.bl true)) (.cons (.con (.int 0)) (.cons (.neg (.con (.int 1))) (.cons (.op .pow (.con (.int 10)) (.con (.int 30))) (.cons (.con (.str ⟨#[]⟩)) (.cons (.con (.str ⟨#[97, 32, 119, 111, 114, 100]⟩)) (.cons (.tup .nil) (.cons (.tup (.cons (.con (.int 0)) (.cons (.con (.int 1)) .nil))) (.cons (.lst (.cons (.con (.int 1)) .nil)) (.cons .dnew (.cons (.dsp ⟨#[97]⟩ [1]) (.cons (.tup (.cons (.tup .nil) (.cons (.con .non) .nil))) .nil))))))))))))))) (.cons (.for_ (.nm 3) (.rng1 (.con (.int 5))) (.cons (.ite (.or (.cons (.not (.call 38 (.cons (.call 35 (.cons (.var 1) (.cons (.var 2) .nil))) .nil))) (.cons (.not (.call 39 (.cons (.call 35 (.cons (.var 1) (.cons (.var 2) .nil))) .nil))) .nil))) (.cons (.ret (.con (.bl false))) .nil) .nil) (.cons (.ite (.not (.call 40 (.cons (.call 35 (.cons (.var 1) (.cons (.var 2) .nil))) (.cons (.call 35 (.cons (.var 1) (.cons (.var 2) .nil))) .nil)))) (.cons (.ret (.con (.bl false))) .nil) .nil) .nil))) (.cons (.asg (.nm 4) (.mkE false 26 [] (.cons (.call 35 (.cons (.var 1) (.cons (.var 2) .nil))) .nil))) (.cons (.ite (.or (.cons (.op .ne (.call 36 (.cons (.var 4) .nil)) (.lst .nil)) (.cons (.not (.isE 4 100)) .nil))) (.cons (.ret (.con (.bl false))) .nil) .nil) (.cons (.ret (.and (.cons (.call 37 (.cons (.mkE false 25 [] .nil) (.cons (.con (.str ⟨#[78, 111, 116, 104, 105, 110, 103, 66, 97, 99, 107]⟩)) .nil))) (.cons (.call 42 .nil) .nil)))) .nil)))))⟩
def lwAt : Nat := 0
def fk44 : Fk := .lam 0 (.call 29 (.cons (.tup (.cons (.con (.str ⟨#[119, 114, 97, 112]⟩)) .nil)) (.cons (.tup (.cons (.con (.int 1)) (.cons (.con (.int 1)) (.cons (.con (.int 1)) (.cons (.con (.int 1)) .nil))))) .nil)))
def fk45 : Fk := .lam 0 (.call 29 (.cons (.tup (.cons (.con (.str ⟨#[116, 117, 114, 110]⟩)) .nil)) (.cons (.tup .nil) .nil)))
def fk46 : Fk := .lam 0 (.call 29 (.cons (.tup (.cons (.con (.str ⟨#[115, 112, 105, 110]⟩)) .nil)) (.cons (.tup .nil) .nil)))
def fk47 : Fk := .lam 0 (.call 15 (.cons (.tup (.cons (.con (.int 2)) .nil)) (.cons (.tup (.cons (.con (.int 3)) .nil)) .nil)))
def fk48 : Fk := .lam 0 (.call 11 (.cons (.lst (.cons (.con (.int 1)) .nil)) .nil))
def fk49 : Fk := .lam 0 (.call 10 (.cons (.con (.bl true)) .nil))
def fk50 : Fk := .lam 0 (.call 9 (.cons (.con .non) .nil))
def fk51 : Fk := .lam 0 (.call 7 (.cons (.con .non) .nil))
def fks : List Fk := ([fk0, fk1, fk2, fk3, fk4, fk5, fk6, fk7, fk8, fk9, fk10, fk11, fk12, fk13, fk14, fk15, fk16, fk17, fk18, fk19, fk20, fk21, fk22, fk23, fk24, fk25, fk26, fk27, fk28, fk29, fk30, fk31, fk32, fk33, fk34, fk35, fk36, fk37, fk38, fk39, fk40, fk41, fk42, fk43, fk44, fk45, fk46, fk47, fk48, fk49, fk50, fk51] : List Fk)
def csL0 : List (Str × W) := [("MOST_SIDE", (.int 400)), ("MOST_ITEMS", (.int 400)), ("MOST_SIDES", (.int 4)), ("COUNTED_MOVES", (.tup [(.str ⟨#[114, 111, 108, 108]⟩), (.str ⟨#[116, 97, 107, 101]⟩), (.str ⟨#[100, 114, 111, 112]⟩)])), ("MOST_MOVED", (.int 400)), ("BARE_MOVES", (.tup [(.str ⟨#[115, 97, 109, 101]⟩), (.str ⟨#[116, 117, 114, 110]⟩), (.str ⟨#[114, 97, 118, 101, 108]⟩), (.str ⟨#[119, 114, 97, 112]⟩)]))]
def csL : List (Str × W) := csL0
def cn (k : Nat) : W := match nth csL k with
  | some p => p.2
  | none => .non
def fnmL : List Str := (["is_whole", "is_within", "is_tuple_of", "product", "first_bad", "is_one_side", "lasting_product", "need_shape", "is_shape", "need_array", "scalar", "row_of", "first_unlike", "need_agreeing", "greater_frame", "frame_pairs", "indexes_of_shape", "steps_of_sides", "is_whole_order", "is_place_row"] : List Str) ++ (["is_row_move", "need_made", "along_first", "spots_taken", "spots_kept", "spots_moved", "axes_put", "laid_out", "row_of_move", "source_row", "_law_mixed", "_law_folded", "_law_draw", "_law_begun", "_law_like", "_law_of", "_law_words", "_law_is_alone", "_law_places_kept", "_law_paths_kept"] : List Str) ++ (["_law_others_kept", "_law_caught", "_law_raised_right", "law"] : List Str)
def cnmL : List Str := csL.map (·.1)
def ersL : List Nat := [0, 1, 2, 3, 4, 5, 6, 7, 8, 9, 10, 11, 12, 13, 14, 15, 16, 17, 18, 19, 20, 21, 22, 23, 24, 25, 26]
def tb : Tb := mkTb fnmL cnmL ersL fks
def hkL : List Bool := ([false, false, false, false, false, false, false, false, false, false, false, false, false, false, false, false, false, false, false, false, false, false, false, false, false, false, false, false, false, false, false, false, false, false, false, false, false, false, false, false, false, false, true, false] : List Bool)
-- HK 42
end Ov
namespace Ov
open PySem PySem.Spec L2 Ev
set_option autoImplicit false
def tops : List Stmt := PySem.Challenge.pw_openverbs_k00_errors_of_all_parts.main.body
def topAt (i : Nat) : Stmt := tops.getD i (.Pass ⟨0, 0, 0, 0⟩)
abbrev st0 : Stmt := topAt 29
def rw0 : Rw := ⟨⟨("is_whole", none), "is_whole", "is_whole", defArgs st0, defBody st0, defScope st0, [], []⟩, nm0, false⟩
abbrev st1 : Stmt := topAt 30
def rw1 : Rw := ⟨⟨("is_within", none), "is_within", "is_within", defArgs st1, defBody st1, defScope st1, [], []⟩, nm1, false⟩
abbrev st2 : Stmt := topAt 31
def rw2 : Rw := ⟨⟨("is_tuple_of", none), "is_tuple_of", "is_tuple_of", defArgs st2, defBody st2, defScope st2, [], []⟩, nm2, false⟩
abbrev st3 : Stmt := topAt 32
def rw3 : Rw := ⟨⟨("product", none), "product", "product", defArgs st3, defBody st3, defScope st3, [], []⟩, nm3, false⟩
abbrev st4 : Stmt := topAt 33
def rw4 : Rw := ⟨⟨("first_bad", none), "first_bad", "first_bad", defArgs st4, defBody st4, defScope st4, [], []⟩, nm4, false⟩
abbrev st5 : Stmt := topAt 38
def rw5 : Rw := ⟨⟨("is_one_side", none), "is_one_side", "is_one_side", defArgs st5, defBody st5, defScope st5, [], []⟩, nm5, false⟩
abbrev st6 : Stmt := topAt 39
def rw6 : Rw := ⟨⟨("lasting_product", none), "lasting_product", "lasting_product", defArgs st6, defBody st6, defScope st6, [], []⟩, nm6, false⟩
abbrev st7 : Stmt := topAt 40
def rw7 : Rw := ⟨⟨("need_shape", none), "need_shape", "need_shape", defArgs st7, defBody st7, defScope st7, [], []⟩, nm7, false⟩
abbrev st8 : Stmt := topAt 41
def rw8 : Rw := ⟨⟨("is_shape", none), "is_shape", "is_shape", defArgs st8, defBody st8, defScope st8, [], []⟩, nm8, false⟩
abbrev st9 : Stmt := topAt 42
def rw9 : Rw := ⟨⟨("need_array", none), "need_array", "need_array", defArgs st9, defBody st9, defScope st9, [], []⟩, nm9, false⟩
abbrev st10 : Stmt := topAt 43
def rw10 : Rw := ⟨⟨("scalar", none), "scalar", "scalar", defArgs st10, defBody st10, defScope st10, [], []⟩, nm10, false⟩
abbrev st11 : Stmt := topAt 44
def rw11 : Rw := ⟨⟨("row_of", none), "row_of", "row_of", defArgs st11, defBody st11, defScope st11, [], []⟩, nm11, false⟩
abbrev st12 : Stmt := topAt 46
def rw12 : Rw := ⟨⟨("first_unlike", none), "first_unlike", "first_unlike", defArgs st12, defBody st12, defScope st12, [], []⟩, nm12, false⟩
abbrev st13 : Stmt := topAt 47
def rw13 : Rw := ⟨⟨("need_agreeing", none), "need_agreeing", "need_agreeing", defArgs st13, defBody st13, defScope st13, [], []⟩, nm13, false⟩
abbrev st14 : Stmt := topAt 48
def rw14 : Rw := ⟨⟨("greater_frame", none), "greater_frame", "greater_frame", defArgs st14, defBody st14, defScope st14, [], []⟩, nm14, false⟩
abbrev st15 : Stmt := topAt 49
def rw15 : Rw := ⟨⟨("frame_pairs", none), "frame_pairs", "frame_pairs", defArgs st15, defBody st15, defScope st15, [], []⟩, nm15, false⟩
abbrev st16 : Stmt := topAt 54
def rw16 : Rw := ⟨⟨("indexes_of_shape", none), "indexes_of_shape", "indexes_of_shape", defArgs st16, defBody st16, defScope st16, [], []⟩, nm16, false⟩
abbrev st17 : Stmt := topAt 55
def rw17 : Rw := ⟨⟨("steps_of_sides", none), "steps_of_sides", "steps_of_sides", defArgs st17, defBody st17, defScope st17, [], []⟩, nm17, false⟩
abbrev st18 : Stmt := topAt 56
def rw18 : Rw := ⟨⟨("is_whole_order", none), "is_whole_order", "is_whole_order", defArgs st18, defBody st18, defScope st18, [], []⟩, nm18, false⟩
abbrev st19 : Stmt := topAt 57
def rw19 : Rw := ⟨⟨("is_place_row", none), "is_place_row", "is_place_row", defArgs st19, defBody st19, defScope st19, [], []⟩, nm19, false⟩
abbrev st20 : Stmt := topAt 58
def rw20 : Rw := ⟨⟨("is_row_move", none), "is_row_move", "is_row_move", defArgs st20, defBody st20, defScope st20, [], []⟩, nm20, false⟩
abbrev st21 : Stmt := topAt 59
def rw21 : Rw := ⟨⟨("need_made", none), "need_made", "need_made", defArgs st21, defBody st21, defScope st21, [], []⟩, nm21, false⟩
abbrev st22 : Stmt := topAt 60
def rw22 : Rw := ⟨⟨("along_first", none), "along_first", "along_first", defArgs st22, defBody st22, defScope st22, [], []⟩, nm22, false⟩
abbrev st23 : Stmt := topAt 61
def rw23 : Rw := ⟨⟨("spots_taken", none), "spots_taken", "spots_taken", defArgs st23, defBody st23, defScope st23, [], []⟩, nm23, false⟩
abbrev st24 : Stmt := topAt 62
def rw24 : Rw := ⟨⟨("spots_kept", none), "spots_kept", "spots_kept", defArgs st24, defBody st24, defScope st24, [], []⟩, nm24, false⟩
abbrev st25 : Stmt := topAt 63
def rw25 : Rw := ⟨⟨("spots_moved", none), "spots_moved", "spots_moved", defArgs st25, defBody st25, defScope st25, [], []⟩, nm25, false⟩
abbrev st26 : Stmt := topAt 64
def rw26 : Rw := ⟨⟨("axes_put", none), "axes_put", "axes_put", defArgs st26, defBody st26, defScope st26, [], []⟩, nm26, false⟩
abbrev st27 : Stmt := topAt 65
def rw27 : Rw := ⟨⟨("laid_out", none), "laid_out", "laid_out", defArgs st27, defBody st27, defScope st27, [], []⟩, nm27, false⟩
abbrev st28 : Stmt := topAt 66
def rw28 : Rw := ⟨⟨("row_of_move", none), "row_of_move", "row_of_move", defArgs st28, defBody st28, defScope st28, [], []⟩, nm28, false⟩
abbrev st29 : Stmt := topAt 67
def rw29 : Rw := ⟨⟨("source_row", none), "source_row", "source_row", defArgs st29, defBody st29, defScope st29, [], []⟩, nm29, false⟩
abbrev st30 : Stmt := topAt 69
def rw30 : Rw := ⟨⟨("_law_mixed", none), "_law_mixed", "_law_mixed", defArgs st30, defBody st30, defScope st30, [], []⟩, nm30, false⟩
abbrev st31 : Stmt := topAt 70
def rw31 : Rw := ⟨⟨("_law_folded", none), "_law_folded", "_law_folded", defArgs st31, defBody st31, defScope st31, [], []⟩, nm31, false⟩
abbrev st32 : Stmt := topAt 71
def rw32 : Rw := ⟨⟨("_law_draw", none), "_law_draw", "_law_draw", defArgs st32, defBody st32, defScope st32, [], []⟩, nm32, false⟩
abbrev st33 : Stmt := topAt 72
def rw33 : Rw := ⟨⟨("_law_begun", none), "_law_begun", "_law_begun", defArgs st33, defBody st33, defScope st33, [], []⟩, nm33, false⟩
abbrev st34 : Stmt := topAt 73
def rw34 : Rw := ⟨⟨("_law_like", none), "_law_like", "_law_like", defArgs st34, defBody st34, defScope st34, [], []⟩, nm34, false⟩
abbrev st35 : Stmt := topAt 74
def rw35 : Rw := ⟨⟨("_law_of", none), "_law_of", "_law_of", defArgs st35, defBody st35, defScope st35, [], []⟩, nm35, false⟩
abbrev st36 : Stmt := topAt 75
def rw36 : Rw := ⟨⟨("_law_words", none), "_law_words", "_law_words", defArgs st36, defBody st36, defScope st36, [], []⟩, nm36, false⟩
abbrev st37 : Stmt := topAt 76
def rw37 : Rw := ⟨⟨("_law_is_alone", none), "_law_is_alone", "_law_is_alone", defArgs st37, defBody st37, defScope st37, [], []⟩, nm37, false⟩
abbrev st38 : Stmt := topAt 77
def rw38 : Rw := ⟨⟨("_law_places_kept", none), "_law_places_kept", "_law_places_kept", defArgs st38, defBody st38, defScope st38, [], []⟩, nm38, false⟩
abbrev st39 : Stmt := topAt 78
def rw39 : Rw := ⟨⟨("_law_paths_kept", none), "_law_paths_kept", "_law_paths_kept", defArgs st39, defBody st39, defScope st39, [], []⟩, nm39, false⟩
abbrev st40 : Stmt := topAt 79
def rw40 : Rw := ⟨⟨("_law_others_kept", none), "_law_others_kept", "_law_others_kept", defArgs st40, defBody st40, defScope st40, [], []⟩, nm40, false⟩
abbrev st41 : Stmt := topAt 80
def rw41 : Rw := ⟨⟨("_law_caught", none), "_law_caught", "_law_caught", defArgs st41, defBody st41, defScope st41, [], []⟩, nm41, false⟩
abbrev st42 : Stmt := topAt 81
def rw42 : Rw := ⟨⟨("_law_raised_right", none), "_law_raised_right", "_law_raised_right", defArgs st42, defBody st42, defScope st42, [], []⟩, nm42, true⟩
abbrev st43 : Stmt := topAt 82
def rw43 : Rw := ⟨⟨("law", none), "law", "law", defArgs st43, defBody st43, defScope st43, [], []⟩, nm43, false⟩
def rows0 : List Rw := [rw0, rw1, rw2, rw3, rw4, rw5, rw6, rw7, rw8, rw9, rw10, rw11, rw12, rw13, rw14, rw15, rw16, rw17, rw18, rw19, rw20, rw21, rw22, rw23, rw24, rw25, rw26, rw27, rw28, rw29]
def rows1 : List Rw := [rw30, rw31, rw32, rw33, rw34, rw35, rw36, rw37, rw38, rw39, rw40, rw41, rw42, rw43]
def rows : List Rw := rows0 ++ rows1
def loose0 : List Str := ["VerbError", "BadArray", "BadShape", "BadVerb", "BadSentence", "BadCustoms", "BadMeaning", "BadNumber", "Stuck", "TooGreat", "BadPaper", "BadSides", "BadRow", "BadLoop", "BadPlan", "BadTrain", "BadForm", "BadBook", "BadText", "BadName", "BadAct", "NothingBack", "BadPath", "BadPattern", "BadFilling", "BadSum", "BadLedger", "is_whole", "is_within", "is_tuple_of"]
def loose1 : List Str := ["product", "first_bad", "MOST_SIDES", "MOST_SIDE", "MOST_ITEMS", "is_one_side", "lasting_product", "need_shape", "is_shape", "need_array", "scalar", "row_of", "first_unlike", "need_agreeing", "greater_frame", "frame_pairs", "BARE_MOVES", "COUNTED_MOVES", "MOST_MOVED", "indexes_of_shape", "steps_of_sides", "is_whole_order", "is_place_row", "is_row_move", "need_made", "along_first", "spots_taken", "spots_kept", "spots_moved", "axes_put"]
def loose2 : List Str := ["laid_out", "row_of_move", "source_row", "_law_mixed", "_law_folded", "_law_draw", "_law_begun", "_law_like", "_law_of", "_law_words", "_law_is_alone", "_law_places_kept", "_law_paths_kept", "_law_others_kept", "_law_caught", "_law_raised_right"]
def looseAll : List Str := loose0 ++ loose1 ++ loose2
theorem rows_ok : rowsB tb fks rows fnmL = true := by decide +kernel
theorem qu_ok : quB rows = true := by decide +kernel
abbrev RR : PySem.W.OpenRow := PySem.W.OpenLaw.row PySem.Challenge.rw_openverbs_k00_errors_of_all_parts
def tsL : List He.Tab := []
abbrev exL : PySem.W.Frag → Bool := exB RR.prog csL ersL (tfOf rows)
abbrev hk : PySem.W.Hook := hookE 5 (faOf fnmL ersL) (rows.map Rw.d) tsL (tfOf rows) exL
def ob (s : PySem.W.SharedT) : He.AlX := obsE 5 (faOf fnmL ersL) (rows.map Rw.d) tsL (tfOf rows) exL (HandSHeadRun.getT s)
theorem ob_eq (s : PySem.W.SharedT) : ob s = hk.obs s.abs := obsE_eq (HandSHeadRun.getT_eq s)
abbrev RunT (w : World) : Prop := HandSHeadRun.RunEq RR (PySem.W.view RR.prog [82]) hk ob 30000 looseAll w

abbrev VQ : Program := PySem.W.view RR.prog [82]
def dfA : List He.DefD := (rows.take 22).map Rw.d
def dfB : List He.DefD := (rows.drop 22).map Rw.d
def faA : List He.Fa := fnmL.map .glo
def faB : List He.Fa := allBi.map .free ++ cond ersL.isEmpty [] (.glo "VerbError" :: ersL.map fun c => .glo (erN c))
section
open PySem PySem.W PySem.Calls PyProof.Rows HandSHeadRun
abbrev EndO (w : World) (os : OsState) := endF (stepQ (denQ tabQ) RR.prog w) 30000 RR.prog w os
set_option maxHeartbeats 0 in
theorem runA (w : World) : ∀ os, (EndO w os).map (fun s => (looksF RR.prog (boot_heap w.params) s.abs, seenQ VQ looseAll (importedModules RR.prog.main.body) (fun s => xlAt VQ [] s && recOk RR.toRowW.records s) s.abs, obsE 5 faA dfA tsL (tfOf rows) (fun _ => true) (getT s))) = some (true, openGood VQ looseAll, He.valX dfA tsL w) := by
  intro os
  kernel_rfl
set_option maxHeartbeats 0 in
theorem runB (w : World) : ∀ os, (EndO w os).map (fun s => obsE 5 faB dfB tsL [] exL (getT s)) = some (He.valX dfB tsL w) := by
  intro os
  kernel_rfl
end
theorem dfAB : dfA ++ dfB = rows.map Rw.d := by
  unfold dfA dfB
  rw [← List.map_append, List.take_append_drop]
theorem runTop (w : World) : RunT w := fun os => map_two (runA w os) (runB w os) fun s h1 h2 => by
  have q1 := congrArg Prod.fst h1
  have q2 := congrArg (fun z => z.2.1) h1
  have q3 := congrArg (fun z => z.2.2) h1
  have e := obs_split q3 h2
  rw [dfAB] at e
  exact Prod.ext q1 (Prod.ext q2 e)
end Ov
noncomputable section
namespace Ov
open PySem L2 Ev
set_option autoImplicit false
def gx0 : Gx := ⟨fun _ => none, fun _ _ => False, []⟩
/-! ### Mix -/
def blend (c n : Int) : Int := (c * (1 + 2 * n) * 48271) % 2147483647 + 7919 * n * n + 104729 * n
def mixed (c n : Int) : Int := (blend c n * 69621) % 2147483629 / 7
section
variable {P : Program} {w : World} {K : PySem.W.Frag} {mg : Str → Option Value} {base : Heap} {a : Addr} {fd : FuncData}
def spMixed (vs : List V) (H : Hp) (Q : VK) : Prop := ∃ c n : Int, vs = [.int c, .int n] ∧ 0 ≤ n ∧ n < 2 ^ 62 ∧ Q (.int (mixed c n)) H
theorem sc30 : FnScope nm30 ["_law_cell", "_law_n"] (defScope st30) := ⟨rfl, rfl, rfl, by decide +kernel, rfl, by decide +kernel, by decide +kernel⟩
theorem ok_mixed (F : FunD K "_law_mixed" "_law_mixed" (defArgs st30) (defBody st30) (defScope st30) [] [] a fd) (gi : mg "int" = none) : FnG0 P w K mg base 1 a fd ["_law_cell", "_law_n"] spMixed := by
  refine FnG0.of F sc30 (fun vs H Q ⟨c, n, e, _⟩ => by rw [e]; rfl) fun cdv A outer s H vs Q room gu ⟨c, n, ev, n0, n1, hQ⟩ => ?_
  subst ev
  have pInt : ∀ {e : Expr} {te : TE} {p pos : Pos}, PE (cxOf NX P w K mg base nm30 "_law_mixed" (defScope st30) a cdv A outer s H NE).nox e te → starB e = false → PE (cxOf NX P w K mg base nm30 "_law_mixed" (defScope st30) a cdv A outer s H NE).nox (.Call (.Name "int" p) [e] [] pos) _ := fun {e te p pos} h hs => pe_callTy call_int1 rfl gi PyProof.Rows.boot_int (pa_cons h pa_nil (star_cons hs)) (by decide +kernel) (by decide +kernel) (star_cons hs) rfl
  refine of_pss (pss_cons (ps_set (i := 2) sc30.nd rfl (.inl rfl) (pe_op op_add (pe_op op_add (pe_op op_mod (pInt (pe_op op_mul (pe_op op_mul (pv 0) (pe_op op_add pe_int (pe_op op_mul pe_int (pv 1)))) pe_int) rfl) pe_int) (pe_op op_mul (pe_op op_mul pe_int (pv 1)) (pv 1))) (pe_op op_mul pe_int (pv 1)))) (pss_one (ps_ret (pe_op op_fdiv (pe_op op_mod (pInt (pe_op op_mul (pv 2) pe_int) rfl) pe_int) pe_int)))) ?_
  have m1 : CMul c (1 + 2 * n) := .inr ⟨by omega, by omega⟩
  have mr : ∀ x k : Int, -(2 ^ 64) < k → k < 2 ^ 64 → CMul x k := fun x k h1 h2 => .inr ⟨h1, h2⟩
  refine ⟨.int c, rfl, .int n, rfl, 2, n, rfl, rfl, mr _ _ (by omega) (by omega), 1, 2 * n, rfl, rfl, c, 1 + 2 * n, rfl, rfl, m1, _, 48271, rfl, rfl, mr _ _ (by decide) (by decide), .inl ⟨_, rfl, _, _, rfl, rfl, (by decide : (0 : Int) < 2147483647), ?_⟩⟩
  refine ⟨.int n, rfl, 7919, n, rfl, rfl, mr _ _ (by omega) (by omega), .int n, rfl, _, n, rfl, rfl, mr _ _ (by omega) (by omega), _, _, rfl, rfl, ?_⟩
  refine ⟨.int n, rfl, 104729, n, rfl, rfl, mr _ _ (by omega) (by omega), _, _, rfl, rfl, ?_⟩
  exact ⟨_, rfl, _, _, rfl, rfl, mr _ _ (by decide) (by decide), .inl ⟨_, rfl, _, _, rfl, rfl, (by decide : (0 : Int) < 2147483629), _, _, rfl, rfl, ⟨by decide, by decide⟩, hQ⟩⟩
theorem mixed_lo (c n : Int) : 0 ≤ mixed c n ∧ mixed c n < 2147483647 := by
  unfold mixed
  have h1 := Int.emod_nonneg (blend c n * 69621) (show (2147483629 : Int) ≠ 0 by decide)
  have h2 := Int.emod_lt_of_pos (blend c n * 69621) (show (0 : Int) < 2147483629 by decide)
  omega
end
/-! ### Draw -/
theorem toDs_ints : ∀ xs : List Int, toDs (xs.map W.int) = some (xs.map PyData.int)
  | [] => rfl
  | x :: xs => by
    rw [List.map_cons, List.map_cons]
    unfold toDs
    rw [toDs_ints xs]
    rfl
theorem can_ints : ∀ xs : List Int, PyData.canLayAll0 (xs.map PyData.int) = true
  | [] => rfl
  | x :: xs => by
    rw [List.map_cons]
    unfold PyData.canLayAll0
    rw [can_ints xs]
    rfl
theorem dep_ints : ∀ xs : List Int, PyData.depthAll (xs.map PyData.int) ≤ 1
  | [] => by decide
  | x :: xs => by
    have h := dep_ints xs
    rw [List.map_cons]
    unfold PyData.depthAll
    have h2 : (PyData.int x).depth ≤ 1 := by
      unfold PyData.depth
      decide
    exact Nat.max_le.mpr ⟨h2, h⟩
theorem shaped_ints (xs : List Int) : SeqAt.shaped (.list (xs.map PyData.int)) = true := by
  unfold SeqAt.shaped
  rw [Bool.and_eq_true]
  refine ⟨can_ints xs, decide_eq_true ?_⟩
  have := dep_ints xs
  show PyData.depth _ ≤ 64
  unfold PyData.depth
  omega
theorem pe_G {X : Cx} {k : Nat} {a : Addr} {fd : FuncData} {ps : List Str} {sp : List V → Hp → VK → Prop} {x : Str} {p pos : Pos} {e : Expr} {es : List Expr} {t : TA} (F : FnG0 X.prog X.w X.K X.mg X.base k a fd ps sp) (room : Room k X.A) (gu : X.A.guards = some []) (bd : Binds X.K fd ps [])
    (hg : Gl X x) (hm : X.mg x = some (.ref a)) (hk : PySem.W.keepIn X.K (.ref a) = true) (hd : (x == ("__debug__" : Str)) = false) (hs : (e :: es).all (fun e => !starB e) = true) (ha : PA X (e :: es) t) : PE X (.Call (.Name x p) (e :: es) [] pos) (tCB sp t) :=
  ⟨fun pins s σ H Q I h => w_callF hg hm hk hd hs (tWA.mono (of_pa ha h) fun vs H1 q => F.call room gu bd q) pins s I⟩
section
variable {P : Program} {w : World} {K : PySem.W.Frag} {mg : Str → Option Value} {base : Heap} {a aM : Addr} {fd fdM : FuncData}
theorem sc32 : FnScope nm32 ["_law_m", "_law_limit"] (defScope st32) := ⟨rfl, rfl, rfl, by decide +kernel, rfl, by decide +kernel, by decide +kernel⟩
abbrev stOf (m c l : Addr) (k : Int) : List (Key × V) := [(Sum.inr sCells, .ref c), (Sum.inr sGreat, .ref l), (Sum.inr sSpot, .int k)]
structure DrawAt (m c l : Addr) (cs gs : List Int) (k : Int) (H : Hp) : Prop where
  hm : H m = some (.dK (stOf m c l k))
  hc : H c = some (.lst (cs.map V.int))
  hl : H l = some (.lst (gs.map V.int))
  lc : cs.length = 64
  lg : gs.length ≤ 63
  g0 : ∀ x ∈ gs, 0 ≤ x
  c0 : ∀ x ∈ cs, 0 ≤ x ∧ x < 2147483647
  k0 : 0 ≤ k
  k1 : k < 2 ^ 40
def spDraw (vs : List V) (H : Hp) (Q : VK) : Prop := ∃ (m c l : Addr) (cs gs : List Int) (k lim : Int), vs = [.ref m, .int lim] ∧ DrawAt m c l cs gs k H ∧ m ≠ c ∧ m ≠ l ∧ c ≠ l ∧ 0 < lim ∧ lim < 1073741824 ∧
  ∀ (d : Int) (gs' : List Int) (H' : Hp), 0 ≤ d → d < lim → gs'.length = gs.length → (∀ x ∈ gs', (0 : Int) ≤ x) → (∀ (p : Addr) o, p ≠ m → p ≠ l → H p = some o → H' p = some o) → H' m = some (.dK (stOf m c l (k + 1))) → H' l = some (.lst (gs'.map V.int)) → Q (.int d) H'
theorem ok_draw (F : FunD K "_law_draw" "_law_draw" (defArgs st32) (defBody st32) (defScope st32) [] [] a fd) (FM : FunD K "_law_mixed" "_law_mixed" (defArgs st30) (defBody st30) (defScope st30) [] [] aM fdM) (gi : mg "int" = none) (gl : mg "len" = none) (gM : mg "_law_mixed" = some (.ref aM)) : FnG0 P w K mg base 2 a fd ["_law_m", "_law_limit"] spDraw := by
  have GM : FnG0 P w K mg base 1 aM fdM ["_law_cell", "_law_n"] spMixed := ok_mixed FM gi
  have bM : Binds K fdM ["_law_cell", "_law_n"] [] := FM.bindsN fun _ _ _ _ _ _ us hl => match us, hl with | [_, _], _ => rfl
  refine FnG0.of F sc32 (fun vs H Q ⟨m, c, l, cs, gs, k, lim, e, _⟩ => by rw [e]; rfl) fun cdv A outer s H vs Q room gu ⟨m, c, l, cs, gs, k, lim, ev, D, h1, h2, h3, l0, l1, hQ⟩ => ?_
  subst ev
  have hu : (cxOf NX P w K mg base nm32 "_law_draw" (defScope st32) a cdv A outer s H NE).nox.A.units + 1 < cLine := by
    have := room.un
    show (A.deeper _).units + 1 < cLine
    omega
  have pInt : ∀ {e : Expr} {te : TE} {p pos : Pos}, PE (cxOf NX P w K mg base nm32 "_law_draw" (defScope st32) a cdv A outer s H NE).nox e te → starB e = false → PE (cxOf NX P w K mg base nm32 "_law_draw" (defScope st32) a cdv A outer s H NE).nox (.Call (.Name "int" p) [e] [] pos) _ := fun {e te p pos} h hs => pe_callTy call_int1 rfl gi PyProof.Rows.boot_int (pa_cons h pa_nil (star_cons hs)) (by decide +kernel) (by decide +kernel) (star_cons hs) rfl
  refine of_pss (pss_cons (ps_set (i := 2) sc32.nd rfl (.inl rfl) (pe_dget hu (pv 0) pe_str fun _ _ => rfl)) (pss_cons (ps_dput hu (pv 0) pe_str (pe_op op_add (pv 2) pe_int) rfl) pss_w)) ?_
  refine ⟨.ref m, rfl, m, .int k, rfl, DGet.k (k := Sum.inr sSpot) D.hm, ?_⟩
  refine ⟨.int k, rfl, k, 1, rfl, rfl, .ref m, rfl, m, _, rfl, DPut.k (k := Sum.inr sSpot) D.hm (show 3 < sizeLine by decide), ?_⟩
  have eput : L2.putK (stOf m c l k) (Sum.inr sSpot) (.int (k + 1)) = stOf m c l (k + 1) := by rfl
  rw [eput]
  have hu64 : (cxOf NX P w K mg base nm32 "_law_draw" (defScope st32) a cdv A outer s H NE).nox.A.units + 64 < cLine := by
    have := room.un
    show (A.deeper _).units + 64 < cLine
    omega
  have PM : ∀ {e1 e2 : Expr} {t1 t2 : TE} {p pos : Pos}, PE (cxOf NX P w K mg base nm32 "_law_draw" (defScope st32) a cdv A outer s H NE).nox e1 t1 → PE (cxOf NX P w K mg base nm32 "_law_draw" (defScope st32) a cdv A outer s H NE).nox e2 t2 → starB e1 = false → starB e2 = false → PE (cxOf NX P w K mg base nm32 "_law_draw" (defScope st32) a cdv A outer s H NE).nox (.Call (.Name "_law_mixed" p) [e1, e2] [] pos) (tCB spMixed (tCons t1 (tCons t2 tNil))) := fun {e1 e2 t1 t2 p pos} q1 q2 s1 s2 => pe_G GM room gu bM rfl gM FM.kp (by decide +kernel) (by rw [List.all_cons, List.all_cons, s1, s2]; rfl) (pa_cons q1 (pa_cons q2 pa_nil (star_cons s2)) (star_cons s1))
  have tail : PSs (cxOf NX P w K mg base nm32 "_law_draw" (defScope st32) a cdv A outer s H NE).nox ((defBody st32).drop 3) _ := pss_cons (ps_set (i := 3) sc32.nd rfl (.inl rfl) (pe_dget hu (pv 0) pe_str fun _ _ => rfl)) (pss_one (ps_ret (pe_op op_mod (pInt (PM (PM (pe_op op_add (pe_ix ix_list (pv 3) (pe_op op_mod (pInt (pv 2) rfl) pe_int) fun _ _ => rfl) (pe_op op_mul pe_int (pe_op op_fdiv (pv 2) pe_int))) (pv 2) rfl rfl) (pe_op op_add (pv 2) pe_int) rfl rfl) rfl) (pv 1))))
  refine of_pss (pss_cons (ps_if (pt_cmpR (op_neD hu64) (pe_dget hu (pv 0) pe_str fun _ _ => rfl) (pe_lst pa_nil) (nomark _)) (pss_cons (ps_set (i := 3) sc32.nd rfl (.inl rfl) (pe_dget hu (pv 0) pe_str fun _ _ => rfl)) (pss_cons (ps_set (i := 4) sc32.nd rfl (.inl rfl) (pe_op op_mod (pInt (pv 2) rfl) (pe_callB call_len rfl gl PySem.boot_len (pa_cons (pv 3) pa_nil)))) (pss_cons (ps_set (i := 5) sc32.nd rfl (.inl rfl) (pe_ix ix_list (pv 3) (pv 4) fun _ _ => rfl)) (pss_one (ps_if (pt_cmpR op_gt (pv 5) pe_int (nomark _)) (pss_cons (ps_asg (pe_op op_fdiv (pv 5) (pv 1)) (pg_sub (pv 3) (pv 4) set_list)) (pss_one (ps_ret (pe_op op_mod (pInt (pv 5) rfl) (pv 1))))) pss_nil))))) pss_nil) pss_w) ?_
  have hm1 : (upd H m (.dK (stOf m c l (k + 1)))) m = some (.dK (stOf m c l (k + 1))) := upd_same
  refine ⟨.ref m, rfl, m, .ref l, rfl, DGet.k (k := Sum.inr sGreat) hm1, by decide, fun p hp => ?_⟩
  have hlm : l ≠ m := Ne.symm h2
  have hcm : c ≠ m := Ne.symm h1
  have oth : ∀ (q : Addr) o, q ≠ m → H q = some o → upd (upd H m (.dK (stOf m c l (k + 1)))) p (.lst []) q = some o := fun q o hq e => by
    have hqp : q ≠ p := fun z => by
      subst z
      rw [upd_ne hq, e] at hp
      cases hp
    rw [upd_ne hqp, upd_ne hq]
    exact e
  have pm : m ≠ p := fun z => by
    subst z
    rw [upd_same] at hp
    cases hp
  have Hm : upd (upd H m (.dK (stOf m c l (k + 1)))) p (.lst []) m = some (.dK (stOf m c l (k + 1))) := by rw [upd_ne pm]; exact upd_same
  have Hc := oth c _ hcm D.hc
  have Hl := oth l _ hlm D.hl
  have Hpp : upd (upd H m (.dK (stOf m c l (k + 1)))) p (.lst []) p = some (.lst []) := upd_same
  generalize hH2 : upd (upd H m (.dK (stOf m c l (k + 1)))) p (.lst []) = H2 at oth Hm Hc Hl Hpp
  have at_ok : ∀ (xs : List Int) (i : Int), 0 ≤ i → i < xs.length → ∃ x, x ∈ xs ∧ atI (xs.map V.int) i = some (.int x) := fun xs i i0 i1 => by
    have hlt : i.toNat < xs.length := by omega
    refine ⟨xs[i.toNat], List.getElem_mem hlt, ?_⟩
    unfold atI ixN
    rw [List.length_map, if_pos i0, if_pos i1]
    show (xs.map V.int)[i.toNat]? = _
    rw [List.getElem?_map, List.getElem?_eq_getElem hlt]
    rfl
  have kk : ∀ j : Int, 0 < j → 0 ≤ k % j ∧ k % j < j := fun j hj => ⟨Int.emod_nonneg _ (by omega), Int.emod_lt_of_pos _ hj⟩
  -- the last two statements
  have tl : ∀ {σ : St} {H3 : Hp}, σ[0]? = some (some (.ref m)) → σ[1]? = some (some (.int lim)) → σ[2]? = some (some (.int k)) → 3 < σ.length → H3 m = some (.dK (stOf m c l (k + 1))) → H3 c = some (.lst (cs.map V.int)) → (∀ (z : Int), 0 ≤ z → z < lim → Q (.int z) H3) →
      tWSs (cxOf NX P w K mg base nm32 "_law_draw" (defScope st32) a cdv A outer s H NE).nox ((defBody st32).drop 3) { nx := fun _ H' => Q .non H', rt := Q } σ H3 := fun {σ H3} s0 s1 s2 sl q1 q2 q3 => by
    obtain ⟨x, hx, ex⟩ := at_ok cs (k % 64) (kk 64 (by decide)).1 (by rw [D.lc]; exact (kk 64 (by decide)).2)
    have s1' : (σ.set 3 (some (.ref c)))[1]? = some (some (.int lim)) := by rw [List.getElem?_set_ne (by decide)]; exact s1
    have s2' : (σ.set 3 (some (.ref c)))[2]? = some (some (.int k)) := by rw [List.getElem?_set_ne (by decide)]; exact s2
    have s3' : (σ.set 3 (some (.ref c)))[3]? = some (some (.ref c)) := List.getElem?_set_self sl
    have b1 : 0 ≤ k / 64 ∧ k / 64 < 2 ^ 40 := by
      have := D.k0
      have := D.k1
      omega
    have k0 := D.k0
    have k1 := D.k1
    refine of_pss tail ⟨.ref m, s0, m, .ref c, rfl, DGet.k (k := Sum.inr sCells) q1, ?_⟩
    refine ⟨.ref c, s3', .int k, s2', .inl ⟨k, rfl, k, 64, rfl, rfl, (by decide : (0 : Int) < 64), c, _, _, _, rfl, rfl, .inl (.inl q2), ex, ?_⟩⟩
    refine ⟨.int k, s2', k, 64, rfl, rfl, ⟨by decide, by decide⟩, 31, _, rfl, rfl, .inr ⟨by omega, by omega⟩, _, _, rfl, rfl, ?_⟩
    refine ⟨.int k, s2', _, k, rfl, k0, by omega, .int k, s2', k, 7, rfl, rfl, _, k + 7, rfl, by omega, by omega, ?_⟩
    refine .inl ⟨_, rfl, .int lim, s1', _, lim, rfl, rfl, l0, ?_⟩
    exact q3 _ (Int.emod_nonneg _ (by omega)) (Int.emod_lt_of_pos _ l0)
  -- the row of great cells is empty, or not
  have dpl : ∀ xs : List Int, H2 l = some (.lst (xs.map V.int)) → Dp K H2 (.ref l) (.list (xs.map PyData.int)) := fun xs hx => by
    have rv : RV K gx0 ⟨H2, none, fun _ => none⟩ (.lst (xs.map W.int)) (.ref l) := .lst hx (ints_rvs (f := ⟨K, gx0, H2, ⟨H2, none, fun _ => none⟩, [], false⟩) xs)
    refine RV.dp (f := ⟨K, gx0, H2, ⟨H2, none, fun _ => none⟩, [], false⟩) rv ?_
    show (toDs (xs.map W.int)).map PyData.list = _
    rw [toDs_ints xs]
    rfl
  have dpp : Dp K H2 (.ref p) (.list []) := RV.dp (f := ⟨K, gx0, H2, ⟨H2, none, fun _ => none⟩, [], false⟩) (g := ⟨H2, none, fun _ => none⟩) (w := .lst []) (.lst Hpp .nil) rfl
  refine ⟨_, _, dpl gs Hl, dpp, ?_, rfl, _, rfl, ?_⟩
  · exact shaped_ints gs
  · cases gs with
    | nil =>
      show (if (false : Bool) = true then _ else _)
      rw [if_neg (by decide)]
      exact tl rfl rfl rfl (show 3 < 6 by decide) Hm Hc fun z z0 z1 => hQ z [] H2 z0 z1 rfl (fun x hx => (List.not_mem_nil hx).elim) (fun q o n1 _ e => oth q o n1 e) Hm Hl
    | cons g0 gr =>
      show (if (true : Bool) = true then _ else _)
      rw [if_pos rfl]
      have gl0 : (0 : Int) < ((g0 :: gr).map V.int).length := by rw [List.length_map, List.length_cons]; omega
      obtain ⟨x, hx, ex⟩ := at_ok (g0 :: gr) (k % (((g0 :: gr).map V.int).length : Int)) (kk _ gl0).1 (by have := (kk _ gl0).2; rw [List.length_map] at this ⊢; exact this)
      refine ⟨.ref m, rfl, m, .ref l, rfl, DGet.k (k := Sum.inr sGreat) Hm, ?_⟩
      refine ⟨.int k, rfl, .inl ⟨k, rfl, .ref l, rfl, .ref l, _, rfl, .inl ⟨_, .inl (.inl Hl), rfl⟩, k, _, rfl, rfl, gl0, ?_⟩⟩
      refine ⟨.ref l, rfl, .int _, rfl, l, _, _, _, rfl, rfl, .inl (.inl Hl), ex, ?_⟩
      refine ⟨.int x, rfl, x, 0, rfl, rfl, _, rfl, ?_⟩
      dsimp only
      by_cases hx0 : 0 < x
      · rw [if_pos (decide_eq_true hx0)]
        have i0 := (kk _ gl0).1
        have i1 := (kk _ gl0).2
        have hj : ixN ((g0 :: gr).map V.int).length (k % (((g0 :: gr).map V.int).length : Int)) = some (k % (((g0 :: gr).map V.int).length : Int)).toNat := by
          unfold ixN
          rw [if_pos i0, if_pos i1]
        refine ⟨.int x, rfl, .int lim, rfl, x, lim, rfl, rfl, ⟨l0, l1⟩, .ref l, rfl, .int _, rfl, l, _, _, _, rfl, rfl, Hl, hj, .int x, rfl, .inl ⟨x, rfl, .int lim, rfl, x, lim, rfl, rfl, l0, ?_⟩⟩
        have ml : m ≠ l := h2
        refine hQ (x % lim) ((g0 :: gr).set (k % (((g0 :: gr).map V.int).length : Int)).toNat (x / lim)) _ (Int.emod_nonneg _ (by omega)) (Int.emod_lt_of_pos _ l0) List.length_set (fun y hy => ?_) (fun q o n1 n2 e => by rw [upd_ne n2]; exact oth q o n1 e) (by rw [upd_ne ml]; exact Hm) (by rw [upd_same, List.map_set])
        rcases List.mem_or_eq_of_mem_set hy with z | z
        · exact D.g0 y z
        · rw [z]
          exact Int.ediv_nonneg (by omega) (by omega)
      · rw [if_neg (by rw [decide_eq_false hx0]; decide)]
        exact tl rfl rfl rfl (show 3 < 6 by decide) Hm Hc fun z z0 z1 => hQ z (g0 :: gr) H2 z0 z1 rfl D.g0 (fun q o n1 _ e => oth q o n1 e) Hm Hl

/-- a number drawn, by the evaluator's state -/
theorem draws_ok (F : FnG0 P w K mg base 2 a fd ["_law_m", "_law_limit"] spDraw) (bd : Binds K fd ["_law_m", "_law_limit"] []) {G : Gx} {r0 : Nat} (hr : 2 ≤ r0) :
    ∀ X' f', Pl P w K mg base r0 X' → f'.K = K → f'.G = G → ∀ g b sl σ H v (n : Int) (Q : VK), Rl f' g (b + 1) sl σ H → RV f'.K f'.G g .orc v → 0 < n → n < 1073741824 →
      (∀ d, d < n.toNat → ∀ g' H', g.le g' → Rl f' g' b sl σ H' → Q (.int d) H') → CallW X' (.ref a) [v, .int n] H Q := by
  intro X' f' pl hK hG g b sl σ H v n Q R rv n0 n1 hQ
  obtain ⟨e1, e2, e3, e4, e5, _, room, gu⟩ := pl
  subst e1 e2 e3 e4 e5
  cases rv with
  | orc hD =>
    rename_i m c l
    obtain ⟨cs, gs, k, q1, q2, q3, q4, q5, q6, q7, q8⟩ := (R.orc _ hD).ex
    have q1 : H m = _ := q1
    have q2 : H c = _ := q2
    have q3 : H l = _ := q3
    have mc : m ≠ c := fun e => by rw [e, q2] at q1; cases q1
    have ml : m ≠ l := fun e => by rw [e, q3] at q1; cases q1
    have cl : c ≠ l := fun e => by
      rw [e, q3] at q2
      have q2 := congrArg (fun o => match o with | some (HO.lst xs) => xs.length | _ => 0) q2
      have q2 : (gs.map V.int).length = (cs.map V.int).length := q2
      rw [List.length_map, List.length_map] at q2
      omega
    have hB : (k : Int) < 2 ^ 40 := by
      have : k + (b + 1) ≤ 2 ^ 40 := q8
      omega
    refine F.call (room.mono hr) gu bd ⟨m, c, l, cs, gs, k, n, rfl, ⟨q1, q2, q3, q4, q6, q7, q5, by omega, hB⟩, mc, ml, cl, n0, n1, fun d gs' H' d0 d1 gl g0' oth hm hl => ?_⟩
    obtain ⟨dn, rfl⟩ := Int.eq_ofNat_of_zero_le d0
    refine hQ dn (by omega) g H' (Gh.le.refl g) ?_
    have nD : ∀ {x : Addr}, x ∉ dAdr g.D → x ≠ m ∧ x ≠ l := fun {x} hx => by
      rw [hD] at hx
      simp only [dAdr, List.mem_cons, List.not_mem_nil, or_false, not_or] at hx
      exact ⟨hx.1, hx.2.2⟩
    have keep : ∀ {x : Addr} {o : HO}, x ∉ dAdr g.D → H x = some o → H' x = some o := fun {x o} hx e => oth x o (nD hx).1 (nD hx).2 e
    exact { R with
      le0 := R.le0
      sub := fun x o e => by
        refine keep (fun z => ?_) (R.sub x o e)
        rw [R.dF x z] at e
        cases e
      kee := fun x o e1 e2 e3 => by
        have k := R.kee x o e1 e2 e3
        obtain ⟨o1, e⟩ := k.some
        rw [e] at k
        exact k.trans (.inl (keep e3 e))
      tab := fun p hp => by
        obtain ⟨ps, h1, h2, h3⟩ := R.tab p hp
        have nn : ∀ x o, H x = some o → (∀ es, o ≠ .dK es) → (∀ xs, o ≠ .lst xs) → H' x = some o := fun x o e a1 a2 => oth x o (fun z => by rw [z, q1] at e; exact a1 _ (Option.some.inj e).symm) (fun z => by rw [z, q3] at e; exact a2 _ (Option.some.inj e).symm) e
        refine ⟨ps, nn _ _ h1 (fun _ z => nomatch z) (fun _ z => nomatch z), h2, fun pos cv hc => ?_⟩
        obtain ⟨c', e1, e2⟩ := h3 pos cv hc
        exact ⟨c', e1, nn _ _ e2 (fun _ z => nomatch z) (fun _ z => nomatch z)⟩
      orc := fun dd hd => by
        rw [hD] at hd
        cases hd
        refine ⟨cs, gs', k + 1, ?_, oth c _ (Ne.symm mc) cl q2, hl, q4, q5, by omega, g0', by omega⟩
        show H' m = _
        rw [hm]
        rfl
      ioS := fun x hx => by
        obtain ⟨o, e⟩ := R.ioS x hx
        by_cases h1 : x = m
        · subst h1; exact ⟨_, hm⟩
        · by_cases h2 : x = l
          · subst h2; exact ⟨_, hl⟩
          · exact ⟨o, oth x o h1 h2 e⟩
      own := fun i u e => by
        obtain ⟨x, z1, z2, z3, z4, z5⟩ := R.own i u e
        exact ⟨x, z1, z2.le (Gh.le.refl g) fun o eo => keep z4 eo, z3, z4, z5⟩ }
end
/-! ### Fold -/
section
variable {P : Program} {w : World} {K : PySem.W.Frag} {mg : Str → Option Value} {base : Heap} {a : Addr} {fd : FuncData}
theorem sc31 : FnScope nm31 ["_law_script"] (defScope st31) := ⟨rfl, rfl, rfl, by decide +kernel, rfl, by decide +kernel, by decide +kernel⟩
def CellsOk (cs : List Int) : Prop := cs.length = 64 ∧ ∀ x ∈ cs, 0 ≤ x ∧ x < 2147483647
def spFolded (K : PySem.W.Frag) (vs : List V) (H : Hp) (Q : VK) : Prop := ∃ (p : Addr) (ns : List Int), vs = [.ref p] ∧ SqL K H p (ns.map V.int) ∧ ns.length ≤ 63 ∧
  ∀ (q : Addr) (cs : List Int) (H' : Hp), CellsOk cs → H q = none → Same H H' → H' q = some (.lst (cs.map V.int)) → Q (.ref q) H'
theorem at_int {xs : List Int} {i : Int} (i0 : 0 ≤ i) (i1 : i < xs.length) : ∃ x, x ∈ xs ∧ atI (xs.map V.int) i = some (.int x) ∧ ixN (xs.map V.int).length i = some i.toNat := by
  have hlt : i.toNat < xs.length := by omega
  refine ⟨xs[i.toNat], List.getElem_mem hlt, ?_, ?_⟩
  · unfold atI ixN
    rw [List.length_map, if_pos i0, if_pos i1]
    show (xs.map V.int)[i.toNat]? = _
    rw [List.getElem?_map, List.getElem?_eq_getElem hlt]
    rfl
  · unfold ixN
    rw [List.length_map, if_pos i0, if_pos i1]
theorem CellsOk.set {cs : List Int} {j : Nat} {x : Int} (h : CellsOk cs) (h0 : 0 ≤ x ∧ x < 2147483647) : CellsOk (cs.set j x) := ⟨by rw [List.length_set]; exact h.1, fun y hy => by
  rcases List.mem_or_eq_of_mem_set hy with z | z
  · exact h.2 y z
  · rw [z]; exact h0⟩
theorem ok_folded (F : FunD K "_law_folded" "_law_folded" (defArgs st31) (defBody st31) (defScope st31) [] [] a fd) (gi : mg "int" = none) (gr : mg "range" = none) (ge : mg "enumerate" = none) : FnG0 P w K mg base 1 a fd ["_law_script"] (spFolded K) := by
  refine FnG0.of F sc31 (fun vs H Q ⟨p, ns, e, _⟩ => by rw [e]; rfl) fun cdv A outer s H vs Q room gu ⟨p, ns, ev, sq, nl, hQ⟩ => ?_
  subst ev
  have pInt : ∀ {e : Expr} {te : TE} {p pos : Pos}, PE (cxOf NX P w K mg base nm31 "_law_folded" (defScope st31) a cdv A outer s H NE).nox e te → starB e = false → PE (cxOf NX P w K mg base nm31 "_law_folded" (defScope st31) a cdv A outer s H NE).nox (.Call (.Name "int" p) [e] [] pos) _ := fun {e te p pos} h hs => pe_callTy call_int1 rfl gi PyProof.Rows.boot_int (pa_cons h pa_nil (star_cons hs)) (by decide +kernel) (by decide +kernel) (star_cons hs) rfl
  have first : PS (cxOf NX P w K mg base nm31 "_law_folded" (defScope st31) a cdv A outer s H NE).nox ((defBody st31).getD 0 (.Pass ⟨0, 0, 0, 0⟩)) _ :=
    ps_setLc (i := 1) rfl sc31.nd rfl rfl (sw_true rfl rfl rfl rfl) (pi_range1 rfl gr (pa_cons pe_int pa_nil)) (own := [("_law_n", 2)]) (blkOk_by (by kernel_rfl)) (fun s H C l fp => pg_name (i := 2) sc31.nd rfl (.inl rfl)) (fun s H C l fp => pts_nil) (fun s H C l fp => pe_op op_add pe_int (pe_var (i := 2) rfl (.inl rfl))) (fun _ => rfl)
  refine of_pss (pss_cons first (pss_cons (ps_for PassesOwn.never rfl (pi_enum rfl ge (pa_cons (pv 0) pa_nil)) (pg_tup rfl (pgs_cons (pg_name (i := 2) sc31.nd rfl (.inl rfl)) (pgs_cons (pg_name (i := 3) sc31.nd rfl (.inl rfl)) pgs_nil)))
    (pss_one (ps_asg (pe_op op_mod (pInt (pe_op op_add (pe_op op_mul (pe_ix ix_list (pv 1) (pe_op op_mod (pInt (pv 2) rfl) pe_int) fun _ _ => rfl) pe_int) (pv 3)) rfl) pe_int) (pg_sub (pv 1) (pe_op op_mod (pInt (pv 2) rfl) pe_int) set_list))))
    (pss_cons (ps_for PassesOwn.never rfl (pi_range2 rfl gr (pa_cons pe_int (pa_cons pe_int pa_nil))) (pg_name (i := 2) sc31.nd rfl (.inl rfl))
      (pss_one (ps_asg (pe_op op_mod (pInt (pe_op op_add (pe_ix ix_list (pv 1) (pv 2) fun _ _ => rfl) (pe_op op_mul (pe_ix ix_list (pv 1) (pe_op op_sub (pv 2) pe_int) fun _ _ => rfl) pe_int)) rfl) pe_int) (pg_sub (pv 1) (pv 2) set_list))))
      (pss_one (ps_ret (pv 1)))))) ?_
  refine ⟨64, rfl, by decide, by decide, fun q hq => lc_range (fun i H' => ∃ cs : List Int, cs.length = i ∧ (∀ x ∈ cs, 0 ≤ x ∧ x < 2147483647) ∧ H' = upd H q (.lst (cs.map V.int))) ⟨[], rfl, fun _ h => (List.not_mem_nil h).elim, rfl⟩ (fun i H' hi ⟨cs, e1, e2, e3⟩ => ?_) fun H' ⟨cs, e1, e2, e3⟩ => ?_⟩
  · subst e3
    have hi : i < 64 := hi
    refine ⟨?_, ?_⟩
    · rfl
    · unfold tYes
      dsimp only
      rw [if_pos rfl]
      refine ⟨.int (0 + i), rfl, 17, 0 + i, rfl, rfl, _, upd_same, by rw [List.length_map, e1]; exact Nat.lt_trans hi (by decide), cs ++ [17 + (0 + (i : Int))], by rw [List.length_append, e1]; rfl, fun x hx => ?_, ?_⟩
      · rcases List.mem_append.mp hx with z | z
        · exact e2 x z
        · rw [List.mem_singleton.mp z]
          omega
      · rw [upd_upd, List.map_append]
        rfl
  · subst e3
    have hpq : p ≠ q ∨ True := .inr trivial
    have sq1 : ∀ {H' : Hp}, Same H H' → SqL K H' p (ns.map V.int) := fun e => SqL.le e sq
    have nC : ∀ {x : Int}, 0 ≤ x % 2147483647 ∧ x % 2147483647 < 2147483647 := fun {x} => ⟨Int.emod_nonneg _ (by decide), Int.emod_lt_of_pos _ (by decide)⟩
    refine ⟨.ref p, rfl, p, ns.map V.int, rfl, sq1 (same_upd hq), ?_⟩
    refine ⟨fun i m σ H' => m = ns.length - i ∧ i ≤ ns.length ∧ σ.length = 4 ∧ σ[0]? = some (some (.ref p)) ∧ σ[1]? = some (some (.ref q)) ∧ Same H H' ∧ ∃ cs, CellsOk cs ∧ H' q = some (.lst (cs.map V.int)), ⟨ns.length, rfl, Nat.zero_le _, rfl, rfl, rfl, same_upd hq, cs, ⟨e1, e2⟩, upd_same⟩, ?_⟩
    rintro i mm σ H' ⟨rfl, hi, sl, s0, s1, sm, cs, co, hcs⟩
    have oq : ∀ {H'' : Hp} {xs : List V}, Same H H'' → Same H (upd H'' q (.lst xs)) := fun {H'' xs} e c o ec => by
      have hcq : c ≠ q := fun z => by rw [z, hq] at ec; cases ec
      rw [upd_ne hcq]
      exact e c o ec
    by_cases hlt : i < ns.length
    · right
      have hn : (ns.map V.int)[i]? = some (.int ns[i]) := by rw [List.getElem?_map, List.getElem?_eq_getElem hlt]; rfl
      refine ⟨⟨_, _, sq1 sm, hn⟩, fun σ' H'' => i + 1 ≤ ns.length ∧ σ'.length = 4 ∧ σ'[0]? = some (some (.ref p)) ∧ σ'[1]? = some (some (.ref q)) ∧ Same H H'' ∧ ∃ cs, CellsOk cs ∧ H'' q = some (.lst (cs.map V.int)), fun σ' H'' z => ⟨ns.length - (i + 1), by omega, rfl, z⟩, fun x H3 ⟨t, y, ex, ht, eH, hy⟩ => ?_⟩
      have hy := hy _ (sq1 sm)
      rw [hn] at hy
      cases hy
      subst ex eH
      have sm3 : Same H (upd H' t (.tup [.int (i : Nat), .int ns[i]])) := fun c o ec => same_upd ht c o (sm c o ec)
      have hq3 : upd H' t (.tup [.int (i : Nat), .int ns[i]]) q = some (.lst (cs.map V.int)) := same_upd ht q _ hcs
      have ht3 : upd H' t (.tup [.int (i : Nat), .int ns[i]]) t = some (.tup [.int (i : Nat), .int ns[i]]) := upd_same
      generalize upd H' t (.tup [.int (i : Nat), .int ns[i]]) = H3 at sm3 hq3 ht3 ⊢
      obtain ⟨x0, x1, x2, x3, rfl⟩ : ∃ x0 x1 x2 x3, σ = [x0, x1, x2, x3] := by
        match σ, sl with
        | [x0, x1, x2, x3], _ => exact ⟨x0, x1, x2, x3, rfl⟩
      have w0 : x0 = some (.ref p) := Option.some.inj s0
      have w1 : x1 = some (.ref q) := Option.some.inj s1
      subst w0 w1
      have j0 : 0 ≤ ((i : Nat) : Int) % 64 := Int.emod_nonneg _ (by decide)
      have j1 : ((i : Nat) : Int) % 64 < cs.length := by
        rw [co.1]
        exact Int.emod_lt_of_pos _ (by decide)
      obtain ⟨z, hz, ez, jz⟩ := at_int j0 j1
      refine ⟨t, _, rfl, .inl (.inl ht3), rfl, _, _, rfl, _, _, rfl, rfl, ?_⟩
      refine ⟨.ref q, rfl, .int i, rfl, .inl ⟨_, rfl, _, 64, rfl, rfl, (by decide : (0 : Int) < 64), q, _, _, _, rfl, rfl, .inl (.inl hq3), ez, z, 48271, rfl, rfl, .inr ⟨by decide, by decide⟩, ?_⟩⟩
      refine ⟨.int ns[i], rfl, _, _, rfl, rfl, .inl ⟨_, rfl, _, 2147483647, rfl, rfl, (by decide : (0 : Int) < 2147483647), ?_⟩⟩
      refine ⟨.ref q, rfl, .int i, rfl, .inl ⟨_, rfl, _, 64, rfl, rfl, (by decide : (0 : Int) < 64), q, _, _, _, rfl, rfl, hq3, jz, ?_⟩⟩
      exact ⟨hlt, rfl, rfl, rfl, oq sm3, _, co.set nC, by rw [upd_same, List.map_set]⟩
    · left
      have ei : i = ns.length := by omega
      refine ⟨⟨_, sq1 sm, by rw [List.length_map]; omega⟩, ?_⟩
      -- the second round
      obtain ⟨x0, x1, x2, x3, rfl⟩ : ∃ x0 x1 x2 x3, σ = [x0, x1, x2, x3] := by
        match σ, sl with
        | [x0, x1, x2, x3], _ => exact ⟨x0, x1, x2, x3, rfl⟩
      have w1 : x1 = some (.ref q) := Option.some.inj s1
      subst w1
      refine ⟨1, 64, rfl, ⟨by decide, by decide, by decide, by decide⟩, for_range (fun j σ H' => ∃ a b c, σ = [a, some (.ref q), b, c] ∧ Same H H' ∧ ∃ cs, CellsOk cs ∧ H' q = some (.lst (cs.map V.int))) ⟨_, _, _, rfl, sm, cs, co, hcs⟩ (fun j σ H'' hj ⟨a1, b1, c1, es, sm, cs, co, hcs⟩ => ?_) fun σ H'' ⟨a1, b1, c1, es, sm, cs, co, hcs⟩ => ?_⟩
      · subst es
        have hj : j < 63 := hj
        have i0 : (0 : Int) ≤ 1 + (j : Int) := by omega
        have i1 : 1 + (j : Int) < cs.length := by rw [co.1]; omega
        have k0 : (0 : Int) ≤ 1 + (j : Int) - 1 := by omega
        have k1 : 1 + (j : Int) - 1 < cs.length := by rw [co.1]; omega
        obtain ⟨z, hz, ez, jz⟩ := at_int i0 i1
        obtain ⟨y, hy, ey, _⟩ := at_int k0 k1
        refine ⟨.ref q, rfl, .int _, rfl, q, _, _, _, rfl, rfl, .inl (.inl hcs), ez, ?_⟩
        refine ⟨.ref q, rfl, .int _, rfl, _, 1, rfl, rfl, q, _, _, _, rfl, rfl, .inl (.inl hcs), ey, y, 16807, rfl, rfl, .inr ⟨by decide, by decide⟩, z, _, rfl, rfl, ?_⟩
        refine .inl ⟨_, rfl, _, 2147483647, rfl, rfl, (by decide : (0 : Int) < 2147483647), ?_⟩
        refine ⟨.ref q, rfl, .int _, rfl, q, _, _, _, rfl, rfl, hcs, jz, ?_⟩
        exact ⟨_, _, _, rfl, oq sm, _, co.set nC, by rw [upd_same, List.map_set]⟩
      · subst es
        exact ⟨.ref q, rfl, hQ q cs H'' co hq sm hcs⟩
end
/-! ### Beg -/
section
variable {P : Program} {w : World} {K : PySem.W.Frag} {mg : Str → Option Value} {base : Heap} {a aF : Addr} {fd fdF : FuncData}
theorem sc33 : FnScope nm33 ["_law_script"] (defScope st33) := ⟨rfl, rfl, rfl, by decide +kernel, rfl, by decide +kernel, by decide +kernel⟩
def spBegun (K : PySem.W.Frag) (vs : List V) (H : Hp) (Q : VK) : Prop := ∃ (p : Addr) (ns : List Int), vs = [.ref p] ∧ SqL K H p (ns.map V.int) ∧ ns.length ≤ 63 ∧
  ∀ (d : Addr × Addr × Addr) (H' : Hp), Same H H' → (∀ c ∈ dAdr (some d), H c = none) → OrcAt BIG d H' → Q (.ref d.1) H'
theorem ok_begun (F : FunD K "_law_begun" "_law_begun" (defArgs st33) (defBody st33) (defScope st33) [] [] a fd) (FF : FunD K "_law_folded" "_law_folded" (defArgs st31) (defBody st31) (defScope st31) [] [] aF fdF) (gi : mg "int" = none) (gr : mg "range" = none) (ge : mg "enumerate" = none) (gF : mg "_law_folded" = some (.ref aF)) : FnG0 P w K mg base 2 a fd ["_law_script"] (spBegun K) := by
  have GF : FnG0 P w K mg base 1 aF fdF ["_law_script"] (spFolded K) := ok_folded FF gi gr ge
  have bF : Binds K fdF ["_law_script"] [] := FF.bindsN fun _ _ _ _ _ _ us hl => match us, hl with | [_], _ => rfl
  refine FnG0.of F sc33 (fun vs H Q ⟨p, ns, e, _⟩ => by rw [e]; rfl) fun cdv A outer s H vs Q room gu ⟨p, ns, ev, sq, nl, hQ⟩ => ?_
  subst ev
  have hu : (cxOf NX P w K mg base nm33 "_law_begun" (defScope st33) a cdv A outer s H NE).nox.A.units + 1 < cLine := by
    have := room.un
    show (A.deeper _).units + 1 < cLine
    omega
  have PF : ∀ {e1 : Expr} {t1 : TE} {p pos : Pos}, PE (cxOf NX P w K mg base nm33 "_law_begun" (defScope st33) a cdv A outer s H NE).nox e1 t1 → starB e1 = false → PE (cxOf NX P w K mg base nm33 "_law_begun" (defScope st33) a cdv A outer s H NE).nox (.Call (.Name "_law_folded" p) [e1] [] pos) (tCB (spFolded K) (tCons t1 tNil)) := fun {e1 t1 p pos} q1 s1 => pe_G GF room gu bF rfl gF FF.kp (by decide +kernel) (by rw [List.all_cons, s1]; rfl) (pa_cons q1 pa_nil (star_cons s1))
  refine of_pss (pss_cons (ps_set (i := 1) sc33.nd rfl (.inl rfl) (pe_disp (pps_cons pe_str (PF (pv 0) rfl) (pps_cons pe_str (pe_lst pa_nil) (pps_cons pe_str pe_int pps_nil))) rfl rfl (by simp) (by decide)) rfl) (pss_cons (ps_dput hu (pv 1) pe_str (pe_lc rfl sc33.nd (pi_list (pv 0)) (own := [("_law_cell", 2)]) (blkOk_by (by kernel_rfl)) (fun s H C l fp => pg_name (i := 2) sc33.nd rfl (.inl rfl)) (fun s H C l fp => pts_nil) (fun s H C l fp => pe_ifExp (pt_cmpR op_ge (pe_var (i := 2) rfl (.inl rfl)) (pe_op op_pow pe_int pe_int) (nomark _)) (pe_var (i := 2) rfl (.inl rfl)) pe_int) (fun _ => rfl)) rfl) (pss_one (ps_ret (pv 1))))) ?_
  intro m hm
  refine ⟨.ref p, rfl, p, ns, rfl, SqL.le (same_upd hm) sq, nl, fun c cs H1 co hc sm hcs => ?_⟩
  refine ⟨by decide, fun e he => ?_⟩
  have Hm : upd H1 e (.lst []) m = some (.dK []) := same_upd he m _ (sm m _ upd_same)
  refine ⟨Hm, [(Sum.inr sCells, .ref c), (Sum.inr sGreat, .ref e), (Sum.inr sSpot, .int 0)], rfl, (show 3 ≤ 15 by decide), ?_⟩
  have emg : mergeK [] [(Sum.inr sCells, .ref c), (Sum.inr sGreat, .ref e), (Sum.inr sSpot, .int 0)] = stOf m c e 0 := rfl
  rw [emg]
  have cm : c ≠ m := fun z => by rw [z, upd_same] at hc; cases hc
  have hc0 : H c = none := by rwa [upd_ne cm] at hc
  have sm0 : Same H (upd (upd H1 e (.lst [])) m (.dK (stOf m c e 0))) := fun x o ex => by
    have xm : x ≠ m := fun z => by rw [z, hm] at ex; cases ex
    rw [upd_ne xm]
    exact same_upd he x o (sm x o (by rw [upd_ne xm]; exact ex))
  have hm3 : upd (upd H1 e (.lst [])) m (.dK (stOf m c e 0)) m = some (.dK (stOf m c e 0)) := upd_same
  have hc3 : upd (upd H1 e (.lst [])) m (.dK (stOf m c e 0)) c = some (.lst (cs.map V.int)) := by
    rw [upd_ne cm]
    exact same_upd he c _ hcs
  generalize upd (upd H1 e (.lst [])) m (.dK (stOf m c e 0)) = H3 at sm0 hm3 hc3 ⊢
  refine ⟨.ref p, rfl, p, rfl, ⟨_, SqL.le sm0 sq⟩, fun q hq => lc_list (xs := ns.map V.int) (fun i H' => ∃ gs : List Int, gs.length = i ∧ (∀ x ∈ gs, 0 ≤ x) ∧ H' = upd H3 q (.lst (gs.map V.int))) ⟨[], rfl, fun _ h => (List.not_mem_nil h).elim, rfl⟩ (fun i H' _ ⟨gs, _, _, eH⟩ => ?_) (fun i x H' hx ⟨gs, e1, e2, eH⟩ => ?_) fun H' ⟨gs, e1, e2, eH⟩ => ?_⟩
  · subst eH
    exact SqL.le (same_upd hq) (SqL.le sm0 sq)
  · subst eH
    have hil : i < 63 + 1 := by
      have := (List.getElem?_eq_some_iff.mp hx).1
      rw [List.length_map] at this
      omega
    rw [List.getElem?_map] at hx
    cases hn : ns[i]? with
    | none => rw [hn] at hx; cases hx
    | some n =>
      rw [hn] at hx
      have hx : V.int n = x := Option.some.inj hx
      subst hx
      refine ⟨rfl, ?_⟩
      unfold tYes
      dsimp only
      rw [if_pos rfl]
      have fin : ∀ y : Int, 0 ≤ y → ∃ acc, upd H3 q (.lst (gs.map V.int)) q = some (.lst acc) ∧ acc.length < sizeLine ∧ ∃ gs' : List Int, gs'.length = i + 1 ∧ (∀ x ∈ gs', (0 : Int) ≤ x) ∧ upd (upd H3 q (.lst (gs.map V.int))) q (.lst (acc ++ [.int y])) = upd H3 q (.lst (gs'.map V.int)) := fun y y0 => by
        refine ⟨_, upd_same, by rw [List.length_map, e1]; exact Nat.lt_trans hil (by decide), gs ++ [y], by rw [List.length_append, e1]; rfl, fun z hz => ?_, by rw [upd_upd, List.map_append]; rfl⟩
        rcases List.mem_append.mp hz with k | k
        · exact e2 z k
        · rw [List.mem_singleton.mp k]; exact y0
      refine ⟨.int n, rfl, 10, 18, rfl, rfl, ⟨by decide, by decide, by decide⟩, n, _, rfl, rfl, _, rfl, ?_⟩
      dsimp only
      by_cases hg : (10 : Int) ^ (18 : Int).toNat ≤ n
      · rw [if_pos (decide_eq_true hg)]
        refine ⟨.int n, rfl, fin n (Int.le_trans (by decide) hg)⟩
      · rw [if_neg (by rw [decide_eq_false hg]; decide)]
        exact fin 0 (by decide)
  · subst eH
    have qm : m ≠ q := fun z => by rw [← z, hm3] at hq; cases hq
    have qc : c ≠ q := fun z => by rw [← z, hc3] at hq; cases hq
    have hl : gs.length ≤ 63 := by rw [e1, List.length_map]; exact nl
    refine ⟨.ref m, rfl, m, _, rfl, DPut.k (k := Sum.inr sGreat) (same_upd hq m _ hm3) (show 3 < sizeLine by decide), ?_⟩
    have eput : L2.putK (stOf m c e 0) (Sum.inr sGreat) (.ref q) = stOf m c q 0 := rfl
    rw [eput]
    refine ⟨.ref m, rfl, hQ (m, c, q) _ (fun x o ex => ?_) (fun x hx => ?_) ⟨cs, gs, 0, upd_same, ?_, ?_, co.1, co.2, hl, e2, by omega⟩⟩
    · have xm : x ≠ m := fun z => by rw [z, hm] at ex; cases ex
      rw [upd_ne xm]
      exact same_upd hq x o (sm0 x o ex)
    · simp only [dAdr, List.mem_cons, List.not_mem_nil, or_false] at hx
      rcases hx with z | z | z
      · rw [z]; exact hm
      · rw [z]; exact hc0
      · rw [z]
        cases hh : H q with
        | none => rfl
        | some o => rw [sm0 q o hh] at hq; cases hq
    · show upd _ m _ c = _
      rw [upd_ne cm]
      exact same_upd hq c _ hc3
    · show upd _ m _ q = _
      rw [upd_ne (Ne.symm qm)]
      exact upd_same
theorem begins_ok (F : FnG0 P w K mg base 2 a fd ["_law_script"] (spBegun K)) (bd : Binds K fd ["_law_script"] []) (hm : mg "_law_begun" = some (.ref a)) (hk : PySem.W.keepIn K (.ref a) = true) {r0 : Nat} (hr : 2 ≤ r0) : Begins P w K mg base r0 := by
  refine ⟨a, hm, hk, fun X pl H p ns Q sq hl hQ => ?_⟩
  obtain ⟨e1, e2, e3, e4, e5, _, room, gu⟩ := pl
  subst e1 e2 e3 e4 e5
  exact F.call (room.mono hr) gu bd ⟨p, ns, rfl, sq, hl, hQ⟩
end
theorem cn_ok (k : Nat) (x : Str) (w : W) (e : csL[k]? = some (x, w)) : cn k = w := by
  unfold cn
  rw [nth_eq, e]
section
variable {w : World} {K : PySem.W.Frag} {h : Heap} {mg : Str → Option Value}
abbrev SaysO (w : World) (h : Heap) (K : PySem.W.Frag) : Prop := Says RR.prog fnmL ersL rows csL tsL w h K
abbrev GO (K : PySem.W.Frag) : Gx := gaOf fnmL cnmL ersL fks rows K
variable {base : Heap}
theorem mgAt (X : K.In base) (G : base.Ns mainGlobals mg) (c : SaysO w h K) (x : Str) (hx : decide (x ∈ allBi) = true) : mg x = none := bi_at X G c x (of_decide_eq_true hx)
theorem world (X : K.In base) (G : base.Ns mainGlobals mg) (c : SaysO w h K) (hT : ∀ p ∈ csOf rows K, LamX.TabB base mg p.1 p.2) : Wd RR.prog w K mg base tb fks cn (GO K) 2 := by
  obtain ⟨fM, FM⟩ := def_at c (j := 30) (r := rw30) rfl
  obtain ⟨fD, FD⟩ := def_at c (j := 32) (r := rw32) rfl
  have gM := glo_at X G c (j := 30) (x := "_law_mixed") rfl
  have gD := glo_at X G c (j := 32) (x := "_law_draw") rfl
  have GD := ok_draw (P := RR.prog) (w := w) (base := base) (mg := mg) FD FM (mgAt X G c "int" (by decide +kernel)) (mgAt X G c "len" (by decide +kernel)) gM
  exact {
    bi := bi_at X G c
    con := con_at (cnm := cnmL) X G c rfl cn_ok
    defs := defs_at X G c (by decide +kernel) rows_ok qu_ok hT
    gfn := gfn_at
    ers := fun d hd he X' pl => ers_at X G c (Nat.le_refl _) d hd he pl
    ero := fun d hd X' pl => ero_at X G c (Nat.le_refl _) d hd pl
    xib := xib_at c
    xf := xf_at c
    xis := xis_at X G c
    smd := smd_at c
    hdl := hdl_at X G c (by decide +kernel)
    lmk := lmk_at
    lms := fun k m hm => hm
    drw := ⟨_, gD, FD.kp, draws_ok GD (FD.bindsN fun _ _ _ _ _ _ us hl => match us, hl with | [_, _], _ => rfl) (Nat.le_refl _)⟩ }
theorem begun (X : K.In base) (G : base.Ns mainGlobals mg) (c : SaysO w h K) : Begins RR.prog w K mg base 2 := by
  obtain ⟨fF, FF⟩ := def_at c (j := 31) (r := rw31) rfl
  obtain ⟨fB, FB⟩ := def_at c (j := 33) (r := rw33) rfl
  have gF := glo_at X G c (j := 31) (x := "_law_folded") rfl
  have gB := glo_at X G c (j := 33) (x := "_law_begun") rfl
  have GB := ok_begun (P := RR.prog) (w := w) (base := base) (mg := mg) FB FF (mgAt X G c "int" (by decide +kernel)) (mgAt X G c "range" (by decide +kernel)) (mgAt X G c "enumerate" (by decide +kernel)) gF
  exact begins_ok GB (FB.bindsN fun _ _ _ _ _ _ us hl => match us, hl with | [_], _ => rfl) gB FB.kp (Nat.le_refl _)
end
def fuel : Nat := 120
theorem body_eq : defBody st43 = (defBody st43).take lwAt ++ (defBody st43).getD lwAt (.Pass ⟨0, 0, 0, 0⟩) :: (defBody st43).drop (lwAt + 1) := by rfl
theorem scL : FnScope nm43 ["_law_script"] (defScope st43) := scopeB_ok (by decide +kernel)
theorem ck1 : chkSs (tb.at_ false) nm43 (defScope st43) [] false lw.pre ((defBody st43).take lwAt) = true := by decide +kernel
theorem ck2 : begB nm43 (defScope st43) lw.i ((defBody st43).getD lwAt (.Pass ⟨0, 0, 0, 0⟩)) = true := by decide +kernel
theorem ck3 : chkSs (tb.at_ false) nm43 (defScope st43) [] false lw.post ((defBody st43).drop (lwAt + 1)) = true := by decide +kernel
open PySem.W in
set_option maxHeartbeats 0 in
/-- the law, from what the evaluator says -/
theorem holds_of (hl : ∀ c, c ≤ 63 → (lawN fks cn lw fuel c).wb T.noX BIG (fun r _ => r = (.bl true, false))) : PySem.Challenge.rw_openverbs_k00_errors_of_all_parts.Holds := by
  w_on; o_law
  refine HandSHeadRun.head_any (r := OpenLaw.row PySem.Challenge.rw_openverbs_k00_errors_of_all_parts) (q := view (OpenLaw.row PySem.Challenge.rw_openverbs_k00_errors_of_all_parts).prog [82]) (H := hk) (ob := ob) (M := 30000) (loose := looseAll) (d := HandSHeadRun.topDef (OpenLaw.row PySem.Challenge.rw_openverbs_k00_errors_of_all_parts).prog 82) (kwd := []) ob_eq
    (by kernel_rfl) (fun s => by kernel_rfl) runTop (by kernel_rfl) (by kernel_rfl) (by kernel_rfl) (by rfl) (by first | assumption | decide +kernel) (by decide +kernel) ⟨rfl, rfl, rfl, rfl, rfl, by decide +kernel⟩ ?hw ?hc
  case hw => w_witness2
  case hc =>
    refine walkG (l := PySem.Challenge.rw_openverbs_k00_errors_of_all_parts) (n := 63) (k := fuel + 2 + 1) (x := "_law_script") rfl (by decide) (by kernel_rfl) ⟨rfl, by decide, by decide⟩ ?F
    intro w mg fa h Y G hmg0
    obtain ⟨K, KX, c⟩ := Y
    have hmg : mg ("law" : PySem.Str) = some (.ref fa) := by
      have e : (HandSHeadRun.topDef (OpenLaw.row PySem.Challenge.rw_openverbs_k00_errors_of_all_parts).prog 82).name = ("law" : PySem.Str) := by kernel_rfl
      rw [← e]
      exact hmg0
    obtain ⟨fd, F⟩ := def_at c (j := 43) (r := rw43) rfl
    have e := hmg.symm.trans (glo_at KX G c (j := 43) (x := "law") rfl)
    cases e
    have F' : FunD K "law" "law" (defArgs st43) (defBody st43) (defScope st43) [] [] (He.ga K "law") fd := F
    have b := FunD.bindsA (ps := ["_law_script"]) F' fun _ _ _ _ _ _ us hl => match us, hl with | [_], _ => rfl
    rw [body_eq] at F'
    refine ⟨K, fd, fun vs H Q _ => ∃ (p : Addr) (ns : List Int), vs = [.ref p] ∧ ns.length ≤ 63 ∧ SqL K H p (ns.map V.int) ∧ LamX.Tabs (GO K).tabs H ∧ ∀ H', Q (.bl true) H', csOf rows K, KX, (cs_says KX c).1, (cs_says KX c).2.1, (cs_says KX c).2.2, fun s v => b s [v] rfl, fun H a ns hn _ hT hS => ⟨a, ns, rfl, hn, hS, tabs_says c hT, fun _ => rfl⟩, fun base hK hN hT => ?_⟩
    exact law_ok (hb := false) (world hK hN c hT) (begun hK hN c) F' scL rfl ck1 ck2 ck3 (fun h => by cases h) hl
end Ov
end
end
end
section
set_option Elab.async false
set_option linter.all false
set_option maxRecDepth 100000
set_option maxHeartbeats 1000000
noncomputable section
namespace Ov
open PySem L2 Ev
set_option autoImplicit false

/-! ### evaluation by rewriting -/
theorem nth0 {α : Type} (x : α) (xs : List α) : nth (x :: xs) 0 = some x := rfl
theorem nthS {α : Type} (x : α) (xs : List α) (n : Nat) : nth (x :: xs) (n + 1) = nth xs n := rfl
theorem sett0 {α : Type} (x y : α) (xs : List α) : sett (x :: xs) 0 y = y :: xs := rfl
theorem settS {α : Type} (x y : α) (xs : List α) (n : Nat) : sett (x :: xs) (n + 1) y = x :: sett xs n y := rfl
theorem rd0 (r : R) (sl : Sl) : rd (some r :: sl) 0 = .ok r := rfl
theorem rdS (o : Option R) (sl : Sl) (n : Nat) : rd (o :: sl) (n + 1) = rd sl n := rfl
theorem hget_val (sl : Sl) (w : W) : Hd.get sl (.val w) = .ok w := rfl
theorem hget_slot (sl : Sl) (i : Nat) : Hd.get sl (.slot i) = (rd sl i).bind fun r => .ok r.1 := rfl
theorem setG_nm (i : Nat) (w : W) (fr : Bool) (sl : Sl) : setG (.nm i) w fr sl = .ok (sett sl i (some (w, fr))) := by rw [setG]
theorem setG_tp (ts : List Tg) (ws : List W) (fr : Bool) (sl : Sl) : setG (.tp ts) (.tup ws) fr sl = setGs ts ws sl := by rw [setG]
theorem setGs_nil (sl : Sl) : setGs [] [] sl = .ok sl := by rw [setGs]
theorem setGs_cons (t : Tg) (ts : List Tg) (w : W) (ws : List W) (sl : Sl) : setGs (t :: ts) (w :: ws) sl = (setG t w false sl).bind fun sl => setGs ts ws sl := by rw [setGs]
theorem two_ii (i j : Int) (f : Int → Int → T R) : two (.int i) (.int j) f = f i j := rfl
theorem bopsI (i j : Int) : addW (.int i) (.int j) = fz (.int (i + j)) := rfl
theorem guard_tt {α : Type} (t : T α) : T.guard true t = t := rfl
theorem guard_t {α : Type} {b : Bool} {t : T α} (h : b = true) : T.guard b t = t := by rw [h]; rfl
theorem guard_sz {α : Type} {n : Nat} {t : T α} (h : n ≤ 100000) : T.guard (Nat.ble n sizeLine) t = t := guard_t (Nat.ble_eq_true_of_le (Nat.le_trans h (by decide)))
theorem guard_lt {α : Type} {n : Nat} {t : T α} (h : n ≤ 100000) : T.guard (Nat.blt n sizeLine) t = t := guard_t (Nat.ble_eq_true_of_le (show n + 1 ≤ sizeLine from Nat.le_trans (Nat.succ_le_succ h) (by decide)))
theorem appL (xs : List W) (v : W) : appW (.lst xs) v = T.guard (Nat.blt xs.length sizeLine) (.ok (.lst (xs ++ [v]))) := rfl
theorem eqW_ii (i j : Int) : eqW (.int i) (.int j) = .ok (eqI i j) := rfl
theorem seqAt_nat {xs : List W} {k : Nat} {w : W} (h : xs[k]? = some w) : seqAt xs (k : Int) = .ok w := by
  have hk : k < xs.length := (List.getElem?_eq_some_iff.mp h).1
  unfold seqAt ixOf
  rw [if_pos (by omega), if_pos (by omega)]
  show T.ofOpt (nth xs (k : Int).toNat) = _
  rw [Int.toNat_natCast, nth_eq, h]
  rfl
theorem callN_code {n j : Nat} {args : List R} {f : Fn} (h : nth fks j = some (.code f)) (h2 : (flB f.io args && Nat.beq args.length f.np) = true) (h3 : f.hk = false := by rfl) :
    callN fks cn (n + 1) j args = (exSs (callN fks cn n) (ioOf fks) cn f.body (args.map some ++ List.replicate (f.ns - f.np) none)).bind (fin f.io) := by
  rw [callN, h]
  show T.guard _ _ = _
  rw [h2, h3]
  rfl
theorem callN_hk {n j : Nat} {args : List R} {f : Fn} (h : nth fks j = some (.code f)) (h2 : (flB f.io args && Nat.beq args.length f.np) = true) (h3 : f.hk = true) (h4 : (args.all fun r => noClo r.1) = true) :
    callN fks cn (n + 1) j args = cleanT ((exSs (callN fks cn n) (ioOf fks) cn f.body (args.map some ++ List.replicate (f.ns - f.np) none)).bind (fin f.io)) := by
  rw [callN, h]
  show T.guard _ _ = _
  rw [h2, h3]
  show T.guard _ _ = _
  rw [h4]
  rfl
theorem wb_cleanT {Q : R × List W → Nat → Prop} : ∀ {t : T (R × List W)} {b : Nat}, t.wb T.noX b (fun r b' => (noClo r.1.1 && noCloL r.2) = true ∧ Q r b') → (cleanT t).wb T.noX b Q
  | .ok r, b, h => by
    obtain ⟨h1, h2⟩ := h
    show (cond (noClo r.1.1 && noCloL r.2) (T.ok r) T.stk).wb T.noX b Q
    rw [h1]
    exact h2
  | .exc _ _, b, h => h.elim
  | .stk, b, h => h.elim
  | .draw l k, 0, h => h.elim
  | .draw l k, b + 1, h => fun d hd => wb_cleanT (h d hd)
theorem forGo_nx {turn : W → Sl → T Fl} {S : Nat → Sl} : ∀ {xs : List W} {k : Nat}, (∀ (i : Nat) x, xs[i]? = some x → turn x (S (k + i)) = .ok (.nx (S (k + i + 1)))) → forGo turn xs (S k) = .ok (.nx (S (k + xs.length)))
  | [], k, _ => rfl
  | x :: xs, k, h => by
    unfold forGo
    have h0 := h 0 x rfl
    rw [Nat.add_zero] at h0
    rw [h0]
    show forGo turn xs (S (k + 1)) = _
    rw [forGo_nx (k := k + 1) fun i y e => by
      have := h (i + 1) y (by simpa using e)
      rw [show k + 1 + i = k + (i + 1) by omega]
      exact this]
    rw [List.length_cons, show k + 1 + xs.length = k + (xs.length + 1) by omega]
theorem for_inv {turn : W → Sl → T Fl} {P : Nat → Sl → Prop} : ∀ {xs : List W} {k : Nat} {sl : Sl}, P k sl → (∀ (i : Nat) x sl, xs[i]? = some x → P (k + i) sl → ∃ sl', turn x sl = .ok (.nx sl') ∧ P (k + i + 1) sl') → ∃ sl', forGo turn xs sl = .ok (.nx sl') ∧ P (k + xs.length) sl'
  | [], k, sl, h0, _ => ⟨sl, rfl, h0⟩
  | x :: xs, k, sl, h0, h => by
    obtain ⟨sl1, e1, h1⟩ := h 0 x sl rfl h0
    obtain ⟨sl2, e2, h2⟩ := for_inv (turn := turn) (P := P) (xs := xs) (k := k + 1) (sl := sl1) h1 fun i y sl e hp => by
      have := h (i + 1) y sl (by simpa using e) (by rw [show k + (i + 1) = k + 1 + i by omega]; exact hp)
      rw [show k + (i + 1) = k + 1 + i by omega] at this
      exact this
    refine ⟨sl2, ?_, by rw [List.length_cons, show k + (xs.length + 1) = k + 1 + xs.length by omega]; exact h2⟩
    unfold forGo
    rw [e1]
    exact e2
theorem bind_as {α β γ : Type} {f : α → T β} {g : β → T γ} : ∀ (t : T α), (t.bind f).bind g = t.bind fun a => (f a).bind g
  | .ok _ => rfl
  | .exc _ _ => rfl
  | .stk => rfl
  | .draw l k => congrArg (T.draw l) (funext fun d => bind_as (k d))
theorem for1 {turn : W → Sl → T Fl} {P : Nat → Sl → Prop} {xs : List W} {sl : Sl} (h0 : P 0 sl) (h : ∀ (i : Nat) x sl, xs[i]? = some x → P i sl → ∃ sl', turn x sl = .ok (.nx sl') ∧ P (i + 1) sl') : ∃ sl', forGo turn xs sl = .ok (.nx sl') ∧ P xs.length sl' := by
  have := for_inv (turn := turn) (P := P) (xs := xs) (k := 0) h0 fun i x sl e hp => by
    rw [Nat.zero_add] at hp ⊢
    exact h i x sl e hp
  rw [Nat.zero_add] at this
  exact this
theorem for_bind {turn : W → Sl → T Fl} {P : Nat → Sl → Prop} {xs : List W} {sl : Sl} {β : Type} {k : Fl → T β} {res : T β} (h0 : P 0 sl) (h : ∀ (i : Nat) x sl, xs[i]? = some x → P i sl → ∃ sl', turn x sl = .ok (.nx sl') ∧ P (i + 1) sl')
    (hk : ∀ sl', P xs.length sl' → k (.nx sl') = res) : (forGo turn xs sl).bind k = res := by
  obtain ⟨sl', e, hp⟩ := for1 (turn := turn) h0 h
  rw [e]
  exact hk sl' hp
theorem for_ex {turn : W → Sl → T Fl} {P : Nat → Sl → Prop} {xs : List W} {sl : Sl} {β : Type} {k : Fl → T β} (G : T β → Prop) (h0 : P 0 sl) (h : ∀ (i : Nat) x sl, xs[i]? = some x → P i sl → ∃ sl', turn x sl = .ok (.nx sl') ∧ P (i + 1) sl')
    (hk : ∀ sl', P xs.length sl' → G (k (.nx sl'))) : G ((forGo turn xs sl).bind k) := by
  obtain ⟨sl', e, hp⟩ := for1 (turn := turn) h0 h
  rw [e]
  exact hk sl' hp
theorem forGo1 (turn : W → Sl → T Fl) (x : W) (sl : Sl) : forGo turn [x] sl = (turn x sl).bind fun f => match f with
    | .nx sl => .ok (.nx sl)
    | .cont sl => .ok (.nx sl)
    | .brk sl => .ok (.nx sl)
    | .ret r sl => .ok (.ret r sl) := by
  unfold forGo
  congr 1

theorem idxL (xs : List W) (i : Int) : idxW (.lst xs) (.int i) = seqAt xs i := rfl
/-! ### with draws -/
theorem draw_bind {α β : Type} (l : Nat) (k : Nat → T α) (f : α → T β) : (T.draw l k).bind f = T.draw l fun d => (k d).bind f := rfl
/-- held from the elaborator's eyes -/
structure WB {α : Type} (t : T α) (b : Nat) (Q : α → Nat → Prop) : Prop where
  h : t.wb T.noX b Q
theorem wb_draw' {α : Type} {l : Nat} {k : Nat → T α} {b : Nat} {Q : α → Nat → Prop} (hb : 1 ≤ b) (h : ∀ d, d < l → (k d).wb T.noX (b - 1) Q) : (T.draw l k).wb T.noX b Q := by
  obtain ⟨c, rfl⟩ : ∃ c, b = c + 1 := ⟨b - 1, by omega⟩
  exact h
theorem Wmono {α : Type} {t : T α} {b : Nat} {P Q : α → Nat → Prop} (h : WB t b P) (hq : ∀ a b', P a b' → Q a b') : WB t b Q := ⟨T.wb_mono hq h.h⟩
theorem Wbind {α β : Type} {t : T α} {f : α → T β} {b : Nat} {Q : β → Nat → Prop} (h : WB t b fun a b' => WB (f a) b' Q) : WB (t.bind f) b Q := ⟨T.wb_bind.mpr (T.wb_mono (fun _ _ z => z.h) h.h)⟩
theorem Wok {α : Type} {t : T α} {a : α} {b : Nat} {Q : α → Nat → Prop} (e : t = .ok a) (h : Q a b) : WB t b Q := ⟨by rw [e]; exact h⟩
theorem Wdraw {α : Type} {t : T α} {l : Nat} {k : Nat → T α} {b : Nat} {Q : α → Nat → Prop} (e : t = .draw l k) (hb : 1 ≤ b) (h : ∀ d, d < l → WB (k d) (b - 1) Q) : WB t b Q := ⟨by rw [e]; exact wb_draw' hb fun d hd => (h d hd).h⟩
theorem Wstep0 {C : Cl} {I : Nat → List Bool} {s : Sm} {r : Sms} {sl : Sl} {b : Nat} {Q : Fl → Nat → Prop} (h : WB (exS C I cn s sl) b fun f b' => ∃ sl', f = .nx sl' ∧ WB (exSs C I cn r sl') b' Q) : WB (exSs C I cn (.cons s r) sl) b Q := by
  rw [exSs]
  show WB ((exS C I cn s sl).bind _) b Q
  refine Wbind (Wmono h fun f b' hf => ?_)
  obtain ⟨sl', rfl, hk⟩ := hf
  exact hk
theorem Wstep01 {C : Cl} {I : Nat → List Bool} {s : Sm} {r : Sms} {sl sl' : Sl} {b : Nat} {Q : Fl → Nat → Prop} (h : exS C I cn s sl = .ok (.nx sl')) (hk : WB (exSs C I cn r sl') b Q) : WB (exSs C I cn (.cons s r) sl) b Q := Wstep0 (Wok h ⟨sl', rfl, hk⟩)
theorem Wfor {turn : W → Sl → T Fl} {P : Nat → Sl → Nat → Prop} {Q : Fl → Nat → Prop} : ∀ {xs : List W} {k : Nat} {sl : Sl} {b : Nat}, P k sl b → (∀ (i : Nat) x sl b, xs[i]? = some x → P (k + i) sl b → WB (turn x sl) b fun f b' => ∃ sl', f = .nx sl' ∧ P (k + i + 1) sl' b') → (∀ sl b, P (k + xs.length) sl b → Q (.nx sl) b) → WB (forGo turn xs sl) b Q
  | [], k, sl, b, h0, _, hq => Wok rfl (hq sl b h0)
  | x :: xs, k, sl, b, h0, h, hq => by
    unfold forGo
    refine Wbind (Wmono (h 0 x sl b rfl h0) fun f b' hf => ?_)
    obtain ⟨sl1, rfl, h1⟩ := hf
    refine Wfor (k := k + 1) h1 (fun i y sl b e hp => ?_) fun sl b hp => hq sl b (by rw [List.length_cons, show k + (xs.length + 1) = k + 1 + xs.length by omega]; exact hp)
    have := h (i + 1) y sl b (by simpa using e) (by rw [show k + (i + 1) = k + 1 + i by omega]; exact hp)
    rw [show k + (i + 1) = k + 1 + i by omega] at this
    exact this
def drw (x y : W) (sl : Sl) : T (R × Sl) := match x with
  | .orc => (match y with
    | .int n => T.guard (decide (0 < n) && decide (n < 1073741824)) (.draw n.toNat fun d => .ok ((.int d, false), sl))
    | _ => .stk)
  | _ => .stk
theorem kDraw_eq (m l : Se) : kDraw m l = fun sl => (m sl).bind fun p => (l p.2).bind fun q => drw p.1.1 q.1.1 q.2 := rfl
theorem guard_dr {α : Type} {m : Nat} {t : T α} (h1 : 1 ≤ m) (h2 : m ≤ 1000000) : T.guard (decide ((0 : Int) < (m : Int)) && decide ((m : Int) < 1073741824)) t = t := guard_t (by rw [Bool.and_eq_true, decide_eq_true_eq, decide_eq_true_eq]; omega)
theorem drw_ok {m : Nat} {sl : Sl} (h1 : 1 ≤ m) (h2 : m ≤ 1000000) : drw .orc (.int (m : Int)) sl = .draw m fun d => .ok ((.int d, false), sl) := by
  show T.guard (decide ((0 : Int) < (m : Int)) && decide ((m : Int) < 1073741824)) _ = _
  rw [guard_dr h1 h2, Int.toNat_natCast]
theorem io35 : ioOf fks 35 = [false, false] := rfl
theorem of_wb {n b : Nat} {xs : List W} {Q : R × List W → Nat → Prop} (h1 : 1 ≤ xs.length) (h2 : xs.length ≤ 1000) (hb : 1 ≤ b) (h : ∀ (d : Nat) (w : W), xs[d]? = some w → Q ((w, false), []) (b - 1)) : WB (callN fks cn (n + 1) 35 [(.orc, false), (.lst xs, false)]) b Q := by
  have e : callN fks cn (n + 1) 35 [(.orc, false), (.lst xs, false)] = .draw xs.length fun d => (seqAt xs (d : Int)).bind fun w => .ok ((w, false), []) := by
    rw [callN_code rfl rfl]
    simp -implicitDefEqProofs (maxSteps := 3000000) only [exSs, exS, evE, evL, evO, evI, sSeq, sAsg, sExp, sApp, sPut, sRet, sRetv, sIte, sPar, lPar, moveS, kOp, kChain, kIdx, kLst, Ev.kTup, kCon, kVar, kNot, kAnd, kOr, kIte, kBi, kCall, kSli, oInt, kNeg, kConv, lA, lH, lAnd, lOr, lArgs, ioTake, putBack, own, hd, isV, getAll, hget_val, hget_slot, T.bind_ok, fz, rd0, rdS, sett0, settS, setG_nm, setGs_nil, setGs_cons, setG_tp, cond_true, cond_false, boolOf, bopsI, op2, two_ii, subW, ltW, leW, gtW, geW, eqR, neR, yes, nay, biW, bi1, bi2, isR, isnotR, isT1, isI1, isB1, isS1, yes, isInst, lenW, List.map_cons, List.map_nil, List.cons_append, List.nil_append, List.replicate_succ, List.replicate_zero, Nat.reduceSub, Bool.not_true, Bool.not_false, ite_true, ite_false, iSeq, seqOf, List.headD_cons, List.tail_cons, guard_tt, bind_as, kDraw_eq, draw_bind, idxL, drw_ok h1 (Nat.le_trans h2 (show 1000 ≤ 1000000 by decide))]
    rfl
  refine Wdraw e hb fun d hd => ?_
  have hx : xs[d]? = some (xs[d]'hd) := List.getElem?_eq_getElem hd
  rw [seqAt_nat hx]
  exact Wok rfl (h d _ hx)
end Ov
end
end
section
set_option Elab.async false
set_option linter.all false
set_option maxRecDepth 100000
set_option maxHeartbeats 4000000
noncomputable section
namespace Ov
open PySem L2 Ev
set_option autoImplicit false
def smAt : Sms → Nat → Sm
  | .cons s _, 0 => s
  | .cons _ r, n + 1 => smAt r n
  | .nil, _ => .never
def smFrom : Sms → Nat → Sms
  | s, 0 => s
  | .cons _ r, n + 1 => smFrom r n
  | .nil, _ => .nil
def forB : Sm → Sms
  | .for_ _ _ b => b
  | _ => .nil
abbrev C120 : Cl := callN fks cn (119 + 1)
abbrev Yes (t : T (R × List W)) : Prop := t = .ok ((.bl true, false), [])
def th0 : W := .non
def th1 : W := .bl true
def th2 : W := .int 0
def th3 : W := .int (-1)
def th4 : W := .int 1000000000000000000000000000000
def th5 : W := .str ⟨#[]⟩
def th6 : W := .str ⟨#[97, 32, 119, 111, 114, 100]⟩
def th7 : W := .tup []
def th8 : W := .tup [.int 0, .int 1]
def th9 : W := .lst [.int 1]
def th10 : W := .dct []
def th11 : W := .dct [(.inr ⟨#[97]⟩, .tup [.int 1])]
def th12 : W := .tup [.tup [], .non]
def things : List W := [th0, th1, th2, th3, th4, th5, th6, th7, th8, th9, th10, th11, th12]
abbrev sL (c : Nat) (fr : Bool) (a3 a4 : Option R) : Sl := [some (.scr c, false), some (.orc, false), some (.lst things, fr), a3, a4]
theorem pre0 (c : Nat) : exS C120 (ioOf fks) cn (smAt lw.post 0) [some (.scr c, false), some (.orc, false), none, none, none] = .ok (.nx (sL c true none none)) := by kernel_rfl
theorem post3 (c : Nat) (fr : Bool) (a3 : Option R) : exSs C120 (ioOf fks) cn (smFrom lw.post 3) (sL c fr a3 (some (.err 26 [], false))) = .ok (.ret (.bl true, false) (sL c fr a3 (some (.err 26 [], false)))) := by kernel_rfl
theorem pl0 : Yes (C120 38 [(th0, false)]) := by kernel_rfl
theorem pa0 : Yes (C120 39 [(th0, false)]) := by kernel_rfl
theorem pl1 : Yes (C120 38 [(th1, false)]) := by kernel_rfl
theorem pa1 : Yes (C120 39 [(th1, false)]) := by kernel_rfl
theorem pl2 : Yes (C120 38 [(th2, false)]) := by kernel_rfl
theorem pa2 : Yes (C120 39 [(th2, false)]) := by kernel_rfl
theorem pl3 : Yes (C120 38 [(th3, false)]) := by kernel_rfl
theorem pa3 : Yes (C120 39 [(th3, false)]) := by kernel_rfl
theorem pl4 : Yes (C120 38 [(th4, false)]) := by kernel_rfl
theorem pa4 : Yes (C120 39 [(th4, false)]) := by kernel_rfl
theorem pl5 : Yes (C120 38 [(th5, false)]) := by kernel_rfl
theorem pa5 : Yes (C120 39 [(th5, false)]) := by kernel_rfl
theorem pl6 : Yes (C120 38 [(th6, false)]) := by kernel_rfl
theorem pa6 : Yes (C120 39 [(th6, false)]) := by kernel_rfl
theorem pl7 : Yes (C120 38 [(th7, false)]) := by kernel_rfl
theorem pa7 : Yes (C120 39 [(th7, false)]) := by kernel_rfl
theorem pl8 : Yes (C120 38 [(th8, false)]) := by kernel_rfl
theorem pa8 : Yes (C120 39 [(th8, false)]) := by kernel_rfl
theorem pl9 : Yes (C120 38 [(th9, false)]) := by kernel_rfl
theorem pa9 : Yes (C120 39 [(th9, false)]) := by kernel_rfl
theorem pl10 : Yes (C120 38 [(th10, false)]) := by kernel_rfl
theorem pa10 : Yes (C120 39 [(th10, false)]) := by kernel_rfl
theorem pl11 : Yes (C120 38 [(th11, false)]) := by kernel_rfl
theorem pa11 : Yes (C120 39 [(th11, false)]) := by kernel_rfl
theorem pl12 : Yes (C120 38 [(th12, false)]) := by kernel_rfl
theorem pa12 : Yes (C120 39 [(th12, false)]) := by kernel_rfl
theorem pl_ok : ∀ (d : Nat) (w : W), things[d]? = some w → Yes (C120 38 [(w, false)])
  | 0, _, h => by cases h; exact pl0
  | 1, _, h => by cases h; exact pl1
  | 2, _, h => by cases h; exact pl2
  | 3, _, h => by cases h; exact pl3
  | 4, _, h => by cases h; exact pl4
  | 5, _, h => by cases h; exact pl5
  | 6, _, h => by cases h; exact pl6
  | 7, _, h => by cases h; exact pl7
  | 8, _, h => by cases h; exact pl8
  | 9, _, h => by cases h; exact pl9
  | 10, _, h => by cases h; exact pl10
  | 11, _, h => by cases h; exact pl11
  | 12, _, h => by cases h; exact pl12
  | n + 13, _, h => by cases h
theorem pa_ok : ∀ (d : Nat) (w : W), things[d]? = some w → Yes (C120 39 [(w, false)])
  | 0, _, h => by cases h; exact pa0
  | 1, _, h => by cases h; exact pa1
  | 2, _, h => by cases h; exact pa2
  | 3, _, h => by cases h; exact pa3
  | 4, _, h => by cases h; exact pa4
  | 5, _, h => by cases h; exact pa5
  | 6, _, h => by cases h; exact pa6
  | 7, _, h => by cases h; exact pa7
  | 8, _, h => by cases h; exact pa8
  | 9, _, h => by cases h; exact pa9
  | 10, _, h => by cases h; exact pa10
  | 11, _, h => by cases h; exact pa11
  | 12, _, h => by cases h; exact pa12
  | n + 13, _, h => by cases h
theorem ot0_0 : Yes (C120 40 [(th0, false), (th0, false)]) := by kernel_rfl
theorem ot0_1 : Yes (C120 40 [(th0, false), (th1, false)]) := by kernel_rfl
theorem ot0_2 : Yes (C120 40 [(th0, false), (th2, false)]) := by kernel_rfl
theorem ot0_3 : Yes (C120 40 [(th0, false), (th3, false)]) := by kernel_rfl
theorem ot0_4 : Yes (C120 40 [(th0, false), (th4, false)]) := by kernel_rfl
theorem ot0_5 : Yes (C120 40 [(th0, false), (th5, false)]) := by kernel_rfl
theorem ot0_6 : Yes (C120 40 [(th0, false), (th6, false)]) := by kernel_rfl
theorem ot0_7 : Yes (C120 40 [(th0, false), (th7, false)]) := by kernel_rfl
theorem ot0_8 : Yes (C120 40 [(th0, false), (th8, false)]) := by kernel_rfl
theorem ot0_9 : Yes (C120 40 [(th0, false), (th9, false)]) := by kernel_rfl
theorem ot0_10 : Yes (C120 40 [(th0, false), (th10, false)]) := by kernel_rfl
theorem ot0_11 : Yes (C120 40 [(th0, false), (th11, false)]) := by kernel_rfl
theorem ot0_12 : Yes (C120 40 [(th0, false), (th12, false)]) := by kernel_rfl
theorem ot0 : ∀ (d : Nat) (w : W), things[d]? = some w → Yes (C120 40 [(th0, false), (w, false)])
  | 0, _, h => by cases h; exact ot0_0
  | 1, _, h => by cases h; exact ot0_1
  | 2, _, h => by cases h; exact ot0_2
  | 3, _, h => by cases h; exact ot0_3
  | 4, _, h => by cases h; exact ot0_4
  | 5, _, h => by cases h; exact ot0_5
  | 6, _, h => by cases h; exact ot0_6
  | 7, _, h => by cases h; exact ot0_7
  | 8, _, h => by cases h; exact ot0_8
  | 9, _, h => by cases h; exact ot0_9
  | 10, _, h => by cases h; exact ot0_10
  | 11, _, h => by cases h; exact ot0_11
  | 12, _, h => by cases h; exact ot0_12
  | n + 13, _, h => by cases h
theorem ot1_0 : Yes (C120 40 [(th1, false), (th0, false)]) := by kernel_rfl
theorem ot1_1 : Yes (C120 40 [(th1, false), (th1, false)]) := by kernel_rfl
theorem ot1_2 : Yes (C120 40 [(th1, false), (th2, false)]) := by kernel_rfl
theorem ot1_3 : Yes (C120 40 [(th1, false), (th3, false)]) := by kernel_rfl
theorem ot1_4 : Yes (C120 40 [(th1, false), (th4, false)]) := by kernel_rfl
theorem ot1_5 : Yes (C120 40 [(th1, false), (th5, false)]) := by kernel_rfl
theorem ot1_6 : Yes (C120 40 [(th1, false), (th6, false)]) := by kernel_rfl
theorem ot1_7 : Yes (C120 40 [(th1, false), (th7, false)]) := by kernel_rfl
theorem ot1_8 : Yes (C120 40 [(th1, false), (th8, false)]) := by kernel_rfl
theorem ot1_9 : Yes (C120 40 [(th1, false), (th9, false)]) := by kernel_rfl
theorem ot1_10 : Yes (C120 40 [(th1, false), (th10, false)]) := by kernel_rfl
theorem ot1_11 : Yes (C120 40 [(th1, false), (th11, false)]) := by kernel_rfl
theorem ot1_12 : Yes (C120 40 [(th1, false), (th12, false)]) := by kernel_rfl
theorem ot1 : ∀ (d : Nat) (w : W), things[d]? = some w → Yes (C120 40 [(th1, false), (w, false)])
  | 0, _, h => by cases h; exact ot1_0
  | 1, _, h => by cases h; exact ot1_1
  | 2, _, h => by cases h; exact ot1_2
  | 3, _, h => by cases h; exact ot1_3
  | 4, _, h => by cases h; exact ot1_4
  | 5, _, h => by cases h; exact ot1_5
  | 6, _, h => by cases h; exact ot1_6
  | 7, _, h => by cases h; exact ot1_7
  | 8, _, h => by cases h; exact ot1_8
  | 9, _, h => by cases h; exact ot1_9
  | 10, _, h => by cases h; exact ot1_10
  | 11, _, h => by cases h; exact ot1_11
  | 12, _, h => by cases h; exact ot1_12
  | n + 13, _, h => by cases h
theorem ot2_0 : Yes (C120 40 [(th2, false), (th0, false)]) := by kernel_rfl
theorem ot2_1 : Yes (C120 40 [(th2, false), (th1, false)]) := by kernel_rfl
theorem ot2_2 : Yes (C120 40 [(th2, false), (th2, false)]) := by kernel_rfl
theorem ot2_3 : Yes (C120 40 [(th2, false), (th3, false)]) := by kernel_rfl
theorem ot2_4 : Yes (C120 40 [(th2, false), (th4, false)]) := by kernel_rfl
theorem ot2_5 : Yes (C120 40 [(th2, false), (th5, false)]) := by kernel_rfl
theorem ot2_6 : Yes (C120 40 [(th2, false), (th6, false)]) := by kernel_rfl
theorem ot2_7 : Yes (C120 40 [(th2, false), (th7, false)]) := by kernel_rfl
theorem ot2_8 : Yes (C120 40 [(th2, false), (th8, false)]) := by kernel_rfl
theorem ot2_9 : Yes (C120 40 [(th2, false), (th9, false)]) := by kernel_rfl
theorem ot2_10 : Yes (C120 40 [(th2, false), (th10, false)]) := by kernel_rfl
theorem ot2_11 : Yes (C120 40 [(th2, false), (th11, false)]) := by kernel_rfl
theorem ot2_12 : Yes (C120 40 [(th2, false), (th12, false)]) := by kernel_rfl
theorem ot2 : ∀ (d : Nat) (w : W), things[d]? = some w → Yes (C120 40 [(th2, false), (w, false)])
  | 0, _, h => by cases h; exact ot2_0
  | 1, _, h => by cases h; exact ot2_1
  | 2, _, h => by cases h; exact ot2_2
  | 3, _, h => by cases h; exact ot2_3
  | 4, _, h => by cases h; exact ot2_4
  | 5, _, h => by cases h; exact ot2_5
  | 6, _, h => by cases h; exact ot2_6
  | 7, _, h => by cases h; exact ot2_7
  | 8, _, h => by cases h; exact ot2_8
  | 9, _, h => by cases h; exact ot2_9
  | 10, _, h => by cases h; exact ot2_10
  | 11, _, h => by cases h; exact ot2_11
  | 12, _, h => by cases h; exact ot2_12
  | n + 13, _, h => by cases h
theorem ot3_0 : Yes (C120 40 [(th3, false), (th0, false)]) := by kernel_rfl
theorem ot3_1 : Yes (C120 40 [(th3, false), (th1, false)]) := by kernel_rfl
theorem ot3_2 : Yes (C120 40 [(th3, false), (th2, false)]) := by kernel_rfl
theorem ot3_3 : Yes (C120 40 [(th3, false), (th3, false)]) := by kernel_rfl
theorem ot3_4 : Yes (C120 40 [(th3, false), (th4, false)]) := by kernel_rfl
theorem ot3_5 : Yes (C120 40 [(th3, false), (th5, false)]) := by kernel_rfl
theorem ot3_6 : Yes (C120 40 [(th3, false), (th6, false)]) := by kernel_rfl
theorem ot3_7 : Yes (C120 40 [(th3, false), (th7, false)]) := by kernel_rfl
theorem ot3_8 : Yes (C120 40 [(th3, false), (th8, false)]) := by kernel_rfl
theorem ot3_9 : Yes (C120 40 [(th3, false), (th9, false)]) := by kernel_rfl
theorem ot3_10 : Yes (C120 40 [(th3, false), (th10, false)]) := by kernel_rfl
theorem ot3_11 : Yes (C120 40 [(th3, false), (th11, false)]) := by kernel_rfl
theorem ot3_12 : Yes (C120 40 [(th3, false), (th12, false)]) := by kernel_rfl
theorem ot3 : ∀ (d : Nat) (w : W), things[d]? = some w → Yes (C120 40 [(th3, false), (w, false)])
  | 0, _, h => by cases h; exact ot3_0
  | 1, _, h => by cases h; exact ot3_1
  | 2, _, h => by cases h; exact ot3_2
  | 3, _, h => by cases h; exact ot3_3
  | 4, _, h => by cases h; exact ot3_4
  | 5, _, h => by cases h; exact ot3_5
  | 6, _, h => by cases h; exact ot3_6
  | 7, _, h => by cases h; exact ot3_7
  | 8, _, h => by cases h; exact ot3_8
  | 9, _, h => by cases h; exact ot3_9
  | 10, _, h => by cases h; exact ot3_10
  | 11, _, h => by cases h; exact ot3_11
  | 12, _, h => by cases h; exact ot3_12
  | n + 13, _, h => by cases h
theorem ot4_0 : Yes (C120 40 [(th4, false), (th0, false)]) := by kernel_rfl
theorem ot4_1 : Yes (C120 40 [(th4, false), (th1, false)]) := by kernel_rfl
theorem ot4_2 : Yes (C120 40 [(th4, false), (th2, false)]) := by kernel_rfl
theorem ot4_3 : Yes (C120 40 [(th4, false), (th3, false)]) := by kernel_rfl
theorem ot4_4 : Yes (C120 40 [(th4, false), (th4, false)]) := by kernel_rfl
theorem ot4_5 : Yes (C120 40 [(th4, false), (th5, false)]) := by kernel_rfl
theorem ot4_6 : Yes (C120 40 [(th4, false), (th6, false)]) := by kernel_rfl
theorem ot4_7 : Yes (C120 40 [(th4, false), (th7, false)]) := by kernel_rfl
theorem ot4_8 : Yes (C120 40 [(th4, false), (th8, false)]) := by kernel_rfl
theorem ot4_9 : Yes (C120 40 [(th4, false), (th9, false)]) := by kernel_rfl
theorem ot4_10 : Yes (C120 40 [(th4, false), (th10, false)]) := by kernel_rfl
theorem ot4_11 : Yes (C120 40 [(th4, false), (th11, false)]) := by kernel_rfl
theorem ot4_12 : Yes (C120 40 [(th4, false), (th12, false)]) := by kernel_rfl
theorem ot4 : ∀ (d : Nat) (w : W), things[d]? = some w → Yes (C120 40 [(th4, false), (w, false)])
  | 0, _, h => by cases h; exact ot4_0
  | 1, _, h => by cases h; exact ot4_1
  | 2, _, h => by cases h; exact ot4_2
  | 3, _, h => by cases h; exact ot4_3
  | 4, _, h => by cases h; exact ot4_4
  | 5, _, h => by cases h; exact ot4_5
  | 6, _, h => by cases h; exact ot4_6
  | 7, _, h => by cases h; exact ot4_7
  | 8, _, h => by cases h; exact ot4_8
  | 9, _, h => by cases h; exact ot4_9
  | 10, _, h => by cases h; exact ot4_10
  | 11, _, h => by cases h; exact ot4_11
  | 12, _, h => by cases h; exact ot4_12
  | n + 13, _, h => by cases h
theorem ot5_0 : Yes (C120 40 [(th5, false), (th0, false)]) := by kernel_rfl
theorem ot5_1 : Yes (C120 40 [(th5, false), (th1, false)]) := by kernel_rfl
theorem ot5_2 : Yes (C120 40 [(th5, false), (th2, false)]) := by kernel_rfl
theorem ot5_3 : Yes (C120 40 [(th5, false), (th3, false)]) := by kernel_rfl
theorem ot5_4 : Yes (C120 40 [(th5, false), (th4, false)]) := by kernel_rfl
theorem ot5_5 : Yes (C120 40 [(th5, false), (th5, false)]) := by kernel_rfl
theorem ot5_6 : Yes (C120 40 [(th5, false), (th6, false)]) := by kernel_rfl
theorem ot5_7 : Yes (C120 40 [(th5, false), (th7, false)]) := by kernel_rfl
theorem ot5_8 : Yes (C120 40 [(th5, false), (th8, false)]) := by kernel_rfl
theorem ot5_9 : Yes (C120 40 [(th5, false), (th9, false)]) := by kernel_rfl
theorem ot5_10 : Yes (C120 40 [(th5, false), (th10, false)]) := by kernel_rfl
theorem ot5_11 : Yes (C120 40 [(th5, false), (th11, false)]) := by kernel_rfl
theorem ot5_12 : Yes (C120 40 [(th5, false), (th12, false)]) := by kernel_rfl
theorem ot5 : ∀ (d : Nat) (w : W), things[d]? = some w → Yes (C120 40 [(th5, false), (w, false)])
  | 0, _, h => by cases h; exact ot5_0
  | 1, _, h => by cases h; exact ot5_1
  | 2, _, h => by cases h; exact ot5_2
  | 3, _, h => by cases h; exact ot5_3
  | 4, _, h => by cases h; exact ot5_4
  | 5, _, h => by cases h; exact ot5_5
  | 6, _, h => by cases h; exact ot5_6
  | 7, _, h => by cases h; exact ot5_7
  | 8, _, h => by cases h; exact ot5_8
  | 9, _, h => by cases h; exact ot5_9
  | 10, _, h => by cases h; exact ot5_10
  | 11, _, h => by cases h; exact ot5_11
  | 12, _, h => by cases h; exact ot5_12
  | n + 13, _, h => by cases h
theorem ot6_0 : Yes (C120 40 [(th6, false), (th0, false)]) := by kernel_rfl
theorem ot6_1 : Yes (C120 40 [(th6, false), (th1, false)]) := by kernel_rfl
theorem ot6_2 : Yes (C120 40 [(th6, false), (th2, false)]) := by kernel_rfl
theorem ot6_3 : Yes (C120 40 [(th6, false), (th3, false)]) := by kernel_rfl
theorem ot6_4 : Yes (C120 40 [(th6, false), (th4, false)]) := by kernel_rfl
theorem ot6_5 : Yes (C120 40 [(th6, false), (th5, false)]) := by kernel_rfl
theorem ot6_6 : Yes (C120 40 [(th6, false), (th6, false)]) := by kernel_rfl
theorem ot6_7 : Yes (C120 40 [(th6, false), (th7, false)]) := by kernel_rfl
theorem ot6_8 : Yes (C120 40 [(th6, false), (th8, false)]) := by kernel_rfl
theorem ot6_9 : Yes (C120 40 [(th6, false), (th9, false)]) := by kernel_rfl
theorem ot6_10 : Yes (C120 40 [(th6, false), (th10, false)]) := by kernel_rfl
theorem ot6_11 : Yes (C120 40 [(th6, false), (th11, false)]) := by kernel_rfl
theorem ot6_12 : Yes (C120 40 [(th6, false), (th12, false)]) := by kernel_rfl
theorem ot6 : ∀ (d : Nat) (w : W), things[d]? = some w → Yes (C120 40 [(th6, false), (w, false)])
  | 0, _, h => by cases h; exact ot6_0
  | 1, _, h => by cases h; exact ot6_1
  | 2, _, h => by cases h; exact ot6_2
  | 3, _, h => by cases h; exact ot6_3
  | 4, _, h => by cases h; exact ot6_4
  | 5, _, h => by cases h; exact ot6_5
  | 6, _, h => by cases h; exact ot6_6
  | 7, _, h => by cases h; exact ot6_7
  | 8, _, h => by cases h; exact ot6_8
  | 9, _, h => by cases h; exact ot6_9
  | 10, _, h => by cases h; exact ot6_10
  | 11, _, h => by cases h; exact ot6_11
  | 12, _, h => by cases h; exact ot6_12
  | n + 13, _, h => by cases h
theorem ot7_0 : Yes (C120 40 [(th7, false), (th0, false)]) := by kernel_rfl
theorem ot7_1 : Yes (C120 40 [(th7, false), (th1, false)]) := by kernel_rfl
theorem ot7_2 : Yes (C120 40 [(th7, false), (th2, false)]) := by kernel_rfl
theorem ot7_3 : Yes (C120 40 [(th7, false), (th3, false)]) := by kernel_rfl
theorem ot7_4 : Yes (C120 40 [(th7, false), (th4, false)]) := by kernel_rfl
theorem ot7_5 : Yes (C120 40 [(th7, false), (th5, false)]) := by kernel_rfl
theorem ot7_6 : Yes (C120 40 [(th7, false), (th6, false)]) := by kernel_rfl
theorem ot7_7 : Yes (C120 40 [(th7, false), (th7, false)]) := by kernel_rfl
theorem ot7_8 : Yes (C120 40 [(th7, false), (th8, false)]) := by kernel_rfl
theorem ot7_9 : Yes (C120 40 [(th7, false), (th9, false)]) := by kernel_rfl
theorem ot7_10 : Yes (C120 40 [(th7, false), (th10, false)]) := by kernel_rfl
theorem ot7_11 : Yes (C120 40 [(th7, false), (th11, false)]) := by kernel_rfl
theorem ot7_12 : Yes (C120 40 [(th7, false), (th12, false)]) := by kernel_rfl
theorem ot7 : ∀ (d : Nat) (w : W), things[d]? = some w → Yes (C120 40 [(th7, false), (w, false)])
  | 0, _, h => by cases h; exact ot7_0
  | 1, _, h => by cases h; exact ot7_1
  | 2, _, h => by cases h; exact ot7_2
  | 3, _, h => by cases h; exact ot7_3
  | 4, _, h => by cases h; exact ot7_4
  | 5, _, h => by cases h; exact ot7_5
  | 6, _, h => by cases h; exact ot7_6
  | 7, _, h => by cases h; exact ot7_7
  | 8, _, h => by cases h; exact ot7_8
  | 9, _, h => by cases h; exact ot7_9
  | 10, _, h => by cases h; exact ot7_10
  | 11, _, h => by cases h; exact ot7_11
  | 12, _, h => by cases h; exact ot7_12
  | n + 13, _, h => by cases h
theorem ot8_0 : Yes (C120 40 [(th8, false), (th0, false)]) := by kernel_rfl
theorem ot8_1 : Yes (C120 40 [(th8, false), (th1, false)]) := by kernel_rfl
theorem ot8_2 : Yes (C120 40 [(th8, false), (th2, false)]) := by kernel_rfl
theorem ot8_3 : Yes (C120 40 [(th8, false), (th3, false)]) := by kernel_rfl
theorem ot8_4 : Yes (C120 40 [(th8, false), (th4, false)]) := by kernel_rfl
theorem ot8_5 : Yes (C120 40 [(th8, false), (th5, false)]) := by kernel_rfl
theorem ot8_6 : Yes (C120 40 [(th8, false), (th6, false)]) := by kernel_rfl
theorem ot8_7 : Yes (C120 40 [(th8, false), (th7, false)]) := by kernel_rfl
theorem ot8_8 : Yes (C120 40 [(th8, false), (th8, false)]) := by kernel_rfl
theorem ot8_9 : Yes (C120 40 [(th8, false), (th9, false)]) := by kernel_rfl
theorem ot8_10 : Yes (C120 40 [(th8, false), (th10, false)]) := by kernel_rfl
theorem ot8_11 : Yes (C120 40 [(th8, false), (th11, false)]) := by kernel_rfl
theorem ot8_12 : Yes (C120 40 [(th8, false), (th12, false)]) := by kernel_rfl
theorem ot8 : ∀ (d : Nat) (w : W), things[d]? = some w → Yes (C120 40 [(th8, false), (w, false)])
  | 0, _, h => by cases h; exact ot8_0
  | 1, _, h => by cases h; exact ot8_1
  | 2, _, h => by cases h; exact ot8_2
  | 3, _, h => by cases h; exact ot8_3
  | 4, _, h => by cases h; exact ot8_4
  | 5, _, h => by cases h; exact ot8_5
  | 6, _, h => by cases h; exact ot8_6
  | 7, _, h => by cases h; exact ot8_7
  | 8, _, h => by cases h; exact ot8_8
  | 9, _, h => by cases h; exact ot8_9
  | 10, _, h => by cases h; exact ot8_10
  | 11, _, h => by cases h; exact ot8_11
  | 12, _, h => by cases h; exact ot8_12
  | n + 13, _, h => by cases h
theorem ot9_0 : Yes (C120 40 [(th9, false), (th0, false)]) := by kernel_rfl
theorem ot9_1 : Yes (C120 40 [(th9, false), (th1, false)]) := by kernel_rfl
theorem ot9_2 : Yes (C120 40 [(th9, false), (th2, false)]) := by kernel_rfl
theorem ot9_3 : Yes (C120 40 [(th9, false), (th3, false)]) := by kernel_rfl
theorem ot9_4 : Yes (C120 40 [(th9, false), (th4, false)]) := by kernel_rfl
theorem ot9_5 : Yes (C120 40 [(th9, false), (th5, false)]) := by kernel_rfl
theorem ot9_6 : Yes (C120 40 [(th9, false), (th6, false)]) := by kernel_rfl
theorem ot9_7 : Yes (C120 40 [(th9, false), (th7, false)]) := by kernel_rfl
theorem ot9_8 : Yes (C120 40 [(th9, false), (th8, false)]) := by kernel_rfl
theorem ot9_9 : Yes (C120 40 [(th9, false), (th9, false)]) := by kernel_rfl
theorem ot9_10 : Yes (C120 40 [(th9, false), (th10, false)]) := by kernel_rfl
theorem ot9_11 : Yes (C120 40 [(th9, false), (th11, false)]) := by kernel_rfl
theorem ot9_12 : Yes (C120 40 [(th9, false), (th12, false)]) := by kernel_rfl
theorem ot9 : ∀ (d : Nat) (w : W), things[d]? = some w → Yes (C120 40 [(th9, false), (w, false)])
  | 0, _, h => by cases h; exact ot9_0
  | 1, _, h => by cases h; exact ot9_1
  | 2, _, h => by cases h; exact ot9_2
  | 3, _, h => by cases h; exact ot9_3
  | 4, _, h => by cases h; exact ot9_4
  | 5, _, h => by cases h; exact ot9_5
  | 6, _, h => by cases h; exact ot9_6
  | 7, _, h => by cases h; exact ot9_7
  | 8, _, h => by cases h; exact ot9_8
  | 9, _, h => by cases h; exact ot9_9
  | 10, _, h => by cases h; exact ot9_10
  | 11, _, h => by cases h; exact ot9_11
  | 12, _, h => by cases h; exact ot9_12
  | n + 13, _, h => by cases h
theorem ot10_0 : Yes (C120 40 [(th10, false), (th0, false)]) := by kernel_rfl
theorem ot10_1 : Yes (C120 40 [(th10, false), (th1, false)]) := by kernel_rfl
theorem ot10_2 : Yes (C120 40 [(th10, false), (th2, false)]) := by kernel_rfl
theorem ot10_3 : Yes (C120 40 [(th10, false), (th3, false)]) := by kernel_rfl
theorem ot10_4 : Yes (C120 40 [(th10, false), (th4, false)]) := by kernel_rfl
theorem ot10_5 : Yes (C120 40 [(th10, false), (th5, false)]) := by kernel_rfl
theorem ot10_6 : Yes (C120 40 [(th10, false), (th6, false)]) := by kernel_rfl
theorem ot10_7 : Yes (C120 40 [(th10, false), (th7, false)]) := by kernel_rfl
theorem ot10_8 : Yes (C120 40 [(th10, false), (th8, false)]) := by kernel_rfl
theorem ot10_9 : Yes (C120 40 [(th10, false), (th9, false)]) := by kernel_rfl
theorem ot10_10 : Yes (C120 40 [(th10, false), (th10, false)]) := by kernel_rfl
theorem ot10_11 : Yes (C120 40 [(th10, false), (th11, false)]) := by kernel_rfl
theorem ot10_12 : Yes (C120 40 [(th10, false), (th12, false)]) := by kernel_rfl
theorem ot10 : ∀ (d : Nat) (w : W), things[d]? = some w → Yes (C120 40 [(th10, false), (w, false)])
  | 0, _, h => by cases h; exact ot10_0
  | 1, _, h => by cases h; exact ot10_1
  | 2, _, h => by cases h; exact ot10_2
  | 3, _, h => by cases h; exact ot10_3
  | 4, _, h => by cases h; exact ot10_4
  | 5, _, h => by cases h; exact ot10_5
  | 6, _, h => by cases h; exact ot10_6
  | 7, _, h => by cases h; exact ot10_7
  | 8, _, h => by cases h; exact ot10_8
  | 9, _, h => by cases h; exact ot10_9
  | 10, _, h => by cases h; exact ot10_10
  | 11, _, h => by cases h; exact ot10_11
  | 12, _, h => by cases h; exact ot10_12
  | n + 13, _, h => by cases h
theorem ot11_0 : Yes (C120 40 [(th11, false), (th0, false)]) := by kernel_rfl
theorem ot11_1 : Yes (C120 40 [(th11, false), (th1, false)]) := by kernel_rfl
theorem ot11_2 : Yes (C120 40 [(th11, false), (th2, false)]) := by kernel_rfl
theorem ot11_3 : Yes (C120 40 [(th11, false), (th3, false)]) := by kernel_rfl
theorem ot11_4 : Yes (C120 40 [(th11, false), (th4, false)]) := by kernel_rfl
theorem ot11_5 : Yes (C120 40 [(th11, false), (th5, false)]) := by kernel_rfl
theorem ot11_6 : Yes (C120 40 [(th11, false), (th6, false)]) := by kernel_rfl
theorem ot11_7 : Yes (C120 40 [(th11, false), (th7, false)]) := by kernel_rfl
theorem ot11_8 : Yes (C120 40 [(th11, false), (th8, false)]) := by kernel_rfl
theorem ot11_9 : Yes (C120 40 [(th11, false), (th9, false)]) := by kernel_rfl
theorem ot11_10 : Yes (C120 40 [(th11, false), (th10, false)]) := by kernel_rfl
theorem ot11_11 : Yes (C120 40 [(th11, false), (th11, false)]) := by kernel_rfl
theorem ot11_12 : Yes (C120 40 [(th11, false), (th12, false)]) := by kernel_rfl
theorem ot11 : ∀ (d : Nat) (w : W), things[d]? = some w → Yes (C120 40 [(th11, false), (w, false)])
  | 0, _, h => by cases h; exact ot11_0
  | 1, _, h => by cases h; exact ot11_1
  | 2, _, h => by cases h; exact ot11_2
  | 3, _, h => by cases h; exact ot11_3
  | 4, _, h => by cases h; exact ot11_4
  | 5, _, h => by cases h; exact ot11_5
  | 6, _, h => by cases h; exact ot11_6
  | 7, _, h => by cases h; exact ot11_7
  | 8, _, h => by cases h; exact ot11_8
  | 9, _, h => by cases h; exact ot11_9
  | 10, _, h => by cases h; exact ot11_10
  | 11, _, h => by cases h; exact ot11_11
  | 12, _, h => by cases h; exact ot11_12
  | n + 13, _, h => by cases h
theorem ot12_0 : Yes (C120 40 [(th12, false), (th0, false)]) := by kernel_rfl
theorem ot12_1 : Yes (C120 40 [(th12, false), (th1, false)]) := by kernel_rfl
theorem ot12_2 : Yes (C120 40 [(th12, false), (th2, false)]) := by kernel_rfl
theorem ot12_3 : Yes (C120 40 [(th12, false), (th3, false)]) := by kernel_rfl
theorem ot12_4 : Yes (C120 40 [(th12, false), (th4, false)]) := by kernel_rfl
theorem ot12_5 : Yes (C120 40 [(th12, false), (th5, false)]) := by kernel_rfl
theorem ot12_6 : Yes (C120 40 [(th12, false), (th6, false)]) := by kernel_rfl
theorem ot12_7 : Yes (C120 40 [(th12, false), (th7, false)]) := by kernel_rfl
theorem ot12_8 : Yes (C120 40 [(th12, false), (th8, false)]) := by kernel_rfl
theorem ot12_9 : Yes (C120 40 [(th12, false), (th9, false)]) := by kernel_rfl
theorem ot12_10 : Yes (C120 40 [(th12, false), (th10, false)]) := by kernel_rfl
theorem ot12_11 : Yes (C120 40 [(th12, false), (th11, false)]) := by kernel_rfl
theorem ot12_12 : Yes (C120 40 [(th12, false), (th12, false)]) := by kernel_rfl
theorem ot12 : ∀ (d : Nat) (w : W), things[d]? = some w → Yes (C120 40 [(th12, false), (w, false)])
  | 0, _, h => by cases h; exact ot12_0
  | 1, _, h => by cases h; exact ot12_1
  | 2, _, h => by cases h; exact ot12_2
  | 3, _, h => by cases h; exact ot12_3
  | 4, _, h => by cases h; exact ot12_4
  | 5, _, h => by cases h; exact ot12_5
  | 6, _, h => by cases h; exact ot12_6
  | 7, _, h => by cases h; exact ot12_7
  | 8, _, h => by cases h; exact ot12_8
  | 9, _, h => by cases h; exact ot12_9
  | 10, _, h => by cases h; exact ot12_10
  | 11, _, h => by cases h; exact ot12_11
  | 12, _, h => by cases h; exact ot12_12
  | n + 13, _, h => by cases h
theorem ot_ok : ∀ (d : Nat) (w : W), things[d]? = some w → ∀ (e : Nat) (u : W), things[e]? = some u → Yes (C120 40 [(w, false), (u, false)])
  | 0, _, h => by cases h; exact ot0
  | 1, _, h => by cases h; exact ot1
  | 2, _, h => by cases h; exact ot2
  | 3, _, h => by cases h; exact ot3
  | 4, _, h => by cases h; exact ot4
  | 5, _, h => by cases h; exact ot5
  | 6, _, h => by cases h; exact ot6
  | 7, _, h => by cases h; exact ot7
  | 8, _, h => by cases h; exact ot8
  | 9, _, h => by cases h; exact ot9
  | 10, _, h => by cases h; exact ot10
  | 11, _, h => by cases h; exact ot11
  | 12, _, h => by cases h; exact ot12
  | n + 13, _, h => by cases h
end Ov
end
end
section
set_option Elab.async false
set_option linter.all false
set_option maxRecDepth 100000
set_option maxHeartbeats 1000000
noncomputable section
namespace Ov
open PySem L2 Ev
set_option autoImplicit false

theorem Wnil {C : Cl} {I : Nat → List Bool} {Q : Fl → Nat → Prop} {sl : Sl} {b : Nat} (h : Q (.nx sl) b) : WB (exSs C I cn .nil sl) b Q := by
  rw [exSs]
  exact Wok rfl h
abbrev dr1 : Ex := .call 35 (.cons (.var 1) (.cons (.var 2) .nil))
def s1 : Sm := .ite (.or (.cons (.not (.call 38 (.cons dr1 .nil))) (.cons (.not (.call 39 (.cons dr1 .nil))) .nil))) (.cons (.ret (.con (.bl false))) .nil) .nil
def s2 : Sm := .ite (.not (.call 40 (.cons dr1 (.cons dr1 .nil)))) (.cons (.ret (.con (.bl false))) .nil) .nil
theorem body_is : forB (smAt lw.post 1) = .cons s1 (.cons s2 .nil) := by rfl
theorem io38 : ioOf fks 38 = [false] := rfl
theorem io39 : ioOf fks 39 = [false] := rfl
theorem io40 : ioOf fks 40 = [false, false] := rfl
theorem sw1 {c b : Nat} {fr : Bool} {a3 a4 : Option R} (hb : 2 ≤ b) : WB (exS C120 (ioOf fks) cn s1 (sL c fr a3 a4)) b (fun f b' => f = .nx (sL c false a3 a4) ∧ b ≤ b' + 2) := by
  unfold s1
  simp -implicitDefEqProofs (maxSteps := 3000000) only [exSs, exS, evE, evL, evO, evI, sSeq, sAsg, sExp, sApp, sPut, sRet, sRetv, sIte, sPar, lPar, moveS, kOp, kChain, kIdx, kLst, Ev.kTup, kCon, kVar, kNot, kAnd, kOr, kIte, kBi, kCall, kSli, oInt, kNeg, kConv, lA, lH, lAnd, lOr, lArgs, ioTake, putBack, own, hd, isV, getAll, hget_val, hget_slot, T.bind_ok, fz, rd0, rdS, sett0, settS, setG_nm, setGs_nil, setGs_cons, setG_tp, cond_true, cond_false, boolOf, bopsI, op2, two_ii, subW, ltW, leW, gtW, geW, eqR, neR, yes, nay, biW, bi1, bi2, isR, isnotR, isT1, isI1, isB1, isS1, yes, isInst, lenW, List.map_cons, List.map_nil, List.cons_append, List.nil_append, List.replicate_succ, List.replicate_zero, Nat.reduceSub, Bool.not_true, Bool.not_false, ite_true, ite_false, iSeq, seqOf, List.headD_cons, List.tail_cons, guard_tt, bind_as, io35, io38]
  refine Wbind (of_wb (n := 119) (xs := things) (by decide) (by decide) (by omega) fun d w hw => ?_)
  have h38 : callN fks cn (119 + 1) 38 [(w, false)] = .ok ((.bl true, false), []) := pl_ok d w hw
  simp -implicitDefEqProofs (maxSteps := 3000000) only [exSs, exS, evE, evL, evO, evI, sSeq, sAsg, sExp, sApp, sPut, sRet, sRetv, sIte, sPar, lPar, moveS, kOp, kChain, kIdx, kLst, Ev.kTup, kCon, kVar, kNot, kAnd, kOr, kIte, kBi, kCall, kSli, oInt, kNeg, kConv, lA, lH, lAnd, lOr, lArgs, ioTake, putBack, own, hd, isV, getAll, hget_val, hget_slot, T.bind_ok, fz, rd0, rdS, sett0, settS, setG_nm, setGs_nil, setGs_cons, setG_tp, cond_true, cond_false, boolOf, bopsI, op2, two_ii, subW, ltW, leW, gtW, geW, eqR, neR, yes, nay, biW, bi1, bi2, isR, isnotR, isT1, isI1, isB1, isS1, yes, isInst, lenW, List.map_cons, List.map_nil, List.cons_append, List.nil_append, List.replicate_succ, List.replicate_zero, Nat.reduceSub, Bool.not_true, Bool.not_false, ite_true, ite_false, iSeq, seqOf, List.headD_cons, List.tail_cons, guard_tt, bind_as, io35, io38, io39, h38]
  refine Wbind (of_wb (n := 119) (xs := things) (by decide) (by decide) (by omega) fun e u hu => ?_)
  have h39 : callN fks cn (119 + 1) 39 [(u, false)] = .ok ((.bl true, false), []) := pa_ok e u hu
  simp -implicitDefEqProofs (maxSteps := 3000000) only [exSs, exS, evE, evL, evO, evI, sSeq, sAsg, sExp, sApp, sPut, sRet, sRetv, sIte, sPar, lPar, moveS, kOp, kChain, kIdx, kLst, Ev.kTup, kCon, kVar, kNot, kAnd, kOr, kIte, kBi, kCall, kSli, oInt, kNeg, kConv, lA, lH, lAnd, lOr, lArgs, ioTake, putBack, own, hd, isV, getAll, hget_val, hget_slot, T.bind_ok, fz, rd0, rdS, sett0, settS, setG_nm, setGs_nil, setGs_cons, setG_tp, cond_true, cond_false, boolOf, bopsI, op2, two_ii, subW, ltW, leW, gtW, geW, eqR, neR, yes, nay, biW, bi1, bi2, isR, isnotR, isT1, isI1, isB1, isS1, yes, isInst, lenW, List.map_cons, List.map_nil, List.cons_append, List.nil_append, List.replicate_succ, List.replicate_zero, Nat.reduceSub, Bool.not_true, Bool.not_false, ite_true, ite_false, iSeq, seqOf, List.headD_cons, List.tail_cons, guard_tt, bind_as, io39, h39]
  exact Wok rfl ⟨rfl, by omega⟩
theorem sw2 {c b : Nat} {fr : Bool} {a3 a4 : Option R} (hb : 2 ≤ b) : WB (exS C120 (ioOf fks) cn s2 (sL c fr a3 a4)) b (fun f b' => f = .nx (sL c false a3 a4) ∧ b ≤ b' + 2) := by
  unfold s2
  simp -implicitDefEqProofs (maxSteps := 3000000) only [exSs, exS, evE, evL, evO, evI, sSeq, sAsg, sExp, sApp, sPut, sRet, sRetv, sIte, sPar, lPar, moveS, kOp, kChain, kIdx, kLst, Ev.kTup, kCon, kVar, kNot, kAnd, kOr, kIte, kBi, kCall, kSli, oInt, kNeg, kConv, lA, lH, lAnd, lOr, lArgs, ioTake, putBack, own, hd, isV, getAll, hget_val, hget_slot, T.bind_ok, fz, rd0, rdS, sett0, settS, setG_nm, setGs_nil, setGs_cons, setG_tp, cond_true, cond_false, boolOf, bopsI, op2, two_ii, subW, ltW, leW, gtW, geW, eqR, neR, yes, nay, biW, bi1, bi2, isR, isnotR, isT1, isI1, isB1, isS1, yes, isInst, lenW, List.map_cons, List.map_nil, List.cons_append, List.nil_append, List.replicate_succ, List.replicate_zero, Nat.reduceSub, Bool.not_true, Bool.not_false, ite_true, ite_false, iSeq, seqOf, List.headD_cons, List.tail_cons, guard_tt, bind_as, io35, io40]
  refine Wbind (of_wb (n := 119) (xs := things) (by decide) (by decide) (by omega) fun d w hw => ?_)
  simp -implicitDefEqProofs (maxSteps := 3000000) only [exSs, exS, evE, evL, evO, evI, sSeq, sAsg, sExp, sApp, sPut, sRet, sRetv, sIte, sPar, lPar, moveS, kOp, kChain, kIdx, kLst, Ev.kTup, kCon, kVar, kNot, kAnd, kOr, kIte, kBi, kCall, kSli, oInt, kNeg, kConv, lA, lH, lAnd, lOr, lArgs, ioTake, putBack, own, hd, isV, getAll, hget_val, hget_slot, T.bind_ok, fz, rd0, rdS, sett0, settS, setG_nm, setGs_nil, setGs_cons, setG_tp, cond_true, cond_false, boolOf, bopsI, op2, two_ii, subW, ltW, leW, gtW, geW, eqR, neR, yes, nay, biW, bi1, bi2, isR, isnotR, isT1, isI1, isB1, isS1, yes, isInst, lenW, List.map_cons, List.map_nil, List.cons_append, List.nil_append, List.replicate_succ, List.replicate_zero, Nat.reduceSub, Bool.not_true, Bool.not_false, ite_true, ite_false, iSeq, seqOf, List.headD_cons, List.tail_cons, guard_tt, bind_as, io35]
  refine Wbind (of_wb (n := 119) (xs := things) (by decide) (by decide) (by omega) fun e u hu => ?_)
  have h40 : callN fks cn (119 + 1) 40 [(w, false), (u, false)] = .ok ((.bl true, false), []) := ot_ok d w hw e u hu
  simp -implicitDefEqProofs (maxSteps := 3000000) only [exSs, exS, evE, evL, evO, evI, sSeq, sAsg, sExp, sApp, sPut, sRet, sRetv, sIte, sPar, lPar, moveS, kOp, kChain, kIdx, kLst, Ev.kTup, kCon, kVar, kNot, kAnd, kOr, kIte, kBi, kCall, kSli, oInt, kNeg, kConv, lA, lH, lAnd, lOr, lArgs, ioTake, putBack, own, hd, isV, getAll, hget_val, hget_slot, T.bind_ok, fz, rd0, rdS, sett0, settS, setG_nm, setGs_nil, setGs_cons, setG_tp, cond_true, cond_false, boolOf, bopsI, op2, two_ii, subW, ltW, leW, gtW, geW, eqR, neR, yes, nay, biW, bi1, bi2, isR, isnotR, isT1, isI1, isB1, isS1, yes, isInst, lenW, List.map_cons, List.map_nil, List.cons_append, List.nil_append, List.replicate_succ, List.replicate_zero, Nat.reduceSub, Bool.not_true, Bool.not_false, ite_true, ite_false, iSeq, seqOf, List.headD_cons, List.tail_cons, guard_tt, bind_as, io40, h40]
  exact Wok rfl ⟨rfl, by omega⟩
theorem turn00 {c b : Nat} {fr : Bool} {a3 a4 : Option R} (hb : 4 ≤ b) : WB (exSs C120 (ioOf fks) cn (forB (smAt lw.post 1)) (sL c fr a3 a4)) b (fun f b' => f = .nx (sL c false a3 a4) ∧ b ≤ b' + 4) := by
  rw [body_is]
  refine Wstep0 (Wmono (sw1 (by omega)) ?_)
  rintro f b1 ⟨rfl, h1⟩
  refine ⟨_, rfl, Wstep0 (Wmono (sw2 (by omega)) ?_)⟩
  rintro f b2 ⟨rfl, h2⟩
  exact ⟨_, rfl, Wnil ⟨rfl, by omega⟩⟩
def s3 : Sm := .asg (.nm 4) (.mkE false 26 [] (.cons dr1 .nil))
theorem post_is : lw.post = .cons (smAt lw.post 0) (.cons (.for_ (.nm 3) (.rng1 (.con (.int 5))) (forB (smAt lw.post 1))) (.cons s3 (smFrom lw.post 3))) := by rfl
theorem a26 : argsN 26 = 1 := rfl
theorem n26 : errN 26 = 0 := rfl
theorem sw3 {c b : Nat} {fr : Bool} {a3 a4 : Option R} (hb : 1 ≤ b) : WB (exS C120 (ioOf fks) cn s3 (sL c fr a3 a4)) b (fun f b' => f = .nx (sL c false a3 (some (.err 26 [], false))) ∧ b ≤ b' + 1) := by
  unfold s3
  simp -implicitDefEqProofs (maxSteps := 3000000) only [exSs, exS, evE, evL, evO, evI, sSeq, sAsg, sExp, sApp, sPut, sRet, sRetv, sIte, sPar, lPar, moveS, kOp, kChain, kIdx, kLst, Ev.kTup, kCon, kVar, kNot, kAnd, kOr, kIte, kBi, kCall, kSli, oInt, kNeg, kConv, lA, lH, lAnd, lOr, lArgs, ioTake, putBack, own, hd, isV, getAll, hget_val, hget_slot, T.bind_ok, fz, rd0, rdS, sett0, settS, setG_nm, setGs_nil, setGs_cons, setG_tp, cond_true, cond_false, boolOf, bopsI, op2, two_ii, subW, ltW, leW, gtW, geW, eqR, neR, yes, nay, biW, bi1, bi2, isR, isnotR, isT1, isI1, isB1, isS1, yes, isInst, lenW, List.map_cons, List.map_nil, List.cons_append, List.nil_append, List.replicate_succ, List.replicate_zero, Nat.reduceSub, Bool.not_true, Bool.not_false, ite_true, ite_false, iSeq, seqOf, List.headD_cons, List.tail_cons, guard_tt, bind_as, io35, kMkE]
  refine Wbind (of_wb (n := 119) (xs := things) (by decide) (by decide) (by omega) fun d w hw => ?_)
  exact Wok rfl ⟨rfl, by omega⟩
theorem rng5 : (rngL 0 5).length = 5 := rfl
theorem law_ok00 (c : Nat) (_ : c ≤ 63) : (lawN fks cn lw 120 c).wb T.noX BIG (fun r _ => r = (.bl true, false)) := by
  refine WB.h ?_
  have hB : 21 ≤ BIG := by decide +kernel
  unfold lawN
  refine Wbind ?_
  refine Wok (a := Fl.nx (some (.scr c, false) :: List.replicate (lw.ns - 1) none)) rfl ?_
  show WB ((rd _ 0).bind _) _ _
  refine Wbind (Wok rfl ?_)
  have hsc : isScr c (W.scr c, false) = true := Nat.beq_refl c
  rw [guard_t hsc]
  show WB ((exSs C120 (ioOf fks) cn lw.post [some (.scr c, false), some (.orc, false), none, none, none]).bind fin2) BIG _
  rw [post_is]
  refine Wbind (Wstep01 (pre0 c) (Wstep0 ?_))
  rw [exS, sFor]
  refine Wbind (Wok (a := (rngL 0 5, sL c true none none)) (by kernel_rfl) ?_)
  refine Wfor (k := 0) (P := fun i sl b1 => ∃ fr a3, BIG ≤ b1 + 4 * i ∧ sl = sL c fr a3 none) ⟨true, none, by omega, rfl⟩ (fun i x sl b1 ex hp => ?_) (fun sl b1 hp => ?_)
  · have il : i < 5 := by
      have y : i < (rngL 0 5).length := (List.getElem?_eq_some_iff.mp ex).1
      have z : (rngL 0 5).length = 5 := rng5
      omega
    rw [Nat.zero_add] at hp ⊢
    obtain ⟨fr, a3, hb1, rfl⟩ := hp
    show WB ((setG (.nm 3) x false (sL c fr a3 none)).bind _) b1 _
    refine Wbind (Wok (a := sL c fr (some (x, false)) none) rfl ?_)
    refine Wmono (turn00 (by omega)) ?_
    rintro f b2 ⟨rfl, h2⟩
    exact ⟨_, rfl, _, _, by omega, rfl⟩
  · obtain ⟨fr, a3, hb1, rfl⟩ := hp
    have hb1 : BIG ≤ b1 + 4 * 5 := by
      have z : (rngL 0 5).length = 5 := rng5
      rw [z] at hb1
      omega
    refine ⟨_, rfl, Wstep0 (Wmono (sw3 (by omega)) ?_)⟩
    rintro f b2 ⟨rfl, h2⟩
    exact ⟨_, rfl, Wok (post3 c false a3) (Wok rfl rfl)⟩
theorem whole : PySem.Challenge.rw_openverbs_k00_errors_of_all_parts.Holds := holds_of fun c hc => law_ok00 c hc
end Ov
end
end
theorem PySem.Challenge.cw_openverbs_k00_errors_of_all_parts_holds : PySem.Challenge.rw_openverbs_k00_errors_of_all_parts.Holds := by
  exact Ov.whole
