import PyProof.Rows.All
import Wide.All
import OpenK.AllK
import Wide.FinOn
import HandS.ForMost
import HandS.HeadHook2
import HandS.Exc
import HandS.TupAny
import HandS.IsInst
import HandS.FStr
import HandS.ClsMeth
import HandS.CallSlots
import KE.KSuper
import HandS.Star
import HandS.Style
import HandS.Text
import HandS.Iter
import HandS.Zip
import HandS.Defaults
import KE.KCallOwn
import HandS.MakeKwOnly
import HandS.SlotsOwn
import HandS.RaiseMore
import HandS.Head2
import HandS.HeadEnd
import KE.KStateDown
import HandS.Head0
import HandS.Head1
import PySem.Challenge.RW_borderlives_k05_rows_by_names
set_option Elab.async false
set_option linter.all false
set_option maxRecDepth 100000
/-! BL1: a small evaluator of its own: values, objects, heap, decision trees, terms, and how they run. -/
namespace BL
open PySem L2

/-! ### values, objects, the heap -/
/-- a value: tuples are held inline; ref: an object of the logical heap; glo: what a module's name stands for (a def, a class), by number; scr: the script -/
inductive W where
  | non | bl (b : Bool) | int (i : Int) | str (x : Str) | tup (ws : List W) | ref (a : Nat) | glo (x : Nat) | ty (n : String) | scr (ns : List Int)
  deriving Inhabited

/-- an object: a list, an instance by its class's number, its fields by the numbers of their names, the source of draws (its outer and its inner list) -/
inductive O where
  | lst (ws : List W)
  | ins (c : Nat) (fs : List (Nat × W))
  | deal (j : Nat)
  | dealIn
  deriving Inhabited

inductive Tre where
  | lf
  | nd (o : Option O) (l r : Tre)
  deriving Inhabited

def Tre.get : Tre → Nat → Option O
  | .lf, _ => none
  | .nd o l r, i => bif Nat.beq i 0 then o else bif Nat.beq (i % 2) 1 then l.get (i / 2) else r.get (i / 2 - 1)

def Tre.put : Nat → Tre → Nat → O → Tre
  | 0, t, _, _ => t
  | f + 1, .lf, i, o => bif Nat.beq i 0 then .nd (some o) .lf .lf else bif Nat.beq (i % 2) 1 then .nd none (Tre.put f .lf (i / 2) o) .lf else .nd none .lf (Tre.put f .lf (i / 2 - 1) o)
  | f + 1, .nd x l r, i, o => bif Nat.beq i 0 then .nd (some o) l r else bif Nat.beq (i % 2) 1 then .nd x (Tre.put f l (i / 2) o) r else .nd x l (Tre.put f r (i / 2 - 1) o)

theorem beq_t {i j : Nat} (h : i = j) : Nat.beq i j = true := by subst h; exact Nat.beq_refl i
theorem beq_f {i j : Nat} (h : i ≠ j) : Nat.beq i j = false := by
  cases e : Nat.beq i j with
  | false => rfl
  | true => exact absurd (Nat.eq_of_beq_eq_true e) h

theorem Tre.get_put : ∀ (f : Nat) (t : Tre) (i : Nat) (o : O) (j : Nat), i < f → (Tre.put f t i o).get j = if j = i then some o else t.get j
  | 0, _, _, _, _, h => absurd h (Nat.not_lt_zero _)
  | f + 1, t, i, o, j, h => by
    have ih := Tre.get_put f
    by_cases i0 : i = 0
    · subst i0
      cases t with
      | lf =>
        simp only [Tre.put, beq_t rfl, cond_true]
        by_cases j0 : j = 0
        · subst j0; simp only [Tre.get, beq_t rfl, cond_true, if_true]
        · simp only [Tre.get, beq_f j0, cond_false, if_neg j0]
          by_cases e : j % 2 = 1
          · simp only [beq_t e, cond_true]
          · simp only [beq_f e, cond_false]
      | nd x l r =>
        simp only [Tre.put, beq_t rfl, cond_true]
        by_cases j0 : j = 0
        · subst j0; simp only [Tre.get, beq_t rfl, cond_true, if_true]
        · simp only [Tre.get, beq_f j0, cond_false, if_neg j0]
    · by_cases io : i % 2 = 1
      · have hlt : i / 2 < f := by omega
        cases t with
        | lf =>
          simp only [Tre.put, beq_f i0, beq_t io, cond_true, cond_false]
          by_cases j0 : j = 0
          · subst j0; simp only [Tre.get, beq_t rfl, cond_true, if_neg (Ne.symm i0)]
          · by_cases jo : j % 2 = 1
            · simp only [Tre.get, beq_f j0, beq_t jo, cond_true, cond_false, ih _ _ _ _ hlt]
              by_cases e : j = i
              · subst e; rw [if_pos rfl, if_pos rfl]
              · rw [if_neg (by omega), if_neg e]
            · simp only [Tre.get, beq_f j0, beq_f jo, cond_false]
              rw [if_neg (by intro e; subst e; exact jo io)]
        | nd x l r =>
          simp only [Tre.put, beq_f i0, beq_t io, cond_true, cond_false]
          by_cases j0 : j = 0
          · subst j0; simp only [Tre.get, beq_t rfl, cond_true, if_neg (Ne.symm i0)]
          · by_cases jo : j % 2 = 1
            · simp only [Tre.get, beq_f j0, beq_t jo, cond_true, cond_false, ih _ _ _ _ hlt]
              by_cases e : j = i
              · subst e; rw [if_pos rfl, if_pos rfl]
              · rw [if_neg (by omega), if_neg e]
            · simp only [Tre.get, beq_f j0, beq_f jo, cond_false]
              rw [if_neg (by intro e; subst e; exact jo io)]
      · have hlt : i / 2 - 1 < f := by omega
        cases t with
        | lf =>
          simp only [Tre.put, beq_f i0, beq_f io, cond_false]
          by_cases j0 : j = 0
          · subst j0; simp only [Tre.get, beq_t rfl, cond_true, if_neg (Ne.symm i0)]
          · by_cases jo : j % 2 = 1
            · simp only [Tre.get, beq_f j0, beq_t jo, cond_true, cond_false]
              rw [if_neg (by intro e; subst e; exact io jo)]
            · simp only [Tre.get, beq_f j0, beq_f jo, cond_false, ih _ _ _ _ hlt]
              by_cases e : j = i
              · subst e; rw [if_pos rfl, if_pos rfl]
              · rw [if_neg (by omega), if_neg e]
        | nd x l r =>
          simp only [Tre.put, beq_f i0, beq_f io, cond_false]
          by_cases j0 : j = 0
          · subst j0; simp only [Tre.get, beq_t rfl, cond_true, if_neg (Ne.symm i0)]
          · by_cases jo : j % 2 = 1
            · simp only [Tre.get, beq_f j0, beq_t jo, cond_true, cond_false]
              rw [if_neg (by intro e; subst e; exact io jo)]
            · simp only [Tre.get, beq_f j0, beq_f jo, cond_false, ih _ _ _ _ hlt]
              by_cases e : j = i
              · subst e; rw [if_pos rfl, if_pos rfl]
              · rw [if_neg (by omega), if_neg e]

structure Hc where
  next : Nat
  t : Tre
  deriving Inhabited
def Hc.get (C : Hc) (i : Nat) : Option O := bif Nat.blt i C.next then C.t.get i else none
def Hc.put (C : Hc) (i : Nat) (o : O) : Hc := ⟨C.next, Tre.put (i + 1) C.t i o⟩
def Hc.new (C : Hc) (o : O) : Hc := ⟨C.next + 1, Tre.put (C.next + 1) C.t C.next o⟩
def Hc.emp : Hc := ⟨0, .lf⟩
theorem blt_t {i j : Nat} (h : i < j) : Nat.blt i j = true := Nat.ble_eq_true_of_le h
theorem blt_f {i j : Nat} (h : ¬ i < j) : Nat.blt i j = false := by
  cases e : Nat.blt i j with
  | false => rfl
  | true => exact absurd (Nat.le_of_ble_eq_true e) h
theorem Hc.lt_of_get {C : Hc} {i : Nat} {o : O} (h : C.get i = some o) : i < C.next := by
  unfold Hc.get at h
  by_cases q : i < C.next
  · exact q
  · rw [blt_f q] at h; cases h
theorem Hc.get_put (C : Hc) (i : Nat) (o : O) (j : Nat) (hi : i < C.next) : (C.put i o).get j = if j = i then some o else C.get j := by
  unfold Hc.get
  show (bif Nat.blt j C.next then (Tre.put (i + 1) C.t i o).get j else none) = _
  rw [Tre.get_put _ _ _ _ _ (Nat.lt_succ_self i)]
  by_cases e : j = i
  · subst e
    rw [if_pos rfl, if_pos rfl, blt_t hi]
    rfl
  · rw [if_neg e, if_neg e]
theorem Hc.get_new (C : Hc) (o : O) (j : Nat) : (C.new o).get j = if j = C.next then some o else C.get j := by
  unfold Hc.get
  show (bif Nat.blt j (C.next + 1) then (Tre.put (C.next + 1) C.t C.next o).get j else none) = _
  rw [Tre.get_put _ _ _ _ _ (Nat.lt_succ_self _)]
  by_cases e : j = C.next
  · subst e
    rw [if_pos rfl, if_pos rfl, blt_t (Nat.lt_succ_self _)]
    rfl
  · rw [if_neg e, if_neg e]
    by_cases h : j < C.next
    · rw [blt_t h, blt_t (Nat.lt_succ_of_lt h)]
    · rw [blt_f h, blt_f (by omega)]
theorem Hc.next_put (C : Hc) (i : Nat) (o : O) : (C.put i o).next = C.next := rfl
theorem Hc.next_new (C : Hc) (o : O) : (C.new o).next = C.next + 1 := rfl

/-! ### decision trees -/
inductive Tr (α : Type) where
  | ret (a : α)
  | no
  | drw (n : Nat) (k : Nat → Tr α)
def Tr.bind {α β : Type} : Tr α → (α → Tr β) → Tr β
  | .ret a, f => f a
  | .no, _ => .no
  | .drw n k, f => .drw n fun r => (k r).bind f
def Tr.wp {α : Type} : Tr α → (α → Prop) → Prop
  | .ret a, Q => Q a
  | .no, _ => False
  | .drw n k, Q => ∀ r, r < n → (k r).wp Q
theorem Tr.wp_mono {α : Type} {P Q : α → Prop} (h : ∀ a, P a → Q a) : ∀ {t : Tr α}, t.wp P → t.wp Q
  | .ret a, x => h a x
  | .no, x => x
  | .drw n k, x => fun r hr => Tr.wp_mono h (x r hr)
theorem Tr.wp_bind {α β : Type} {f : α → Tr β} {Q : β → Prop} : ∀ {t : Tr α}, (t.bind f).wp Q ↔ t.wp fun a => (f a).wp Q
  | .ret a => Iff.rfl
  | .no => Iff.rfl
  | .drw n k => ⟨fun x r hr => Tr.wp_bind.mp (x r hr), fun x r hr => Tr.wp_bind.mpr (x r hr)⟩
theorem Tr.bind_assoc {α β γ : Type} {f : α → Tr β} {g : β → Tr γ} : ∀ t : Tr α, (t.bind f).bind g = t.bind fun a => (f a).bind g
  | .ret a => rfl
  | .no => rfl
  | .drw n k => by
    show Tr.drw n _ = Tr.drw n _
    congr 1
    funext r
    exact Tr.bind_assoc (k r)
/-- all ends, by evaluation -/
def Tr.all {α : Type} (p : α → Bool) : Tr α → Bool
  | .ret a => p a
  | .no => false
  | .drw n k => (List.range n).all fun r => (k r).all p
theorem Tr.wp_of_all {α : Type} {p : α → Bool} : ∀ {t : Tr α}, t.all p = true → t.wp fun a => p a = true
  | .ret a, h => h
  | .no, h => by cases h
  | .drw n k, h => fun r hr => Tr.wp_of_all (List.all_eq_true.mp h r (List.mem_range.mpr hr))

/-- an own exception: its class's name, its fields -/
structure Xn where
  cls : Nat
  fs : List (Nat × W)
inductive XR (α : Type) where
  | ok (a : α) (C : Hc)
  | exc (x : Xn) (C : Hc)
abbrev Env := List (Option W)
inductive XF where
  | nx (v : BL.Env) (C : Hc)
  | rt (w : W) (C : Hc)
  | br (v : BL.Env) (C : Hc)
  | ct (v : BL.Env) (C : Hc)
  | exc (x : Xn) (v : BL.Env) (C : Hc)

abbrev M (α : Type) := Hc → Tr (XR α)
def M.pure {α : Type} (a : α) : M α := fun C => .ret (.ok a C)
def M.no {α : Type} : M α := fun _ => .no
def M.bind {α β : Type} (m : M α) (f : α → M β) : M β := fun C => (m C).bind fun r => match r with
  | .ok a C1 => f a C1
  | .exc x C1 => .ret (.exc x C1)
def M.opt {α : Type} : Option α → M α
  | some a => M.pure a
  | none => M.no
/-- a new object -/
def M.new (o : O) : M W := fun C => .ret (.ok (.ref C.next) (C.new o))
def M.get (a : Nat) : M O := fun C => match C.get a with
  | some o => .ret (.ok o C)
  | none => .no
def M.put (a : Nat) (o : O) : M Unit := fun C => .ret (.ok () (C.put a o))
end BL
set_option Elab.async false
set_option linter.all false
set_option maxRecDepth 100000
/-! BL2: terms and how they run. -/
namespace BL
open PySem L2

/-! ### terms -/
/-- built-in types -/
inductive Ty0 where
  | none | bool | int | str | tuple | list
  deriving DecidableEq
def Ty0.nm : Ty0 → String
  | .none => "NoneType"
  | .bool => "bool"
  | .int => "int"
  | .str => "str"
  | .tuple => "tuple"
  | .list => "list"
inductive CT where
  | ty (n : Ty0) | cls (x : Nat)
/-- a target: a slot, or several at once -/
inductive Tg where
  | nm (i : Nat) | tp (is : List Nat)
abbrev Ky := Str × Option Str
/-- built-in defs, methods of built-in things -/
inductive Bl where
  | len | tuple | list | all | any | sum | int | str | abs
inductive Bm where
  | join | append | extend
inductive Bm0 where
  | pop

inductive E where
  | var (i : Nat) | cst (w : W) | glo (x : Nat) | abs
  | tup (es : List E) | lst (es : List E) | star (e : E)
  | bin (op : Operator) (a b : E) | cmp (op : CmpOp) (a b : E) | cmp2 (o p : CmpOp) (a b c : E) | isN (neg : Bool) (a : E)
  | not (a : E) | boo (op : BoolOp) (es : List E) | neg (a : E) | ite (c a b : E)
  | call (f : Nat) (es : List E) | callk (f : Nat) (es : List E) (ks : List Str) (kes : List E)
  | mk (c : Nat) (es : List E) | mkk (c : Nat) (es : List E) (ks : List Str) (kes : List E)
  | blt (f : Bl) (es : List E) | isi (e : E) (tupled : Bool) (cs : List CT)
  | meth (o : E) (m : Nat) (es : List E) | bm (o : E) (b : Bm) (es : List E) | bm0 (o : E) (b : Bm0) | att (o : E) (f : Nat)
  | sub (o i : E) | slc (o lo hi : E) | rev (o : E)
  | comp (e : E) (tg : Tg) (it : E) (cs : List E) (own : List (Str × Nat))
  | fst (es : List E) | fmt (e : E)
  | rng1 (a : E) | rng2 (a b : E) | enm (a : E) | zip (a b : E)
  | never
inductive S where
  | asg (tg : Tg) (e : E) | par (is : List Nat) (es : List E) | fld (o : E) (f : Nat) (e : E) | setI (o i e : E)
  | expr (e : E) | sup (d f : Nat) (es : List E)
  | ife (c : E) (a b : List S) | for_ (tg : Tg) (it : E) (body : List S) | whl (c : E) (body : List S)
  | ret (e : E) | retN | cont | brk | pass | never

/-- a def: its kind (0 plain, 1 a draw, 2 the making of a source of draws), where it stands, parameters, all its names by slot (parameters first), defaults, body -/
structure Fd where
  kind : Nat
  key : Ky
  ps : List Str
  N : List Str
  dfl : List W
  body : List S
/-- a class: its kind (0 plain, 1 an exception), its name, its ancestors of the text's own (itself first), its __init__, __eq__, __str__, its methods by the numbers of their names -/
structure Cd where
  kind : Nat
  name : Str
  mro : List Nat
  init : Nat
  eq : Nat
  str : Nat
  mth : List (Nat × Nat)
/-- defs, classes, the names of fields and methods, constants of the module with their values -/
structure Sg where
  fns : List Fd
  cls : List Cd
  nms : List Str
  cst : List (Str × W)

/-! ### small things -/
def lk {α : Type} (x : Nat) : List (Nat × α) → Option α
  | [] => none
  | p :: r => bif Nat.beq p.1 x then some p.2 else lk x r
def lkS {α : Type} (x : Str) : List (Str × α) → Option α
  | [] => none
  | p :: r => if p.1 = x then some p.2 else lkS x r
/-- a field stored (HandS.putF for W) -/
def putW (f : Nat) (w : W) : List (Nat × W) → List (Nat × W)
  | [] => [(f, w)]
  | p :: r => bif Nat.beq p.1 f then (f, w) :: r else p :: putW f w r
def setE (v : Env) (i : Nat) (w : W) : Env := v.set i (some w)
def wipeE (v : Env) : List Nat → Env
  | [] => v
  | i :: is => (wipeE v is).set i none
def setEs : Env → List Nat → List W → Option Env
  | v, [], [] => some v
  | v, i :: is, w :: ws => setEs (v.set i (some w)) is ws
  | _, _, _ => none
def setTg (tg : Tg) (w : W) (v : Env) : Option Env := match tg with
  | .nm i => some (v.set i (some w))
  | .tp is => match w with
    | .tup ws => setEs v is ws
    | _ => none
def LINE : Nat := 16777216
/-- a size below the line -/
def fitB (n : Nat) : Bool := Nat.ble n LINE
def M.chk (b : Bool) : M Unit := fun C => bif b then .ret (.ok () C) else .no
/-- no exception -/
def M.nox {α : Type} (m : M α) : M α := fun C => (m C).bind fun r => match r with
  | .ok a C1 => .ret (.ok a C1)
  | .exc _ _ => .no

/-! ### data -/
def rdL (f : W → Option PyData) : List W → Option (List PyData)
  | [] => some []
  | w :: ws => (match f w with
    | some d => (match rdL f ws with
      | some ds => some (d :: ds)
      | none => none)
    | none => none)
def rdW (C : Hc) : Nat → W → Option PyData
  | 0, w => (match w with
    | .non => some .none
    | .bl b => some (.bool b)
    | .int i => some (.int i)
    | .str x => some (.str x)
    | _ => none)
  | n + 1, w => (match w with
    | .non => some .none
    | .bl b => some (.bool b)
    | .int i => some (.int i)
    | .str x => some (.str x)
    | .tup ws => (rdL (rdW C n) ws).map .tuple
    | .ref a => (match C.get a with
      | some (.lst ws) => (rdL (rdW C n) ws).map .list
      | _ => none)
    | _ => none)
/-- small enough to be read -/
def DEEP : Nat := 70
def flatW : W → Bool
  | .non | .bl _ | .int _ | .str _ => true
  | _ => false
def toV : W → V
  | .non => .non
  | .bl b => .bl b
  | .int i => .int i
  | .str x => .str x
  | _ => .non

/-! ### operations on values -/
def i64 (i : Int) : Bool := decide (-(2 ^ 64) < i) && decide (i < 2 ^ 64)
def binW (op : Operator) (x y : W) : M W := match op, x, y with
  | .Add, .int i, .int j => M.pure (.int (i + j))
  | .Sub, .int i, .int j => M.pure (.int (i - j))
  | .Mult, .int i, .int j => (M.chk (i64 i || i64 j)).bind fun _ => M.pure (.int (i * j))
  | .Mod, .int i, .int j => (M.chk (decide (0 < j))).bind fun _ => M.pure (.int (i % j))
  | .FloorDiv, .int i, .int j => (M.chk (decide (0 < j) && decide (j < 1073741824))).bind fun _ => M.pure (.int (i / j))
  | .Pow, .int i, .int j => (M.chk (decide (0 ≤ j) && decide (j ≤ 1000) && decide (i.natAbs < 2 ^ 64))).bind fun _ => M.pure (.int (i ^ j.toNat))
  | .Add, .str a, .str b => (M.chk (fitB (a.length + b.length))).bind fun _ => M.pure (.str (a ++ b))
  | .Add, .ref a, .ref b => (M.get a).bind fun o => (M.get b).bind fun o' => match o, o' with
    | .lst xs, .lst ys => (M.chk (fitB (xs.length + ys.length))).bind fun _ => M.new (.lst (xs ++ ys))
    | _, _ => M.no
  | .Mult, .ref a, .int k => (M.get a).bind fun o => match o with
    | .lst xs => (M.chk (decide (0 ≤ k) && decide (k < 1000) && fitB (xs.length * k.toNat))).bind fun _ => M.new (.lst (List.replicate k.toNat xs).flatten)
    | _ => M.no
  | _, _, _ => M.no
def ltB (x y : W) : Option Bool := match x, y with
  | .int i, .int j => some (decide (i < j))
  | _, _ => none
def leB (x y : W) : Option Bool := match x, y with
  | .int i, .int j => some (decide (i ≤ j))
  | _, _ => none
/-- x == y of data -/
def eqD' (x y : W) : M Bool := fun C => match rdW C DEEP x, rdW C DEEP y with
  | some d, some e => bif SeqAt.shaped d && SeqAt.shaped e then .ret (.ok (PyData.eqv d e) C) else .no
  | _, _ => .no
def eqD (x y : W) : M Bool := match x, y with
  | .str a, .str b => M.pure (decide (a = b))
  | .int i, .int j => M.pure (decide (i = j))
  | x, y => eqD' x y
/-- the one sign of a text of one sign -/
def sgnW (x : W) : Option Nat := match x with
  | .str c => match c.cps.toList with
    | [n] => some n
    | _ => none
  | _ => none
def inW (x y : W) : M Bool := match y with
  | .tup ws => (M.chk (flatW x && ws.all flatW)).bind fun _ => M.pure (inV (toV x) (ws.map toV))
  | .ref a => (M.get a).bind fun o => match o with
    | .lst ws => (M.chk (flatW x && ws.all flatW)).bind fun _ => M.pure (inV (toV x) (ws.map toV))
    | _ => M.no
  | .str z => (M.opt (sgnW x)).bind fun n => M.pure (decide (n ∈ z.cps.toList))
  | _ => M.no
def subW (x i : W) : M W := match x, i with
  | .tup ws, .int k => M.opt (atI ws k)
  | .str z, .int k => (M.chk (fitB z.length)).bind fun _ => M.opt ((atI z.cps.toList k).map fun c => .str ⟨#[c]⟩)
  | .ref a, .int k => (M.get a).bind fun o => match o with
    | .lst ws => M.opt (atI ws k)
    | _ => M.no
  | _, _ => M.no
def boundW : W → Option (Option Int)
  | .non => some none
  | .int i => some (some i)
  | _ => none
def cutW {α : Type} (xs : List α) (lo hi : Option Int) : List α := (xs.drop (HT.sIx xs.length 0 lo)).take (HT.sIx xs.length xs.length hi - HT.sIx xs.length 0 lo)
def slcW (x lo hi : W) : M W := match boundW lo, boundW hi with
  | some l, some h => (match x with
    | .tup ws => M.pure (.tup (cutW ws l h))
    | .str z => (M.chk (fitB z.length)).bind fun _ => M.pure (.str (cutS z l h))
    | .scr ns => M.new (.lst (cutW (ns.map W.int) l h))
    | .ref a => (M.get a).bind fun o => match o with
      | .lst ws => M.new (.lst (cutW ws l h))
      | _ => M.no
    | _ => M.no)
  | _, _ => M.no
def revW (x : W) : M W := match x with
  | .ref a => (M.get a).bind fun o => match o with
    | .lst ws => M.new (.lst ws.reverse)
    | _ => M.no
  | _ => M.no
/-- the items of a list or tuple -/
def itemsW (x : W) : M (List W) := match x with
  | .tup ws => M.pure ws
  | .ref a => (M.get a).bind fun o => match o with
    | .lst ws => M.pure ws
    | _ => M.no
  | _ => M.no
def strsW : List W → Option (List Str)
  | [] => some []
  | .str x :: ws => (strsW ws).map (x :: ·)
  | _ :: _ => none
def intsW : List W → Option (List Int)
  | [] => some []
  | .int x :: ws => (intsW ws).map (x :: ·)
  | _ :: _ => none
def boolsW : List W → Option (List Bool)
  | [] => some []
  | .bl x :: ws => (boolsW ws).map (x :: ·)
  | _ :: _ => none
def appW (a : Nat) (w : W) : M W := (M.get a).bind fun o => match o with
  | .lst ws => (M.chk (Nat.blt ws.length LINE)).bind fun _ => (M.put a (.lst (ws ++ [w]))).bind fun _ => M.pure .non
  | _ => M.no
def joinFit (a : Str) (ys : List Str) : Bool := fitB ((ys.map fun y => y.length + a.length).sum)
/-- built-in defs -/
def lenW (ws : List W) : M W := match ws with
  | [.str z] => (M.chk (fitB z.length)).bind fun _ => M.pure (.int z.length)
  | [x] => (itemsW x).bind fun xs => M.pure (.int xs.length)
  | _ => M.no
def tupleW (ws : List W) : M W := match ws with
  | [x] => (itemsW x).bind fun xs => M.pure (.tup xs)
  | _ => M.no
def listW (ws : List W) : M W := match ws with
  | [x] => (itemsW x).bind fun xs => M.new (.lst xs)
  | _ => M.no
def allW (ws : List W) : M W := match ws with
  | [.ref a] => (itemsW (.ref a)).bind fun xs => (M.opt (boolsW xs)).bind fun bs => M.pure (.bl (bs.all id))
  | _ => M.no
def anyW (ws : List W) : M W := match ws with
  | [.ref a] => (itemsW (.ref a)).bind fun xs => (M.opt (boolsW xs)).bind fun bs => M.pure (.bl (bs.any id))
  | _ => M.no
def sumW (ws : List W) : M W := match ws with
  | [.ref a] => (itemsW (.ref a)).bind fun xs => (M.opt (intsW xs)).bind fun bs => M.pure (.int bs.sum)
  | _ => M.no
def intW (ws : List W) : M W := match ws with
  | [.int i] => M.pure (.int i)
  | [.bl b] => M.pure (.int (if b then 1 else 0))
  | _ => M.no
def absW (ws : List W) : M W := match ws with
  | [.int i] => M.pure (.int (if i < 0 then -i else i))
  | _ => M.no
def bltW (f : Bl) (ws : List W) : M W := match f with
  | .abs => absW ws
  | .len => lenW ws
  | .tuple => tupleW ws
  | .list => listW ws
  | .all => allW ws
  | .any => anyW ws
  | .sum => sumW ws
  | .int => intW ws
  | .str => M.no
/-- methods of built-in things -/
def joinW (x : W) (ws : List W) : M W := match x, ws with
  | .str a, [y] => (itemsW y).bind fun xs => (M.opt (strsW xs)).bind fun ys => (M.chk (joinFit a ys)).bind fun _ => M.pure (.str (Txt.join a ys))
  | _, _ => M.no
def appendW (x : W) (ws : List W) : M W := match x, ws with
  | .ref a, [w] => appW a w
  | _, _ => M.no
def extendW (x : W) (ws : List W) : M W := match x, ws with
  | .ref a, [y] => (itemsW y).bind fun ys => (M.get a).bind fun o => match o with
    | .lst xs => (M.chk (fitB (xs.length + ys.length))).bind fun _ => (M.put a (.lst (xs ++ ys))).bind fun _ => M.pure .non
    | _ => M.no
  | _, _ => M.no
def metW (x : W) (m : Bm) (ws : List W) : M W := match m with
  | .join => joinW x ws
  | .append => appendW x ws
  | .extend => extendW x ws
def popW (x : W) : M W := match x with
  | .ref a => (M.get a).bind fun o => match o with
    | .lst xs => (M.opt xs[xs.length - 1]?).bind fun y => (M.put a (.lst xs.dropLast)).bind fun _ => M.pure y
    | _ => M.no
  | _ => M.no
def met0W (x : W) (m : Bm0) : M W := match m with
  | .pop => popW x
def lstOk (x : W) : M Unit := match x with
  | .ref a => (M.get a).bind fun o => match o with
    | .lst _ => M.pure ()
    | _ => M.no
  | _ => M.no
/-- the receiver of a method is of its type -/
def bmOk (b : Bm) (x : W) : M Unit := match b with
  | .join => (match x with
    | .str _ => M.pure ()
    | _ => M.no)
  | .append => lstOk x
  | .extend => lstOk x
def bm0Ok (b : Bm0) (x : W) : M Unit := match b with
  | .pop => lstOk x
def truW : W → M Bool
  | .bl b => M.pure b
  | _ => M.no
/-- a plain class -/
def clsP (cls : List Cd) (c : Nat) : Option Cd := match cls[c]? with
  | some d => bif Nat.beq d.kind 0 then some d else none
  | none => none
def tagW (cls : List Cd) (C : Hc) (w : W) : Option CT := match w with
  | .non => some (.ty .none)
  | .bl _ => some (.ty .bool)
  | .int _ => some (.ty .int)
  | .str _ => some (.ty .str)
  | .tup _ => some (.ty .tuple)
  | .ref a => (match C.get a with
    | some (.lst _) => some (.ty .list)
    | some (.ins d _) => (match clsP cls d with
      | some _ => some (.cls d)
      | none => none)
    | _ => none)
  | _ => none
def isTag (cls : List Cd) (t c : CT) : Option Bool := match t, c with
  | .ty a, .ty b => some (decide (a = b) || (decide (a = .bool) && decide (b = .int)))
  | .ty _, .cls x => (cls[x]?).map fun _ => false
  | .cls d, .ty _ => (cls[d]?).map fun _ => false
  | .cls d, .cls x => (cls[d]?).bind fun l => (cls[x]?).map fun _ => l.mro.contains x
def isAny (cls : List Cd) (t : CT) : List CT → Option Bool
  | [] => some false
  | c :: cs => match isTag cls t c with
    | some true => some true
    | some false => isAny cls t cs
    | none => none
def isiW (cls : List Cd) (x : W) (cs : List CT) : M W := fun C => match tagW cls C x with
  | some t => (match isAny cls t cs with
    | some b => .ret (.ok (.bl b) C)
    | none => .no)
  | none => .no
def fmtW : W → M W
  | .str x => (M.chk (fitB x.length)).bind fun _ => M.pure (.str x)
  | .int i => (M.chk (decide (i.natAbs < 1000000))).bind fun _ => M.pure (.str (toString i))
  | _ => M.no
def catW : List W → Str → M W
  | [], acc => M.pure (.str acc)
  | .str y :: ws, acc => (M.chk (fitB (acc ++ y).length)).bind fun _ => catW ws (acc ++ y)
  | _ :: _, _ => M.no

/-! ### what is walked -/
inductive It' where
  | lst (a : Nat) | seq (ws : List W) | rng (lo : Int) (n : Nat) | enm (J : It') | zip (J L : It')
def itemAt : It' → Nat → M (Option W)
  | .lst a, i => (M.get a).bind fun o => match o with
    | .lst ws => M.pure ws[i]?
    | _ => M.no
  | .seq ws, i => M.pure ws[i]?
  | .rng lo n, i => M.pure (bif Nat.blt i n then some (.int (lo + i)) else none)
  | .enm J, i => (itemAt J i).bind fun r => M.pure (r.map fun w => .tup [.int i, w])
  | .zip J L, i => (itemAt J i).bind fun r => (itemAt L i).bind fun r' => M.pure (match r, r' with
    | some w, some u => some (.tup [w, u])
    | _, _ => none)
def walkW (w : W) : M It' := match w with
  | .tup ws => M.pure (.seq ws)
  | .str z => M.pure (.seq (z.cps.toList.map fun c => .str ⟨#[c]⟩))
  | .ref a => (M.get a).bind fun o => match o with
    | .lst _ => M.pure (.lst a)
    | _ => M.no
  | _ => M.no
/-- enumerate of a list; zip of two lists, of two tuples -/
def enmW (w : W) : M It' := match w with
  | .ref a => (M.get a).bind fun o => match o with
    | .lst _ => M.pure (.enm (.lst a))
    | _ => M.no
  | _ => M.no
def zipW (x y : W) : M It' := match x, y with
  | .tup ws, .tup us => M.pure (.zip (.seq ws) (.seq us))
  | .ref a, .ref b => (M.get a).bind fun o => (M.get b).bind fun o' => match o, o' with
    | .lst _, .lst _ => M.pure (.zip (.lst a) (.lst b))
    | _, _ => M.no
  | _, _ => M.no
def compL (cond : Env → M Bool) (elt : Env → M W) (tg : Tg) (J : It') (v : Env) : Nat → Nat → M (List W)
  | 0, _ => M.no
  | f + 1, i => (itemAt J i).bind fun r => match r with
    | none => M.pure []
    | some w => (M.opt (setTg tg w v)).bind fun v' => (cond v').bind fun b =>
      bif b then (elt v').bind fun y => (compL cond elt tg J v f (i + 1)).bind fun ys => M.pure (y :: ys)
      else compL cond elt tg J v f (i + 1)
def FUEL : Nat := 1000000
def whileL (c : Env → M Bool) (body : Env → Hc → Tr XF) : Nat → Env → Hc → Tr XF
  | 0, _, _ => .no
  | f + 1, v, C => (c v C).bind fun r => match r with
    | .exc x C1 => .ret (.exc x v C1)
    | .ok b C1 => bif b then (body v C1).bind fun q => match q with
        | .nx v' C' => whileL c body f v' C'
        | .ct v' C' => whileL c body f v' C'
        | .br v' C' => .ret (.nx v' C')
        | q => .ret q
      else .ret (.nx v C1)
def forL (tg : Tg) (J : It') (body : Env → Hc → Tr XF) : Nat → Nat → Env → Hc → Tr XF
  | 0, _, _, _ => .no
  | f + 1, i, v, C => (itemAt J i C).bind fun r => match r with
    | .exc _ _ => .no
    | .ok none C1 => .ret (.nx v C1)
    | .ok (some w) C1 => match setTg tg w v with
      | none => .no
      | some v1 => (body v1 C1).bind fun q => match q with
        | .nx v' C' => forL tg J body f (i + 1) v' C'
        | .ct v' C' => forL tg J body f (i + 1) v' C'
        | .br v' C' => .ret (.nx v' C')
        | q => .ret q

/-! ### running -/
abbrev Cf := Nat → List W → M W
/-- the defaults that fill up -/
def fill (fd : Fd) (ws : List W) : Option (List W) :=
  bif Nat.ble ws.length fd.ps.length && Nat.ble (fd.ps.length - ws.length) fd.dfl.length then some (ws ++ fd.dfl.drop (fd.dfl.length - (fd.ps.length - ws.length))) else none
/-- keywords put in their places behind the positional ones -/
def kfill {α : Type} (kv : List (Str × α)) : List Str → Option (List α)
  | [] => some []
  | p :: r => match lkS p kv with
    | some w => (kfill kv r).map (w :: ·)
    | none => none
/-- the names of the keywords: those of the parameters that are left -/
def ksOk (ks rest : List Str) : Bool := decide ks.Nodup && ks.all fun k => rest.contains k
section
variable (G : Sg) (cf : Cf)
def callK (k : Nat) (ws : List W) : M W := match G.fns[k]? with
  | some fd => (M.opt (fill fd ws)).bind fun us => cf k us
  | none => M.no
def callKw (k : Nat) (ws : List W) (ks : List Str) (us : List W) : M W := match G.fns[k]? with
  | some fd => (M.chk (Nat.ble ws.length fd.ps.length && Nat.beq us.length ks.length && ksOk ks (fd.ps.drop ws.length))).bind fun _ => (M.opt (kfill (ks.zip us) (fd.ps.drop ws.length))).bind fun r => cf k (ws ++ r)
  | none => M.no
def mkI (c : Nat) (k : Nat → W → M W) : M W := match clsP G.cls c with
  | some d => (M.new (.ins c [])).bind fun x => (k d.init x).bind fun r => match r with
    | .non => M.pure x
    | _ => M.no
  | none => M.no
/-- the def that o.m is, o an own class's instance -/
def metO (x : W) (m : Nat) : M Nat := match x with
  | .ref a => (M.get a).bind fun o => match o with
    | .ins c fs => (match lk m fs, (clsP G.cls c).bind fun d => lk m d.mth with
      | none, some k => M.pure k
      | _, _ => M.no)
    | _ => M.no
  | _ => M.no
/-- the class of the right one is no true subclass of c -/
def notSub (c : Nat) (y : W) : M Unit := fun C => match tagW G.cls C y with
  | some (.cls e) => bif Nat.beq e c || isTag G.cls (.cls e) (.cls c) == some false then .ret (.ok () C) else .no
  | some (.ty _) => .ret (.ok () C)
  | none => .no
def eqW (x y : W) : M Bool := match x with
  | .ref a => (M.get a).bind fun o => match o with
    | .ins c _ => (match clsP G.cls c with
      | some d => (notSub G c y).bind fun _ => ((callK G cf d.eq [x, y]).nox).bind truW
      | none => M.no)
    | _ => eqD x y
  | _ => eqD x y
def cmpW (op : CmpOp) (x y : W) : M Bool := match op with
  | .Eq => eqW G cf x y
  | .NotEq => (eqW G cf x y).bind fun b => M.pure (!b)
  | .Lt => M.opt (ltB x y)
  | .LtE => M.opt (leB x y)
  | .Gt => M.opt (ltB y x)
  | .GtE => M.opt (leB y x)
  | .In => inW x y
  | .NotIn => (inW x y).bind fun b => M.pure (!b)
  | _ => M.no
def strW (x : W) : M W := match x with
  | .str z => M.pure (.str z)
  | .ref a => (M.get a).bind fun o => match o with
    | .ins c _ => (match clsP G.cls c with
      | some d => ((callK G cf d.str [x]).nox).bind fun r => match r with
        | .str z => M.pure (.str z)
        | _ => M.no
      | none => M.no)
    | _ => M.no
  | _ => M.no
def bltC (f : Bl) (ws : List W) : M W := match f, ws with
  | .str, [x] => strW G cf x
  | f, ws => bltW f ws
/-- no method of the class, and a name that is written -/
def fldOk (c f : Nat) : Bool := Nat.blt f G.nms.length && match clsP G.cls c with
  | some d => (match lk f d.mth with
    | none => true
    | some _ => false)
  | none => false
def attW (x : W) (f : Nat) : M W := match x with
  | .ref a => (M.get a).bind fun o => match o with
    | .ins c fs => (M.chk (fldOk G c f)).bind fun _ => M.opt (lk f fs)
    | _ => M.no
  | _ => M.no
def setF (x : W) (f : Nat) (w : W) : M Unit := match x with
  | .ref a => (M.get a).bind fun ob => match ob with
    | .ins c fs => (M.chk (fldOk G c f && Nat.blt fs.length 900)).bind fun _ => M.put a (.ins c (putW f w fs))
    | _ => M.no
  | _ => M.no
def varW (i : Nat) (v : Env) : M W := match v[i]? with
  | some (some w) => M.pure w
  | _ => M.no
/-- what a term is worth: as a value, as a test, as what is walked -/
structure S3 where
  val : Env → M W
  tst : Env → M Bool
  itr : Env → M It'
def S3.of (f : Env → M W) : S3 := ⟨f, fun v => (f v).bind truW, fun v => (f v).bind walkW⟩
def S3.no : S3 := ⟨fun _ => M.no, fun _ => M.no, fun _ => M.no⟩
abbrev S3s := List (Bool × S3)
def evEs : S3s → Env → M (List W)
  | [], _ => M.pure []
  | p :: r, v => (p.2.val v).bind fun x => bif p.1 then (itemsW x).bind fun xs => (evEs r v).bind fun ws => M.pure (xs ++ ws)
    else (evEs r v).bind fun ws => M.pure (x :: ws)
def evTs : S3s → Env → M Bool
  | [], _ => M.pure true
  | p :: r, v => (p.2.tst v).bind fun b => bif b then evTs r v else M.pure false
def evB (op : BoolOp) : S3s → Env → M W
  | [], _ => M.no
  | p :: r, v => match r with
    | [] => p.2.val v
    | _ :: _ => (p.2.val v).bind fun x => (truW x).bind fun b => match op, b with
      | .And, false => M.pure x
      | .Or, true => M.pure x
      | _, _ => evB op r v
def evBT (op : BoolOp) : S3s → Env → M Bool
  | [], _ => M.no
  | p :: r, v => match r with
    | [] => p.2.tst v
    | _ :: _ => (p.2.tst v).bind fun b => match op, b with
      | .And, false => M.pure false
      | .Or, true => M.pure true
      | _, _ => evBT op r v
/-- texts one behind another -/
def evJ : S3s → Env → Str → M W
  | [], _, acc => M.pure (.str acc)
  | p :: r, v, acc => (p.2.val v).bind fun x => match x with
    | .str y => (M.chk (fitB (acc ++ y).length)).bind fun _ => evJ r v (acc ++ y)
    | _ => M.no
def isStar : E → Bool
  | .star _ => true
  | _ => false
def isAbs : E → Bool
  | .abs => true
  | _ => false
/-- a bound of a slice -/
def partW (b : Bool) (m : M W) : M W := bif b then M.pure .non else m.bind fun a => match a with
  | .int i => M.pure (.int i)
  | _ => M.no
def isN (w : W) : Bool := match w with
  | .non => true
  | _ => false
mutual
def ev : E → S3
  | .var i => .of fun v => varW i v
  | .cst w => .of fun _ => M.pure w
  | .glo x => .of fun _ => M.opt ((G.cst[x]?).map (·.2))
  | .abs => .of fun _ => M.pure .non
  | .tup es => .of fun v => (evEs (evl es) v).bind fun ws => (M.chk (fitB ws.length)).bind fun _ => M.pure (.tup ws)
  | .lst es => .of fun v => (evEs (evl es) v).bind fun ws => (M.chk (fitB ws.length)).bind fun _ => M.new (.lst ws)
  | .star e => ev e
  | .bin op a b => .of fun v => ((ev a).val v).bind fun x => ((ev b).val v).bind fun y => binW op x y
  | .cmp op a b => .of fun v => ((ev a).val v).bind fun x => ((ev b).val v).bind fun y => (cmpW G cf op x y).bind fun b => M.pure (.bl b)
  | .cmp2 o p a b c => .of fun v => ((ev a).val v).bind fun x => ((ev b).val v).bind fun y => (cmpW G cf o x y).bind fun r =>
      bif r then ((ev c).val v).bind fun z => (cmpW G cf p y z).bind fun b => M.pure (.bl b) else M.pure (.bl false)
  | .isN neg a => .of fun v => ((ev a).val v).bind fun x => M.pure (.bl (isN x != neg))
  | .not a => ⟨fun v => ((ev a).val v).bind fun x => (truW x).bind fun b => M.pure (.bl (!b)), fun v => ((ev a).tst v).bind fun b => M.pure (!b), fun _ => M.no⟩
  | .boo op es => ⟨fun v => evB op (evl es) v, fun v => evBT op (evl es) v, fun _ => M.no⟩
  | .neg a => .of fun v => ((ev a).val v).bind fun x => match x with
    | .int i => M.pure (.int (-i))
    | _ => M.no
  | .ite c a b => ⟨fun v => ((ev c).tst v).bind fun r => bif r then (ev a).val v else (ev b).val v, fun v => ((ev c).tst v).bind fun r => bif r then (ev a).tst v else (ev b).tst v, fun _ => M.no⟩
  | .call f es => .of fun v => (evEs (evl es) v).bind fun ws => callK G cf f ws
  | .callk f es ks kes => .of fun v => (evEs (evl es) v).bind fun ws => (evEs (evl kes) v).bind fun us => callKw G cf f ws ks us
  | .mk c es => .of fun v => (evEs (evl es) v).bind fun ws => mkI G c fun k x => callK G cf k (x :: ws)
  | .mkk c es ks kes => .of fun v => (evEs (evl es) v).bind fun ws => (evEs (evl kes) v).bind fun us => mkI G c fun k x => callKw G cf k (x :: ws) ks us
  | .blt f es => .of fun v => (evEs (evl es) v).bind fun ws => bltC G cf f ws
  | .isi e _ cs => .of fun v => ((ev e).val v).bind fun x => isiW G.cls x cs
  | .meth o m es => .of fun v => ((ev o).val v).bind fun x => (metO G x m).bind fun k => (evEs (evl es) v).bind fun ws => callK G cf k (x :: ws)
  | .bm o b es => .of fun v => ((ev o).val v).bind fun x => (bmOk b x).bind fun _ => (evEs (evl es) v).bind fun ws => metW x b ws
  | .bm0 o b => .of fun v => ((ev o).val v).bind fun x => (bm0Ok b x).bind fun _ => met0W x b
  | .att o f => .of fun v => ((ev o).val v).bind fun x => attW G x f
  | .sub o i => .of fun v => ((ev o).val v).bind fun x => ((ev i).val v).bind fun y => subW x y
  | .slc o lo hi => .of fun v => ((ev o).val v).bind fun x => (partW (isAbs lo) ((ev lo).val v)).bind fun l => (partW (isAbs hi) ((ev hi).val v)).bind fun h => slcW x l h
  | .rev o => .of fun v => ((ev o).val v).bind fun x => revW x
  | .comp e tg it cs own => .of fun v => ((ev it).itr v).bind fun J => ((compL (fun v' => evTs (evl cs) v') (fun v' => (ev e).val v') tg J (wipeE v (own.map (·.2))) FUEL 0).nox).bind fun ys => M.new (.lst ys)
  | .fst es => .of fun v => evJ (evl es) v Str.empty
  | .fmt e => .of fun v => ((ev e).val v).bind fun x => fmtW x
  | .rng1 a => ⟨fun _ => M.no, fun _ => M.no, fun v => ((ev a).val v).bind fun x => match x with
    | .int j => (M.chk (decide (-(2 ^ 62) ≤ j) && decide (j < 2 ^ 62))).bind fun _ => M.pure (.rng 0 j.toNat)
    | _ => M.no⟩
  | .rng2 a b => ⟨fun _ => M.no, fun _ => M.no, fun v => ((ev a).val v).bind fun x => ((ev b).val v).bind fun y => match x, y with
    | .int i, .int j => (M.chk (decide (-(2 ^ 62) ≤ i) && decide (i < 2 ^ 62) && decide (-(2 ^ 62) ≤ j) && decide (j < 2 ^ 62))).bind fun _ => M.pure (.rng i (j - i).toNat)
    | _, _ => M.no⟩
  | .enm a => ⟨fun _ => M.no, fun _ => M.no, fun v => ((ev a).val v).bind fun x => enmW x⟩
  | .zip a b => ⟨fun _ => M.no, fun _ => M.no, fun v => ((ev a).val v).bind fun x => ((ev b).val v).bind fun y => zipW x y⟩
  | .never => .no
def evl : List E → S3s
  | [] => []
  | e :: es => (isStar e, ev e) :: evl es
end
def upS {α : Type} (m : M α) (v : Env) (k : α → Hc → Tr XF) : Hc → Tr XF := fun C => (m C).bind fun r => match r with
  | .ok a C1 => k a C1
  | .exc x C1 => .ret (.exc x v C1)
/-- self, an instance of the class d itself -/
def supX (d : Nat) : W → M W
  | .ref a => (M.get a).bind fun o => match o with
    | .ins c _ => (M.chk (Nat.beq c d)).bind fun _ => M.pure (.ref a)
    | _ => M.no
  | _ => M.no
def supW (d : Nat) (v : Env) : M W := (varW 0 v).bind (supX d)
def supAr (k n : Nat) : Bool := match G.fns[k]? with
  | some fd => Nat.ble (1 + n) fd.ps.length && Nat.ble (fd.ps.length - (1 + n)) fd.dfl.length
  | none => false
def setWI (o i w : W) : M Unit := match o, i with
  | .ref a, .int k => (M.get a).bind fun ob => match ob with
    | .lst ws => (match ixN ws.length k with
      | some j => M.put a (.lst (ws.set j w))
      | none => M.no)
    | _ => M.no
  | _, _ => M.no
mutual
def evS : S → Env → Hc → Tr XF
  | .asg tg e, v, C => upS ((ev G cf e).val v) v (fun w C1 => match setTg tg w v with
    | some v' => .ret (.nx v' C1)
    | none => .no) C
  | .par is es, v, C => upS (evEs (evl G cf es) v) v (fun ws C1 => match setEs v is ws with
    | some v' => .ret (.nx v' C1)
    | none => .no) C
  | .fld o f e, v, C => upS (((ev G cf e).val v).bind fun w => ((ev G cf o).val v).bind fun x => setF G x f w) v (fun _ C1 => .ret (.nx v C1)) C
  | .setI o i e, v, C => upS (((ev G cf e).val v).bind fun w => ((ev G cf o).val v).bind fun x => ((ev G cf i).val v).bind fun y => setWI x y w) v (fun _ C1 => .ret (.nx v C1)) C
  | .expr e, v, C => upS ((ev G cf e).val v) v (fun _ C1 => .ret (.nx v C1)) C
  | .sup d f es, v, C => upS ((M.chk (supAr G f es.length)).bind fun _ => (supW d v).bind fun x => (evEs (evl G cf es) v).bind fun ws => (M.chk (Nat.beq ws.length es.length)).bind fun _ => callK G cf f (x :: ws)) v (fun _ C1 => .ret (.nx v C1)) C
  | .ife c a b, v, C => upS ((ev G cf c).tst v) v (fun r C1 => bif r then evSs a v C1 else evSs b v C1) C
  | .for_ tg it body, v, C => upS ((ev G cf it).itr v) v (fun J C1 => forL tg J (fun v' C' => evSs body v' C') FUEL 0 v C1) C
  | .whl c body, v, C => whileL (fun v' => (ev G cf c).tst v') (fun v' C' => evSs body v' C') FUEL v C
  | .ret e, v, C => upS ((ev G cf e).val v) v (fun w C1 => .ret (.rt w C1)) C
  | .retN, _, C => .ret (.rt .non C)
  | .cont, v, C => .ret (.ct v C)
  | .brk, v, C => .ret (.br v C)
  | .pass, v, C => .ret (.nx v C)
  | .never, _, _ => .no
def evSs : List S → Env → Hc → Tr XF
  | [], v, C => .ret (.nx v C)
  | s :: ss, v, C => (evS s v C).bind fun q => match q with
    | .nx v' C' => evSs ss v' C'
    | q => .ret q
end
end
/-- the source of draws: two defs of the law's text, by what they promise -/
def drawW (ws : List W) : M W := match ws with
  | [.ref d, .int m] => (M.get d).bind fun o => match o with
    | .deal j => (M.get j).bind fun o => match o with
      | .dealIn => (M.chk (decide (0 < m) && decide (m < 1073741824))).bind fun _ => fun C => .drw m.toNat fun r => .ret (.ok (.int r) C)
      | _ => M.no
    | _ => M.no
  | _ => M.no
def dealW (ws : List W) : M W := match ws with
  | [.scr _, .int b] => (M.chk (decide (0 ≤ b) && decide (b < 63))).bind fun _ => (M.new .dealIn).bind fun j => match j with
    | .ref j => M.new (.deal j)
    | _ => M.no
  | _ => M.no
def endOf (q : XF) : Tr (XR W) := match q with
  | .nx _ C => .ret (.ok .non C)
  | .rt w C => .ret (.ok w C)
  | .exc x _ C => .ret (.exc x C)
  | _ => .no
/-- a def's body, run -/
def runF (G : Sg) (cf : Cf) (fd : Fd) (ws : List W) : M W := bif Nat.beq ws.length fd.ps.length then fun C => (evSs G cf fd.body (ws.map some ++ List.replicate (fd.N.length - ws.length) none) C).bind endOf else M.no
def callF (G : Sg) : Nat → Nat → List W → M W
  | 0, _, _ => M.no
  | n + 1, k, ws => match G.fns[k]? with
    | some fd => match fd.kind with
      | 0 => runF G (callF G n) fd ws
      | 1 => drawW ws
      | 2 => dealW ws
      | _ => M.no
    | none => M.no
/-- a text -/
def sq (l : List Nat) : Str := ⟨l.toArray⟩
end BL
set_option Elab.async false
set_option linter.all false
set_option maxRecDepth 100000
/-! BL3: how the logical heap stands in the abstract one. -/
namespace BL
open PySem L2

/-- the address of a class; the name of a field -/
def cAd (K : PySem.W.Frag) (G : Sg) (c : Nat) : Addr := match G.cls[c]? with
  | some d => He.ga K d.name
  | none => 0
def nmS (G : Sg) (i : Nat) : Str := G.nms.getD i Str.empty

/-- what never changes -/
def immO : HO → Bool
  | .tup _ => true
  | .frz _ _ => true
  | _ => false
def Imm (H H' : Hp) : Prop := ∀ a u, H a = some u → immO u = true → H' a = some u
/-- a list that is known to the object, or of the module's own -/
def SqF (K : PySem.W.Frag) (H : Hp) (a : Addr) (xs : List V) : Prop := (∃ o, H a = some (.frz o (.lst xs))) ∨
    ∃ (o : Obj) (its : Array Value) (n : Nat), K.lookup a = some o ∧ o.cls = .type "list" ∧ o.dict = none ∧ o.data = .seq its n ∧ its.size ≤ sizeLine ∧ Vals xs its.toList
theorem SqF.sq {K : PySem.W.Frag} {H : Hp} {a : Addr} {xs : List V} (h : SqF K H a xs) : SqL K H a xs := by
  rcases h with h | h
  · exact .inl (.inr h)
  · exact .inr h
theorem SqF.imm {K : PySem.W.Frag} {H H' : Hp} {a : Addr} {xs : List V} (m : Imm H H') (h : SqF K H a xs) : SqF K H' a xs := by
  rcases h with ⟨o, h⟩ | h
  · exact .inl ⟨o, m a _ h rfl⟩
  · exact .inr h
theorem SqT.imm {K : PySem.W.Frag} {H H' : Hp} {a : Addr} {xs : List V} (m : Imm H H') (h : SqT K H a xs) : SqT K H' a xs := by
  rcases h with (h | ⟨o, h⟩) | h
  · exact .inl (.inl (m a _ h rfl))
  · exact .inl (.inr ⟨o, m a _ h rfl⟩)
  · exact .inr h

section
variable (K : PySem.W.Frag) (G : Sg)
mutual
def RV (n : Nat) (r : Nat → Addr) (H : Hp) : W → V → Prop
  | .non, v => v = .non
  | .bl b, v => v = .bl b
  | .int i, v => v = .int i
  | .str x, v => v = .str x
  | .ref a, v => a < n ∧ v = .ref (r a)
  | .glo _, _ => False
  | .ty t, v => v = .ty t
  | .scr ns, v => ∃ a : Addr, v = .ref a ∧ SqF K H a (ns.map V.int) ∧ ns.length ≤ 63
  | .tup ws, v => ∃ a vs, v = .ref a ∧ SqT K H a vs ∧ RVs n r H ws vs
def RVs (n : Nat) (r : Nat → Addr) (H : Hp) : List W → List V → Prop
  | [], vs => vs = []
  | w :: ws, vs => ∃ v vs', vs = v :: vs' ∧ RV n r H w v ∧ RVs n r H ws vs'
end
def RFs (n : Nat) (r : Nat → Addr) (H : Hp) : List (Nat × W) → List (Str × V) → Prop
  | [], l => l = []
  | p :: ps, l => ∃ v l', l = (nmS G p.1, v) :: l' ∧ p.1 < G.nms.length ∧ RV K n r H p.2 v ∧ RFs n r H ps l'
def RO (n : Nat) (r : Nat → Addr) (H : Hp) (a : Addr) : O → Prop
  | .lst ws => ∃ vs, H a = some (.lst vs) ∧ RVs K n r H ws vs
  | .ins c fs => ∃ dx l, H a = some (.ins (cAd K G c) dx l) ∧ RFs K G n r H fs l
  | .deal j => ∃ m : Int, j < n ∧ H a = some (.lst [.ref (r j), .int m]) ∧ 0 ≤ m ∧ m < 2147483647
  | .dealIn => ∃ ns : List Int, H a = some (.lst (ns.map V.int)) ∧ (∀ i ∈ ns, 0 ≤ i) ∧ ns.length ≤ 63
structure Rep (r : Nat → Addr) (C : Hc) (H : Hp) : Prop where
  inj : ∀ i j, i < C.next → j < C.next → r i = r j → i = j
  obj : ∀ i, i < C.next → ∃ o, C.get i = some o ∧ RO K G C.next r H (r i) o
structure Ext (C C' : Hc) (r r' : Nat → Addr) (H H' : Hp) : Prop where
  nx : C.next ≤ C'.next
  rho : ∀ i, i < C.next → r' i = r i
  frm : ∀ a o, H a = some o → (∀ i, i < C.next → r i ≠ a) → H' a = some o
  new : ∀ i, C.next ≤ i → i < C'.next → H (r' i) = none
def RE (n : Nat) (r : Nat → Addr) (H : Hp) : Env → St → Prop
  | [], s => s = []
  | x :: xs, s => ∃ y ys, s = y :: ys ∧ (∀ w, x = some w → ∃ v, y = some v ∧ RV K n r H w v) ∧ RE n r H xs ys
end

section
variable {K : PySem.W.Frag} {G : Sg} {n n' : Nat} {r r' : Nat → Addr} {H H' : Hp}
mutual
theorem RV.mono (hn : n ≤ n') (hr : ∀ i, i < n → r' i = r i) (ht : Imm H H') : ∀ (w : W) (v : V), RV K n r H w v → RV K n' r' H' w v
  | .non, _, h => by unfold RV at h ⊢; exact h
  | .bl _, _, h => by unfold RV at h ⊢; exact h
  | .int _, _, h => by unfold RV at h ⊢; exact h
  | .str _, _, h => by unfold RV at h ⊢; exact h
  | .ref a, _, h => by unfold RV at h ⊢; exact ⟨Nat.lt_of_lt_of_le h.1 hn, by rw [hr a h.1]; exact h.2⟩
  | .glo _, _, h => by unfold RV at h; exact h.elim
  | .ty _, _, h => by unfold RV at h ⊢; exact h
  | .scr _, _, h => by
    unfold RV at h ⊢
    obtain ⟨a, e, q, l⟩ := h
    exact ⟨a, e, q.imm ht, l⟩
  | .tup ws, _, h => by
    unfold RV at h ⊢
    obtain ⟨a, vs, e, q, l⟩ := h
    exact ⟨a, vs, e, BL.SqT.imm ht q, RVs.mono hn hr ht ws vs l⟩
theorem RVs.mono (hn : n ≤ n') (hr : ∀ i, i < n → r' i = r i) (ht : Imm H H') : ∀ (ws : List W) (vs : List V), RVs K n r H ws vs → RVs K n' r' H' ws vs
  | [], _, h => by unfold RVs at h ⊢; exact h
  | w :: ws, _, h => by
    unfold RVs at h ⊢
    obtain ⟨v, vs', e, q, l⟩ := h
    exact ⟨v, vs', e, RV.mono hn hr ht w v q, RVs.mono hn hr ht ws vs' l⟩
end
theorem RFs.mono (hn : n ≤ n') (hr : ∀ i, i < n → r' i = r i) (ht : Imm H H') : ∀ (ws : List (Nat × W)) (vs : List (Str × V)), RFs K G n r H ws vs → RFs K G n' r' H' ws vs
  | [], _, h => by unfold RFs at h ⊢; exact h
  | w :: ws, _, h => by
    unfold RFs at h ⊢
    obtain ⟨v, vs', e, q0, q, l⟩ := h
    exact ⟨v, vs', e, q0, RV.mono hn hr ht _ v q, RFs.mono hn hr ht ws vs' l⟩
theorem RE.mono (hn : n ≤ n') (hr : ∀ i, i < n → r' i = r i) (ht : Imm H H') : ∀ (v : Env) (s : St), RE K n r H v s → RE K n' r' H' v s
  | [], _, h => by unfold RE at h ⊢; exact h
  | x :: xs, _, h => by
    unfold RE at h ⊢
    obtain ⟨y, ys, e, q, l⟩ := h
    refine ⟨y, ys, e, fun w hw => ?_, RE.mono hn hr ht xs ys l⟩
    obtain ⟨v, ev, rv⟩ := q w hw
    exact ⟨v, ev, RV.mono hn hr ht w v rv⟩
theorem RO.mono (hn : n ≤ n') (hr : ∀ i, i < n → r' i = r i) (ht : Imm H H') {a : Addr} (e : H' a = H a) : ∀ (o : O), RO K G n r H a o → RO K G n' r' H' a o
  | .lst ws, h => by
    obtain ⟨vs, q, l⟩ := h
    exact ⟨vs, by rw [e]; exact q, RVs.mono hn hr ht ws vs l⟩
  | .ins c fs, h => by
    obtain ⟨dx, l, q, f⟩ := h
    exact ⟨dx, l, by rw [e]; exact q, RFs.mono hn hr ht fs l f⟩
  | .deal j, h => by
    obtain ⟨m, hj, q, h1, h2⟩ := h
    exact ⟨m, Nat.lt_of_lt_of_le hj hn, by rw [e, hr j hj]; exact q, h1, h2⟩
  | .dealIn, h => by
    obtain ⟨ns, q, h1⟩ := h
    exact ⟨ns, by rw [e]; exact q, h1⟩
/-- what stands there, and it may change -/
theorem RO.at {a : Addr} : ∀ {o : O}, RO K G n r H a o → ∃ u, H a = some u ∧ immO u = false
  | .lst ws, ⟨vs, q, l⟩ => ⟨_, q, rfl⟩
  | .ins c fs, ⟨dx, l, q, f⟩ => ⟨_, q, rfl⟩
  | .deal j, ⟨m, hj, q, h1, h2⟩ => ⟨_, q, rfl⟩
  | .dealIn, ⟨ns, q, h1⟩ => ⟨_, q, rfl⟩
variable {C C' C1 C2 : Hc} {r1 r2 : Nat → Addr} {H1 H2 : Hp}
theorem Rep.at (R : Rep K G r C H) {i : Nat} (hi : i < C.next) : ∃ u, H (r i) = some u ∧ immO u = false := by
  obtain ⟨o, _, h⟩ := R.obj i hi
  exact h.at
theorem Ext.imm (R : Rep K G r C H) (X : Ext C C' r r' H H') : Imm H H' := fun a u e t => X.frm a u e fun i hi q => by
  obtain ⟨u', e', t'⟩ := R.at hi
  rw [q, e] at e'; cases e'
  rw [t] at t'; cases t'
theorem RV.ext (R : Rep K G r C H) (X : Ext C C' r r' H H') {w : W} {v : V} (h : RV K C.next r H w v) : RV K C'.next r' H' w v := RV.mono X.nx X.rho (X.imm R) w v h
theorem RVs.ext (R : Rep K G r C H) (X : Ext C C' r r' H H') {w : List W} {v : List V} (h : RVs K C.next r H w v) : RVs K C'.next r' H' w v := RVs.mono X.nx X.rho (X.imm R) w v h
theorem RE.ext (R : Rep K G r C H) (X : Ext C C' r r' H H') {w : Env} {v : St} (h : RE K C.next r H w v) : RE K C'.next r' H' w v := RE.mono X.nx X.rho (X.imm R) w v h
theorem Ext.refl : Ext C C r r H H := ⟨Nat.le_refl _, fun _ _ => rfl, fun _ _ e _ => e, fun i h1 h2 => absurd h2 (Nat.not_lt.mpr h1)⟩
theorem Ext.trans (X : Ext C C1 r r1 H H1) (Y : Ext C1 C2 r1 r2 H1 H2) (inj : ∀ i j, i < C2.next → j < C2.next → r2 i = r2 j → i = j) : Ext C C2 r r2 H H2 where
  nx := Nat.le_trans X.nx Y.nx
  rho := fun i hi => (Y.rho i (Nat.lt_of_lt_of_le hi X.nx)).trans (X.rho i hi)
  frm := fun a o e hf => Y.frm a o (X.frm a o e hf) fun i hi q => by
    by_cases h : i < C.next
    · exact hf i h (by rw [← X.rho i h]; exact q)
    · have := X.new i (Nat.not_lt.mp h) hi
      rw [q, e] at this; cases this
  new := fun i h1 h2 => by
    by_cases h : i < C1.next
    · rw [Y.rho i h]; exact X.new i h1 h
    · have z := Y.new i (Nat.not_lt.mp h) h2
      cases q : H (r2 i) with
      | none => rfl
      | some o =>
        have := X.frm _ o q fun j hj e => by
          have e2 : r2 j = r2 i := by rw [Y.rho j (Nat.lt_of_lt_of_le hj X.nx), X.rho j hj]; exact e
          have := inj j i (Nat.lt_of_lt_of_le hj (Nat.le_trans X.nx Y.nx)) h2 e2
          omega
        rw [z] at this; cases this

/-! ### making and writing -/
def at1 (r : Nat → Addr) (n : Nat) (p : Addr) : Nat → Addr := fun i => if i = n then p else r i
theorem at1_lt {r : Nat → Addr} {n : Nat} {p : Addr} {i : Nat} (h : i < n) : at1 r n p i = r i := if_neg (Nat.ne_of_lt h)
theorem at1_self {r : Nat → Addr} {n : Nat} {p : Addr} : at1 r n p n = p := if_pos rfl
theorem imm_upd {p : Addr} {o : HO} (hp : ∀ u, H p = some u → immO u = false) : Imm H (upd H p o) := fun a u e t => by
  by_cases q : a = p
  · subst q
    have := hp u e
    rw [t] at this; cases this
  · rw [upd_ne q]; exact e
theorem Rep.alloc (R : Rep K G r C H) {p : Addr} {ho : HO} {o : O} (hp : H p = none) (new : RO K G (C.next + 1) (at1 r C.next p) (upd H p ho) p o) :
    Rep K G (at1 r C.next p) (C.new o) (upd H p ho) ∧ Ext C (C.new o) r (at1 r C.next p) H (upd H p ho) := by
  have np : ∀ i, i < C.next → r i ≠ p := fun i hi q => by
    obtain ⟨u, e, _⟩ := R.at hi
    rw [q, hp] at e; cases e
  have tp : Imm H (upd H p ho) := imm_upd (fun u e => by rw [hp] at e; cases e)
  refine ⟨⟨fun i j hi hj e => ?_, fun i hi => ?_⟩, ⟨Nat.le_succ _, fun i hi => at1_lt hi, fun a u e hf => ?_, fun i h1 h2 => ?_⟩⟩
  · have hi : i < C.next + 1 := hi
    have hj : j < C.next + 1 := hj
    by_cases i1 : i = C.next
    · by_cases j1 : j = C.next
      · omega
      · rw [i1, at1_self, at1_lt (show j < C.next by omega)] at e
        exact absurd e.symm (np j (by omega))
    · by_cases j1 : j = C.next
      · rw [j1, at1_self, at1_lt (show i < C.next by omega)] at e
        exact absurd e (np i (by omega))
      · rw [at1_lt (show i < C.next by omega), at1_lt (show j < C.next by omega)] at e
        exact R.inj i j (by omega) (by omega) e
  · have hi : i < C.next + 1 := hi
    rw [Hc.get_new]
    by_cases i1 : i = C.next
    · subst i1
      refine ⟨o, if_pos rfl, ?_⟩
      rw [at1_self]
      exact new
    · have hi' : i < C.next := by omega
      obtain ⟨o', e, h⟩ := R.obj i hi'
      refine ⟨o', by rw [if_neg i1]; exact e, ?_⟩
      rw [at1_lt hi']
      exact RO.mono (Nat.le_succ _) (fun j hj => at1_lt hj) tp (upd_ne (np i hi')) o' h
  · rw [upd_ne (ne_of_none e hp)]; exact e
  · have h2 : i < C.next + 1 := h2
    have : i = C.next := by omega
    subst this
    rw [at1_self]; exact hp
theorem Rep.write (R : Rep K G r C H) {a : Nat} {ho : HO} {o : O} (ha : a < C.next) (new : RO K G C.next r (upd H (r a) ho) (r a) o) :
    Rep K G r (C.put a o) (upd H (r a) ho) ∧ Ext C (C.put a o) r r H (upd H (r a) ho) := by
  obtain ⟨u0, e0, t0⟩ := R.at ha
  have tp : Imm H (upd H (r a) ho) := imm_upd (fun u e => by rw [e0] at e; cases e; exact t0)
  refine ⟨⟨R.inj, fun i hi => ?_⟩, ⟨Nat.le_refl _, fun _ _ => rfl, fun b u e hf => ?_, fun i h1 h2 => absurd h2 (Nat.not_lt.mpr h1)⟩⟩
  · have hi : i < C.next := hi
    rw [Hc.get_put _ _ _ _ ha]
    by_cases i1 : i = a
    · subst i1
      exact ⟨o, if_pos rfl, new⟩
    · obtain ⟨o', e, h⟩ := R.obj i hi
      refine ⟨o', by rw [if_neg i1]; exact e, ?_⟩
      exact RO.mono (Nat.le_refl _) (fun _ _ => rfl) tp (upd_ne fun q => i1 (R.inj i a hi ha q)) o' h
  · rw [upd_ne (fun q => hf a ha q.symm)]; exact e
theorem Imm.alloc {p : Addr} {o : HO} (hp : H p = none) : Imm H (upd H p o) := imm_upd (fun u e => by rw [hp] at e; cases e)
theorem Rep.immW (R : Rep K G r C H) {a : Nat} {ho : HO} (ha : a < C.next) : Imm H (upd H (r a) ho) := by
  obtain ⟨u0, e0, t0⟩ := R.at ha
  exact imm_upd (fun u e => by rw [e0] at e; cases e; exact t0)
end
end BL
set_option Elab.async false
set_option linter.all false
set_option maxRecDepth 100000
/-! BL4: what is wanted behind; operations on values. -/
namespace BL
open PySem L2

/-! ### trees of small things -/
section
variable {α β : Type} {C : Hc} {P : XR β → Prop}
theorem wp_chk {b : Bool} {f : Unit → M β} : ((M.chk b).bind f C).wp P ↔ b = true ∧ (f () C).wp P := by
  cases b with
  | true => exact ⟨fun h => ⟨rfl, h⟩, fun h => h.2⟩
  | false => exact ⟨fun h => h.elim, fun h => by cases h.1⟩
theorem wp_pure {a : α} {f : α → M β} : ((M.pure a).bind f C).wp P ↔ (f a C).wp P := Iff.rfl
theorem wp_get {a : Nat} {f : O → M β} : ((M.get a).bind f C).wp P ↔ ∃ o, C.get a = some o ∧ (f o C).wp P := by
  unfold M.bind M.get
  cases e : C.get a with
  | none => exact ⟨fun h => h.elim, fun ⟨_, h, _⟩ => by cases h⟩
  | some o => exact ⟨fun h => ⟨o, rfl, h⟩, fun ⟨o', h, q⟩ => by cases h; exact q⟩
theorem wp_opt {o : Option α} {f : α → M β} : ((M.opt o).bind f C).wp P ↔ ∃ a, o = some a ∧ (f a C).wp P := by
  cases o with
  | none => exact ⟨fun h => h.elim, fun ⟨_, h, _⟩ => by cases h⟩
  | some a => exact ⟨fun h => ⟨a, rfl, h⟩, fun ⟨a', h, q⟩ => by cases h; exact q⟩
theorem wp_opt' {o : Option β} : (M.opt o C).wp P ↔ ∃ a, o = some a ∧ P (.ok a C) := by
  cases o with
  | none => exact ⟨fun h => h.elim, fun ⟨_, h, _⟩ => by cases h⟩
  | some a => exact ⟨fun h => ⟨a, rfl, h⟩, fun ⟨a', h, q⟩ => by cases h; exact q⟩
theorem wp_new {o : O} {f : W → M β} : ((M.new o).bind f C).wp P ↔ (f (.ref C.next) (C.new o)).wp P := Iff.rfl
theorem wp_put {a : Nat} {o : O} {f : Unit → M β} : ((M.put a o).bind f C).wp P ↔ (f () (C.put a o)).wp P := Iff.rfl
theorem wp_no {f : α → M β} : ((M.no).bind f C).wp P ↔ False := Iff.rfl
theorem wp_bindM {m : M α} {f : α → M β} : (m.bind f C).wp P ↔ (m C).wp fun r => match r with
    | .ok a C1 => (f a C1).wp P
    | .exc x C1 => P (.exc x C1) := by
  unfold M.bind
  rw [Tr.wp_bind]
  constructor
  · intro h
    refine Tr.wp_mono (fun r hr => ?_) h
    cases r with
    | ok a C1 => exact hr
    | exc x C1 => exact hr
  · intro h
    refine Tr.wp_mono (fun r hr => ?_) h
    cases r with
    | ok a C1 => exact hr
    | exc x C1 => exact hr
end
theorem fit_le {n : Nat} (h : fitB n = true) : n ≤ sizeLine := by
  rw [sizeLine_eq]
  exact Nat.le_of_ble_eq_true h

/-! ### lists of values -/
section
variable {K : PySem.W.Frag} {n : Nat} {r : Nat → Addr} {H : Hp}
theorem RVs.nil : RVs K n r H [] [] := by unfold RVs; rfl
theorem RVs.cons {w : W} {ws : List W} {v : V} {vs : List V} (h : RV K n r H w v) (t : RVs K n r H ws vs) : RVs K n r H (w :: ws) (v :: vs) := by unfold RVs; exact ⟨v, vs, rfl, h, t⟩
theorem RVs.nil_iff {vs : List V} (h : RVs K n r H [] vs) : vs = [] := by unfold RVs at h; exact h
theorem RVs.cons_iff {w : W} {ws : List W} {vs : List V} (h : RVs K n r H (w :: ws) vs) : ∃ v vs', vs = v :: vs' ∧ RV K n r H w v ∧ RVs K n r H ws vs' := by unfold RVs at h; exact h
theorem RVs.length : ∀ {ws : List W} {vs : List V}, RVs K n r H ws vs → ws.length = vs.length
  | [], _, h => by have e := h.nil_iff; subst e; rfl
  | w :: ws, _, h => by
    obtain ⟨v, vs', rfl, _, t⟩ := h.cons_iff
    simp [RVs.length t]
theorem RVs.get : ∀ {ws : List W} {vs : List V} {i : Nat} {w : W}, RVs K n r H ws vs → ws[i]? = some w → ∃ v, vs[i]? = some v ∧ RV K n r H w v
  | [], _, _, _, _, e => by simp at e
  | a :: ws, _, 0, w, h, e => by
    obtain ⟨v, vs', rfl, q, t⟩ := h.cons_iff
    simp at e; subst e
    exact ⟨v, rfl, q⟩
  | a :: ws, _, i + 1, w, h, e => by
    obtain ⟨v, vs', rfl, q, t⟩ := h.cons_iff
    obtain ⟨u, e1, e2⟩ := RVs.get (i := i) (w := w) t (by simpa using e)
    exact ⟨u, by simpa using e1, e2⟩
theorem RVs.append : ∀ {ws us : List W} {vs xs : List V}, RVs K n r H ws vs → RVs K n r H us xs → RVs K n r H (ws ++ us) (vs ++ xs)
  | [], _, _, _, h, q => by rw [h.nil_iff]; exact q
  | w :: ws, _, _, _, h, q => by
    obtain ⟨v, vs', rfl, a, t⟩ := h.cons_iff
    exact .cons a (RVs.append t q)
theorem RVs.take : ∀ {ws : List W} {vs : List V} (k : Nat), RVs K n r H ws vs → RVs K n r H (ws.take k) (vs.take k)
  | _, _, 0, _ => by simp; exact .nil
  | [], _, _ + 1, h => by rw [h.nil_iff]; exact .nil
  | w :: ws, _, k + 1, h => by
    obtain ⟨v, vs', rfl, a, t⟩ := h.cons_iff
    exact .cons a (RVs.take k t)
theorem RVs.drop : ∀ {ws : List W} {vs : List V} (k : Nat), RVs K n r H ws vs → RVs K n r H (ws.drop k) (vs.drop k)
  | _, _, 0, h => h
  | [], _, _ + 1, h => by rw [h.nil_iff]; exact .nil
  | w :: ws, _, k + 1, h => by
    obtain ⟨v, vs', rfl, a, t⟩ := h.cons_iff
    exact RVs.drop k t
theorem RVs.reverse : ∀ {ws : List W} {vs : List V}, RVs K n r H ws vs → RVs K n r H ws.reverse vs.reverse
  | [], _, h => by rw [h.nil_iff]; exact .nil
  | w :: ws, _, h => by
    obtain ⟨v, vs', rfl, a, t⟩ := h.cons_iff
    rw [List.reverse_cons, List.reverse_cons]
    exact (RVs.reverse t).append (.cons a .nil)
theorem RVs.set {w : W} {v : V} (q : RV K n r H w v) : ∀ {ws : List W} {vs : List V} (k : Nat), RVs K n r H ws vs → RVs K n r H (ws.set k w) (vs.set k v)
  | [], _, _, h => by rw [h.nil_iff]; exact .nil
  | a :: ws, _, 0, h => by
    obtain ⟨v', vs', rfl, _, t⟩ := h.cons_iff
    exact .cons q t
  | a :: ws, _, k + 1, h => by
    obtain ⟨v', vs', rfl, b, t⟩ := h.cons_iff
    exact .cons b (RVs.set q k t)
theorem RVs.atI {ws : List W} {vs : List V} {i : Int} {w : W} (h : RVs K n r H ws vs) (e : atI ws i = some w) : ∃ v, atI vs i = some v ∧ RV K n r H w v := by
  unfold L2.atI at e ⊢
  rw [← h.length]
  cases q : ixN ws.length i with
  | none => rw [q] at e; cases e
  | some j =>
    rw [q] at e
    exact h.get e
theorem RVs.cut {ws : List W} {vs : List V} (lo hi : Option Int) (h : RVs K n r H ws vs) : RVs K n r H (cutW ws lo hi) (cutV vs lo hi) := by
  unfold cutW cutV
  rw [h.length]
  exact (h.drop _).take _
theorem RVs.rep {ws : List W} {vs : List V} (h : RVs K n r H ws vs) : ∀ k : Nat, RVs K n r H (List.replicate k ws).flatten (List.replicate k vs).flatten
  | 0 => .nil
  | k + 1 => by
    rw [List.replicate_succ, List.replicate_succ, List.flatten_cons, List.flatten_cons]
    exact h.append (RVs.rep h k)
theorem RVs.one {w : W} {vs : List V} (h : RVs K n r H [w] vs) : ∃ v, vs = [v] ∧ RV K n r H w v := by
  obtain ⟨v, vs', rfl, q, t⟩ := h.cons_iff
  rw [t.nil_iff]
  exact ⟨v, rfl, q⟩
theorem RVs.strs : ∀ {ws : List W} {vs : List V} {ys : List Str}, RVs K n r H ws vs → strsW ws = some ys → vs = ys.map V.str
  | [], _, _, h, e => by cases e; rw [h.nil_iff]; rfl
  | w :: ws, _, ys, h, e => by
    obtain ⟨v, vs', rfl, q, t⟩ := h.cons_iff
    cases w with
    | str x =>
      unfold strsW at e
      cases z : strsW ws with
      | none => rw [z] at e; cases e
      | some zs =>
        rw [z] at e
        cases e
        unfold RV at q
        rw [q, RVs.strs t z]
        rfl
    | _ => cases e
theorem RVs.ints : ∀ {ws : List W} {vs : List V} {ys : List Int}, RVs K n r H ws vs → intsW ws = some ys → vs = ys.map V.int
  | [], _, _, h, e => by cases e; rw [h.nil_iff]; rfl
  | w :: ws, _, ys, h, e => by
    obtain ⟨v, vs', rfl, q, t⟩ := h.cons_iff
    cases w with
    | int x =>
      unfold intsW at e
      cases z : intsW ws with
      | none => rw [z] at e; cases e
      | some zs =>
        rw [z] at e
        cases e
        unfold RV at q
        rw [q, RVs.ints t z]
        rfl
    | _ => cases e
theorem RVs.bools : ∀ {ws : List W} {vs : List V} {ys : List Bool}, RVs K n r H ws vs → boolsW ws = some ys → vs = ys.map V.bl
  | [], _, _, h, e => by cases e; rw [h.nil_iff]; rfl
  | w :: ws, _, ys, h, e => by
    obtain ⟨v, vs', rfl, q, t⟩ := h.cons_iff
    cases w with
    | bl x =>
      unfold boolsW at e
      cases z : boolsW ws with
      | none => rw [z] at e; cases e
      | some zs =>
        rw [z] at e
        cases e
        unfold RV at q
        rw [q, RVs.bools t z]
        rfl
    | _ => cases e
theorem RV.flat {w : W} {v : V} (h : RV K n r H w v) (f : flatW w = true) : v = toV w ∧ flatV v = true := by
  cases w <;> first
    | (unfold RV at h; subst h; exact ⟨rfl, rfl⟩)
    | cases f
theorem RVs.flat : ∀ {ws : List W} {vs : List V}, RVs K n r H ws vs → ws.all flatW = true → vs = ws.map toV ∧ vs.all flatV = true
  | [], _, h, _ => by rw [h.nil_iff]; exact ⟨rfl, rfl⟩
  | w :: ws, _, h, f => by
    obtain ⟨v, vs', rfl, q, t⟩ := h.cons_iff
    rw [List.all_cons, Bool.and_eq_true] at f
    obtain ⟨e1, e2⟩ := q.flat f.1
    obtain ⟨e3, e4⟩ := RVs.flat t f.2
    exact ⟨by rw [e1, e3]; rfl, by rw [List.all_cons, e2, e4]; rfl⟩
end

/-! ### what is wanted behind -/
abbrev Rl (α β : Type) := Nat → (Nat → Addr) → Hp → α → β → Prop
abbrev RelW (K : PySem.W.Frag) : Rl W V := fun n r H w v => RV K n r H w v
abbrev RelL (K : PySem.W.Frag) : Rl (List W) (List V) := fun n r H w v => RVs K n r H w v
abbrev RelB : Rl Bool Bool := fun _ _ _ a b => a = b
section
variable (K : PySem.W.Frag) (G : Sg)
def Post {α β : Type} (Rel : Rl α β) (Wx : WX) (σ : St) (C : Hc) (r : Nat → Addr) (H : Hp) (Q : β → Hp → Prop) : XR α → Prop
  | .ok a C' => ∀ r' H' b, Rep K G r' C' H' → Ext C C' r r' H H' → Rel C'.next r' H' a b → Q b H'
  | .exc x C' => ∀ r' H' d l, Rep K G r' C' H' → Ext C C' r r' H H' → H' d = some (.xd l) → RFs K G C'.next r' H' x.fs l → Wx (.ref (cAd K G x.cls)) (some d) σ H'
def tl {α β : Type} (Rel : Rl α β) (Wx : WX) (m : Env → M α) : St → Hp → (β → Hp → Prop) → Prop := fun σ H Q =>
  ∃ C r v, Rep K G r C H ∧ RE K C.next r H v σ ∧ (m v C).wp (Post K G Rel Wx σ C r H Q)
end
section
variable {K : PySem.W.Frag} {G : Sg} {α β γ δ : Type} {RA : Rl α β} {RC : Rl γ δ} {Wx : WX} {σ : St} {C C1 : Hc} {r r1 : Nat → Addr} {H H1 : Hp} {Q : δ → Hp → Prop} {Q1 : β → Hp → Prop}
theorem Post.shift (X : Ext C C1 r r1 H H1) : ∀ {x : XR γ}, Post K G RC Wx σ C r H Q x → Post K G RC Wx σ C1 r1 H1 Q x
  | .ok a C2, h => fun r2 H2 b R2 X2 ra => h r2 H2 b R2 (X.trans X2 R2.inj) ra
  | .exc x C2, h => fun r2 H2 d l R2 X2 hd hf => h r2 H2 d l R2 (X.trans X2 R2.inj) hd hf
theorem tl_intro {m : Env → M α} {f : α → M γ} {v : Env} (R : Rep K G r C H) (E : RE K C.next r H v σ) (hw : ((m v).bind f C).wp (Post K G RC Wx σ C r H Q))
    (k : ∀ C1 r1 H1 a b, Rep K G r1 C1 H1 → Ext C C1 r r1 H H1 → RA C1.next r1 H1 a b → (f a C1).wp (Post K G RC Wx σ C1 r1 H1 Q) → Q1 b H1) : tl K G RA Wx m σ H Q1 := by
  refine ⟨C, r, v, R, E, Tr.wp_mono (fun x hx => ?_) (wp_bindM.mp hw)⟩
  cases x with
  | ok a C1 => exact fun r1 H1 b R1 X1 ra => k C1 r1 H1 a b R1 X1 ra (Tr.wp_mono (fun _ h => Post.shift X1 h) hx)
  | exc x C1 => exact hx
/-- the last part -/
theorem tl_last {m : Env → M α} {v : Env} (R : Rep K G r C H) (E : RE K C.next r H v σ) (hw : (m v C).wp (Post K G RA Wx σ C r H Q1)) : tl K G RA Wx m σ H Q1 := ⟨C, r, v, R, E, hw⟩
theorem Post.here {x : α} {b : β} (R : Rep K G r C H) (ra : RA C.next r H x b) (h : Post K G RA Wx σ C r H Q1 (.ok x C)) : Q1 b H := h r H b R .refl ra
/-- a new list -/
theorem Post.newL {Q : VK} {ws : List W} {vs : List V} (R : Rep K G r C H) (h : Post K G (RelW K) Wx σ C r H Q (.ok (.ref C.next) (C.new (.lst ws)))) (rv : RVs K C.next r H ws vs) : ∀ p, H p = none → Q (.ref p) (upd H p (.lst vs)) := fun p hp => by
  have tp : Imm H (upd H p (.lst vs)) := Imm.alloc hp
  obtain ⟨R1, X1⟩ := R.alloc (ho := .lst vs) (o := .lst ws) hp ⟨vs, upd_same, RVs.mono (Nat.le_succ _) (fun j hj => at1_lt hj) tp ws vs rv⟩
  refine h _ _ _ R1 X1 ?_
  show RV K (C.next + 1) _ _ (.ref C.next) _
  unfold RV
  exact ⟨Nat.lt_succ_self _, by rw [at1_self]⟩
end

/-! ### rules by values -/
section
variable {X : Cx} {f : Value → Value → Sem Value} {r r' : R2}
theorem OpR.imp (h : ∀ x y H Q, r' x y H Q → r x y H Q) (o : OpR X f r) : OpR X f r' := fun pins s σ H x y v u Q I rx ry q => o pins s σ H x y v u Q I rx ry (h x y H Q q)
theorem PE.imp {e : Expr} {t t' : TE} (h : ∀ σ H Q, t' σ H Q → t σ H Q) (p : PE X e t) : PE X e t' := ⟨fun pins s σ H Q I q => p.run pins s σ H Q I (h σ H Q q)⟩
theorem PT.imp {e : Expr} {t t' : TT} (h : ∀ σ H Q, t' σ H Q → t σ H Q) (p : PT X e t) : PT X e t' := ⟨fun pins s σ H Q I q => p.run pins s σ H Q I (h σ H Q q)⟩
theorem PW.imp {e : Expr} {t t' : TT} (h : ∀ σ H Q, t' σ H Q → t σ H Q) (p : PW X e t) : PW X e t' := ⟨fun wh pins s σ H Q I q => p.run wh pins s σ H Q I (h σ H Q q)⟩
theorem PA.imp {e : List Expr} {t t' : TA} (h : ∀ σ H Q, t' σ H Q → t σ H Q) (p : PA X e t) : PA X e t' := ⟨fun pos pins s σ H Q I q => p.run pos pins s σ H Q I (h σ H Q q)⟩
theorem PI.imp {tg e : Expr} {t t' : TI} (h : ∀ σ H Q, t' σ H Q → t σ H Q) (p : PI X tg e t) : PI X tg e t' := ⟨fun pins s σ H Q I q => p.run pins s σ H Q I (h σ H Q q)⟩
theorem PS.imp {e : Stmt} {t t' : TS} (h : ∀ D σ H, t' D σ H → t D σ H) (p : PS X e t) : PS X e t' := ⟨fun pins s σ H D I q => p.run pins s σ H D I (h D σ H q)⟩
theorem PSs.imp {e : List Stmt} {t t' : TS} (h : ∀ D σ H, t' D σ H → t D σ H) (p : PSs X e t) : PSs X e t' := ⟨fun pins s σ H D I q => p.run pins s σ H D I (h D σ H q)⟩
end
/-- two values, by an operation of ours -/
def Ok2 (K : PySem.W.Frag) (G : Sg) (f : W → W → M W) : R2 := fun x y H Q => ∃ C r a b Wx σ, Rep K G r C H ∧ RV K C.next r H a x ∧ RV K C.next r H b y ∧ (f a b C).wp (Post K G (RelW K) Wx σ C r H Q)
section
variable {X : Cx} {G : Sg}
theorem Rep.lst {K : PySem.W.Frag} {G : Sg} {r : Nat → Addr} {C : Hc} {H : Hp} (R : Rep K G r C H) {a : Nat} {v : V} {ws : List W} (ha : RV K C.next r H (.ref a) v) (e : C.get a = some (.lst ws)) :
    ∃ vs, v = .ref (r a) ∧ H (r a) = some (.lst vs) ∧ RVs K C.next r H ws vs := by
  unfold RV at ha
  obtain ⟨o, e', h⟩ := R.obj a ha.1
  rw [e] at e'; cases e'
  obtain ⟨vs, q, l⟩ := h
  exact ⟨vs, ha.2, q, l⟩
theorem i64_ok {i : Int} (h : i64 i = true) : -(2 ^ 64) < i ∧ i < 2 ^ 64 := by
  unfold i64 at h
  rw [Bool.and_eq_true, decide_eq_true_eq, decide_eq_true_eq] at h
  exact h
theorem bin_ok (op : Operator) : OpR X (binaryOp op) (Ok2 X.K G (binW op)) := by
  intro pins s σ H x y v u Q I rx ry h
  obtain ⟨C, r, a, b, Wx, σ', R, ra, rb, hw⟩ := h
  unfold binW at hw
  split at hw
  · unfold RV at ra rb
    exact op_add pins s σ H x y v u Q I rx ry ⟨_, _, ra, rb, Post.here R (by unfold RelW RV; rfl) hw⟩
  · unfold RV at ra rb
    exact op_sub pins s σ H x y v u Q I rx ry ⟨_, _, ra, rb, Post.here R (by unfold RelW RV; rfl) hw⟩
  · unfold RV at ra rb
    obtain ⟨hc, hw⟩ := wp_chk.mp hw
    refine op_mul pins s σ H x y v u Q I rx ry ⟨_, _, ra, rb, ?_, Post.here R (by unfold RelW RV; rfl) hw⟩
    rw [Bool.or_eq_true] at hc
    rcases hc with hc | hc
    · exact .inl (i64_ok hc)
    · exact .inr (i64_ok hc)
  · unfold RV at ra rb
    obtain ⟨hc, hw⟩ := wp_chk.mp hw
    exact op_mod pins s σ H x y v u Q I rx ry ⟨_, _, ra, rb, of_decide_eq_true hc, Post.here R (by unfold RelW RV; rfl) hw⟩
  · unfold RV at ra rb
    obtain ⟨hc, hw⟩ := wp_chk.mp hw
    rw [Bool.and_eq_true, decide_eq_true_eq, decide_eq_true_eq] at hc
    exact op_fdiv pins s σ H x y v u Q I rx ry ⟨_, _, ra, rb, hc, Post.here R (by unfold RelW RV; rfl) hw⟩
  · unfold RV at ra rb
    obtain ⟨hc, hw⟩ := wp_chk.mp hw
    rw [Bool.and_eq_true, Bool.and_eq_true, decide_eq_true_eq, decide_eq_true_eq, decide_eq_true_eq] at hc
    exact op_pow pins s σ H x y v u Q I rx ry ⟨_, _, ra, rb, ⟨hc.1.1, by omega, hc.2⟩, Post.here R (by unfold RelW RV; rfl) hw⟩
  · unfold RV at ra rb
    obtain ⟨hc, hw⟩ := wp_chk.mp hw
    exact op_add_str pins s σ H x y v u Q I rx ry ⟨_, _, ra, rb, fit_le hc, Post.here R (by unfold RelW RV; rfl) hw⟩
  · obtain ⟨o1, e1, hw⟩ := wp_get.mp hw
    obtain ⟨o2, e2, hw⟩ := wp_get.mp hw
    split at hw
    · obtain ⟨hc, hw⟩ := wp_chk.mp hw
      obtain ⟨xs, hx, hX, rxs⟩ := R.lst ra e1
      obtain ⟨ys, hy, hY, rys⟩ := R.lst rb e2
      refine op_cat pins s σ H x y v u Q I rx ry ⟨_, _, xs, ys, hx, hy, hX, hY, ?_, Post.newL R hw (rxs.append rys)⟩
      rw [← rxs.length, ← rys.length]
      exact fit_le hc
    · exact hw.elim
  · obtain ⟨o1, e1, hw⟩ := wp_get.mp hw
    split at hw
    · obtain ⟨hc, hw⟩ := wp_chk.mp hw
      obtain ⟨xs, hx, hX, rxs⟩ := R.lst ra e1
      unfold RV at rb
      rw [Bool.and_eq_true, Bool.and_eq_true, decide_eq_true_eq, decide_eq_true_eq] at hc
      obtain ⟨⟨h1, h2⟩, h3⟩ := hc
      refine op_rep pins s σ H x y v u Q I rx ry ⟨_, _, xs, hx, rb, hX, by omega, by omega, ?_, Post.newL R hw (rxs.rep _)⟩
      rw [← rxs.length]
      exact fit_le h3
    · exact hw.elim
  · exact hw.elim

/-! ### data -/
theorem rdL_ok {K : PySem.W.Frag} {n : Nat} {r : Nat → Addr} {H : Hp} {f : W → Option PyData} (hf : ∀ w d v, RV K n r H w v → f w = some d → Dp K H v d) : ∀ (ws : List W) (ds : List PyData) (vs : List V), RVs K n r H ws vs → rdL f ws = some ds → DpAll K H vs ds
  | [], ds, vs, h, e => by
    have q := h.nil_iff
    subst q
    cases e
    exact .nil
  | w :: ws, ds, vs, h, e => by
    unfold rdL at e
    obtain ⟨v, vs', rfl, q, t⟩ := h.cons_iff
    split at e
    · rename_i d e1
      split at e
      · rename_i ds' e2
        cases e
        exact .cons (hf w d v q e1) (rdL_ok hf ws ds' vs' t e2)
      · cases e
    · cases e
theorem rdW_ok {K : PySem.W.Frag} {G : Sg} {r : Nat → Addr} {C : Hc} {H : Hp} (R : Rep K G r C H) : ∀ (n : Nat) (w : W) (d : PyData) (v : V), RV K C.next r H w v → rdW C n w = some d → Dp K H v d
  | 0, w, d, v, h, e => by
    unfold rdW at e
    cases w with
    | non => unfold RV at h; subst h; cases e; exact .non
    | bl b => unfold RV at h; subst h; cases e; exact .bl b
    | int i => unfold RV at h; subst h; cases e; exact .int i
    | str x => unfold RV at h; subst h; cases e; exact .str x
    | _ => cases e
  | n + 1, w, d, v, h, e => by
    unfold rdW at e
    cases w with
    | non => unfold RV at h; subst h; cases e; exact .non
    | bl b => unfold RV at h; subst h; cases e; exact .bl b
    | int i => unfold RV at h; subst h; cases e; exact .int i
    | str x => unfold RV at h; subst h; cases e; exact .str x
    | glo x => cases e
    | ty t => cases e
    | scr ns => cases e
    | tup ws =>
      dsimp only at e
      unfold RV at h
      obtain ⟨a, vs, rfl, q, l⟩ := h
      cases z : rdL (rdW C n) ws with
      | none => rw [z] at e; cases e
      | some ds =>
        rw [z] at e
        cases e
        exact .tup q (rdL_ok (fun w d v hv hd => rdW_ok R n w d v hv hd) ws ds vs l z)
    | ref a =>
      dsimp only at e
      split at e
      · rename_i ws e1
        obtain ⟨vs, rfl, hX, l⟩ := R.lst h e1
        cases z : rdL (rdW C n) ws with
        | none => rw [z] at e; cases e
        | some ds =>
          rw [z] at e
          cases e
          exact .lst (SqL.of hX) (rdL_ok (fun w d v hv hd => rdW_ok R n w d v hv hd) ws ds vs l z)
      · cases e
/-- a test of two values, by an operation of ours -/
def Ok2B (K : PySem.W.Frag) (G : Sg) (f : W → W → M Bool) : R2 := fun x y H Q => ∃ C r a b Wx σ, Rep K G r C H ∧ RV K C.next r H a x ∧ RV K C.next r H b y ∧ (f a b C).wp (Post K G RelB Wx σ C r H fun k H' => Q (.bl k) H')
theorem eqD'_ok (hu : X.A.units + 64 < cLine) : OpR X (compareOp .Eq) (Ok2B X.K G eqD') := by
  intro pins s σ H x y v u Q I rx ry h
  obtain ⟨C, r, a, b, Wx, σ', R, ra, rb, hw⟩ := h
  unfold eqD' at hw
  split at hw
  · rename_i d e h1 h2
    cases hs : SeqAt.shaped d && SeqAt.shaped e with
    | false => rw [hs] at hw; exact hw.elim
    | true =>
      rw [hs] at hw
      rw [Bool.and_eq_true] at hs
      exact op_eqD hu pins s σ H x y v u Q I rx ry ⟨d, e, rdW_ok R _ _ _ _ ra h1, rdW_ok R _ _ _ _ rb h2, hs.1, hs.2, Post.here (RA := RelB) R rfl hw⟩
  · exact hw.elim
theorem neD'_ok (hu : X.A.units + 64 < cLine) : OpR X (compareOp .NotEq) (Ok2B X.K G fun x y => (eqD' x y).bind fun b => M.pure (!b)) := by
  intro pins s σ H x y v u Q I rx ry h
  obtain ⟨C, r, a, b, Wx, σ', R, ra, rb, hw⟩ := h
  have hw := wp_bindM.mp hw
  unfold eqD' at hw
  split at hw
  · rename_i d e h1 h2
    cases hs : SeqAt.shaped d && SeqAt.shaped e with
    | false => rw [hs] at hw; exact hw.elim
    | true =>
      rw [hs] at hw
      rw [Bool.and_eq_true] at hs
      exact op_neD hu pins s σ H x y v u Q I rx ry ⟨d, e, rdW_ok R _ _ _ _ ra h1, rdW_ok R _ _ _ _ rb h2, hs.1, hs.2, Post.here (RA := RelB) (Wx := Wx) (σ := σ') R rfl hw⟩
  · exact hw.elim
theorem decV_str {a b : Str} : decide (V.str a = V.str b) = decide (a = b) := by
  by_cases e : a = b
  · subst e; simp
  · rw [decide_eq_false e, decide_eq_false (fun q => e (V.str.inj q))]
theorem decV_int {a b : Int} : decide (V.int a = V.int b) = decide (a = b) := by
  by_cases e : a = b
  · subst e; simp
  · rw [decide_eq_false e, decide_eq_false (fun q => e (V.int.inj q))]
theorem eqD_ok (hu : X.A.units + 64 < cLine) : OpR X (compareOp .Eq) (Ok2B X.K G eqD) := by
  intro pins s σ H x y v u Q I rx ry h
  obtain ⟨C, r, a, b, Wx, σ', R, ra, rb, hw⟩ := h
  unfold eqD at hw
  split at hw
  · unfold RV at ra rb
    subst ra rb
    refine op_eq pins s σ H _ _ v u Q I rx ry ⟨rfl, ?_⟩
    rw [decV_str]
    exact Post.here (RA := RelB) R rfl hw
  · unfold RV at ra rb
    subst ra rb
    refine op_eq pins s σ H _ _ v u Q I rx ry ⟨rfl, ?_⟩
    rw [decV_int]
    exact Post.here (RA := RelB) R rfl hw
  · exact eqD'_ok (G := G) hu pins s σ H x y v u Q I rx ry ⟨C, r, _, _, Wx, σ', R, ra, rb, hw⟩
theorem neD_ok (hu : X.A.units + 64 < cLine) : OpR X (compareOp .NotEq) (Ok2B X.K G fun x y => (eqD x y).bind fun b => M.pure (!b)) := by
  intro pins s σ H x y v u Q I rx ry h
  obtain ⟨C, r, a, b, Wx, σ', R, ra, rb, hw⟩ := h
  dsimp only at hw
  unfold eqD at hw
  split at hw
  · unfold RV at ra rb
    subst ra rb
    refine op_ne pins s σ H _ _ v u Q I rx ry ⟨rfl, ?_⟩
    rw [decV_str]
    exact Post.here (RA := RelB) (Wx := Wx) (σ := σ') R rfl hw
  · unfold RV at ra rb
    subst ra rb
    refine op_ne pins s σ H _ _ v u Q I rx ry ⟨rfl, ?_⟩
    rw [decV_int]
    exact Post.here (RA := RelB) (Wx := Wx) (σ := σ') R rfl hw
  · exact neD'_ok (G := G) hu pins s σ H x y v u Q I rx ry ⟨C, r, _, _, Wx, σ', R, ra, rb, hw⟩
theorem ltW_ok : OpR X (compareOp .Lt) (Ok2B X.K G fun x y => M.opt (ltB x y)) := by
  intro pins s σ H x y v u Q I rx ry h
  obtain ⟨C, r, a, b, Wx, σ', R, ra, rb, hw⟩ := h
  obtain ⟨k, e, hw⟩ := wp_opt'.mp hw
  unfold ltB at e
  split at e
  · cases e
    unfold RV at ra rb
    exact op_lt pins s σ H x y v u Q I rx ry ⟨_, _, ra, rb, Post.here (RA := RelB) R rfl hw⟩
  · cases e
theorem leW_ok : OpR X (compareOp .LtE) (Ok2B X.K G fun x y => M.opt (leB x y)) := by
  intro pins s σ H x y v u Q I rx ry h
  obtain ⟨C, r, a, b, Wx, σ', R, ra, rb, hw⟩ := h
  obtain ⟨k, e, hw⟩ := wp_opt'.mp hw
  unfold leB at e
  split at e
  · cases e
    unfold RV at ra rb
    exact op_le pins s σ H x y v u Q I rx ry ⟨_, _, ra, rb, Post.here (RA := RelB) R rfl hw⟩
  · cases e
theorem gtW_ok : OpR X (compareOp .Gt) (Ok2B X.K G fun x y => M.opt (ltB y x)) := by
  intro pins s σ H x y v u Q I rx ry h
  obtain ⟨C, r, a, b, Wx, σ', R, ra, rb, hw⟩ := h
  obtain ⟨k, e, hw⟩ := wp_opt'.mp hw
  unfold ltB at e
  split at e
  · cases e
    unfold RV at ra rb
    exact op_gt pins s σ H x y v u Q I rx ry ⟨_, _, ra, rb, Post.here (RA := RelB) R rfl hw⟩
  · cases e
theorem geW_ok : OpR X (compareOp .GtE) (Ok2B X.K G fun x y => M.opt (leB y x)) := by
  intro pins s σ H x y v u Q I rx ry h
  obtain ⟨C, r, a, b, Wx, σ', R, ra, rb, hw⟩ := h
  obtain ⟨k, e, hw⟩ := wp_opt'.mp hw
  unfold leB at e
  split at e
  · cases e
    unfold RV at ra rb
    exact op_ge pins s σ H x y v u Q I rx ry ⟨_, _, ra, rb, Post.here (RA := RelB) R rfl hw⟩
  · cases e
theorem one_sign {c : Str} {k : Nat} (h : c.cps.toList = [k]) : c = ⟨#[k]⟩ := by
  obtain ⟨⟨l⟩⟩ := c
  cases h
  rfl
theorem sgnW_ok {x : W} {k : Nat} (h : sgnW x = some k) : x = .str ⟨#[k]⟩ := by
  unfold sgnW at h
  split at h
  · split at h
    · rename_i e
      cases h
      rw [one_sign e]
    · cases h
  · cases h
theorem inW_ok : OpR X (compareOp .In) (Ok2B X.K G inW) := by
  intro pins s σ H x y v u Q I rx ry h
  obtain ⟨C, r, a, b, Wx, σ', R, ra, rb, hw⟩ := h
  unfold inW at hw
  split at hw
  · obtain ⟨hc, hw⟩ := wp_chk.mp hw
    rw [Bool.and_eq_true] at hc
    unfold RV at rb
    obtain ⟨p, vs, hy, q, l⟩ := rb
    obtain ⟨e1, f1⟩ := ra.flat hc.1
    obtain ⟨e2, f2⟩ := l.flat hc.2
    refine op_in_seq pins s σ H x y v u Q I rx ry ⟨p, vs, hy, .inr q, f1, f2, ?_⟩
    rw [e1, e2]
    exact Post.here (RA := RelB) R rfl hw
  · obtain ⟨o, e0, hw⟩ := wp_get.mp hw
    split at hw
    · obtain ⟨hc, hw⟩ := wp_chk.mp hw
      rw [Bool.and_eq_true] at hc
      obtain ⟨vs, hy, hX, l⟩ := R.lst rb e0
      obtain ⟨e1, f1⟩ := ra.flat hc.1
      obtain ⟨e2, f2⟩ := l.flat hc.2
      refine op_in_seq pins s σ H x y v u Q I rx ry ⟨_, vs, hy, .inl (SqL.of hX), f1, f2, ?_⟩
      rw [e1, e2]
      exact Post.here (RA := RelB) R rfl hw
    · exact hw.elim
  · obtain ⟨k, e, hw⟩ := wp_opt.mp hw
    rw [sgnW_ok e] at ra
    unfold RV at ra rb
    exact op_in_sign pins s σ H x y v u Q I rx ry ⟨k, _, ra, rb, Post.here (RA := RelB) R rfl hw⟩
  · exact hw.elim
theorem notInW_ok : OpR X (compareOp .NotIn) (Ok2B X.K G fun x y => (inW x y).bind fun b => M.pure (!b)) := by
  intro pins s σ H x y v u Q I rx ry h
  obtain ⟨C, r, a, b, Wx, σ', R, ra, rb, hw⟩ := h
  have hw : ((inW a b).bind (fun b => M.pure (!b)) C).wp _ := hw
  unfold inW at hw
  split at hw
  · obtain ⟨hc, hw⟩ := wp_chk.mp (wp_bindM.mp hw)
    rw [Bool.and_eq_true] at hc
    unfold RV at rb
    obtain ⟨p, vs, hy, q, l⟩ := rb
    obtain ⟨e1, f1⟩ := ra.flat hc.1
    obtain ⟨e2, f2⟩ := l.flat hc.2
    refine op_notIn_seq pins s σ H x y v u Q I rx ry ⟨p, vs, hy, .inr q, f1, f2, ?_⟩
    rw [e1, e2]
    exact Post.here (RA := RelB) (Wx := Wx) (σ := σ') R rfl hw
  · obtain ⟨o, e0, hw⟩ := wp_get.mp (wp_bindM.mp hw)
    split at hw
    · obtain ⟨hc, hw⟩ := wp_chk.mp hw
      rw [Bool.and_eq_true] at hc
      obtain ⟨vs, hy, hX, l⟩ := R.lst rb e0
      obtain ⟨e1, f1⟩ := ra.flat hc.1
      obtain ⟨e2, f2⟩ := l.flat hc.2
      refine op_notIn_seq pins s σ H x y v u Q I rx ry ⟨_, vs, hy, .inl (SqL.of hX), f1, f2, ?_⟩
      rw [e1, e2]
      exact Post.here (RA := RelB) (Wx := Wx) (σ := σ') R rfl hw
    · exact hw.elim
  · obtain ⟨k, e, hw⟩ := wp_opt.mp (wp_bindM.mp hw)
    rw [sgnW_ok e] at ra
    unfold RV at ra rb
    exact op_notIn_sign pins s σ H x y v u Q I rx ry ⟨k, _, ra, rb, Post.here (RA := RelB) (Wx := Wx) (σ := σ') R rfl hw⟩
  · exact hw.elim
/-! ### subscripts -/
theorem sub_ok : IxR X (Ok2 X.K G subW) := by
  intro value slice pins s σ H x y v u Q I rx ry h hs
  obtain ⟨C, r, a, b, Wx, σ', R, ra, rb, hw⟩ := h
  unfold subW at hw
  split at hw
  · obtain ⟨w, e, hw⟩ := wp_opt'.mp hw
    unfold RV at ra rb
    obtain ⟨p, vs, hx, q, l⟩ := ra
    obtain ⟨z, e1, rz⟩ := l.atI e
    exact ix_tup value slice pins s σ H x y v u Q I rx ry ⟨p, vs, _, z, hx, rb, q, e1, Post.here (RA := RelW X.K) R rz hw⟩ hs
  · obtain ⟨hc, hw⟩ := wp_chk.mp hw
    obtain ⟨w, e, hw⟩ := wp_opt'.mp hw
    unfold RV at ra rb
    cases q : atI (α := Nat) _ _ with
    | none => rw [q] at e; cases e
    | some c =>
      rw [q] at e
      cases e
      exact ix_str value slice pins s σ H x y v u Q I rx ry ⟨_, _, c, ra, rb, fit_le hc, q, Post.here (RA := RelW X.K) R (by unfold RelW RV; rfl) hw⟩ hs
  · obtain ⟨o, e0, hw⟩ := wp_get.mp hw
    split at hw
    · obtain ⟨w, e, hw⟩ := wp_opt'.mp hw
      obtain ⟨vs, hx, hX, l⟩ := R.lst ra e0
      unfold RV at rb
      obtain ⟨z, e1, rz⟩ := l.atI e
      exact ix_list value slice pins s σ H x y v u Q I rx ry ⟨_, vs, _, z, hx, rb, SqL.of hX, e1, Post.here (RA := RelW X.K) R rz hw⟩ hs
    · exact hw.elim
  · exact hw.elim
end
end BL
set_option Elab.async false
set_option linter.all false
set_option maxRecDepth 100000
/-! BL5: built-in defs and methods, slices, texts. -/
namespace BL
open PySem L2
section
variable {K : PySem.W.Frag} {G : Sg} {r : Nat → Addr} {C : Hc} {H : Hp}
/-- the items of a list or tuple -/
theorem items_of {β : Type} {x : W} {v : V} {f : List W → M β} {P : XR β → Prop} (R : Rep K G r C H) (rx : RV K C.next r H x v) (hw : ((itemsW x).bind f C).wp P) :
    ∃ p ws vs, v = .ref p ∧ ((SqL K H p vs ∧ H p = some (.lst vs) ∧ ∃ a, x = .ref a) ∨ (SqT K H p vs ∧ x = .tup ws)) ∧ RVs K C.next r H ws vs ∧ (f ws C).wp P := by
  unfold itemsW at hw
  split at hw
  · unfold RV at rx
    obtain ⟨p, vs, e, q, l⟩ := rx
    exact ⟨p, _, vs, e, .inr ⟨q, rfl⟩, l, hw⟩
  · obtain ⟨o, e0, hw⟩ := wp_get.mp (wp_bindM.mp hw)
    split at hw
    · obtain ⟨vs, e, hX, l⟩ := R.lst rx e0
      exact ⟨_, _, vs, e, .inl ⟨SqL.of hX, hX, _, rfl⟩, l, hw⟩
    · exact hw.elim
  · exact hw.elim
end
theorem RV.lt {K : PySem.W.Frag} {n : Nat} {r : Nat → Addr} {H : Hp} {a : Nat} {v : V} (h : RV K n r H (.ref a) v) : a < n := by unfold RV at h; exact h.1
/-- a call with values, by an operation of ours -/
def OkN (K : PySem.W.Frag) (G : Sg) (f : List W → M W) : List V → Hp → VK → Prop := fun xs H Q => ∃ C r ws Wx σ, Rep K G r C H ∧ RVs K C.next r H ws xs ∧ (f ws C).wp (Post K G (RelW K) Wx σ C r H Q)
/-- a tuple laid -/
theorem Post.newT {K : PySem.W.Frag} {G : Sg} {r : Nat → Addr} {C : Hc} {H : Hp} {Wx : WX} {σ : St} {Q : VK} {ws : List W} {vs : List V} (R : Rep K G r C H) (h : Post K G (RelW K) Wx σ C r H Q (.ok (.tup ws) C)) (rv : RVs K C.next r H ws vs) : ∀ p, H p = none → Q (.ref p) (upd H p (.tup vs)) := fun p hp => by
  have tp : Imm H (upd H p (.tup vs)) := Imm.alloc hp
  refine h r _ _ ⟨R.inj, fun i hi => ?_⟩ ⟨Nat.le_refl _, fun _ _ => rfl, fun a o e _ => ?_, fun i h1 h2 => absurd h2 (Nat.not_lt.mpr h1)⟩ ?_
  · obtain ⟨o, e, q⟩ := R.obj i hi
    refine ⟨o, e, RO.mono (Nat.le_refl _) (fun _ _ => rfl) tp (upd_ne ?_) o q⟩
    intro z
    obtain ⟨u, e', _⟩ := R.at hi
    rw [z, hp] at e'; cases e'
  · rw [upd_ne (ne_of_none e hp)]; exact e
  · show RV K C.next r _ (.tup ws) _
    unfold RV
    exact ⟨p, vs, rfl, SqT.of upd_same, RVs.mono (Nat.le_refl _) (fun _ _ => rfl) tp ws vs rv⟩
section
variable {X : Cx} {G : Sg}
theorem len_ok : CallR X (.builtin "len") (OkN X.K G lenW) := by
  intro pins s σ H xs us Q I r h
  obtain ⟨C, r', ws, Wx, σ', R, rw', hw⟩ := h
  unfold lenW at hw
  split at hw <;> first
    | exact hw.elim
    | skip
  · obtain ⟨hc, hw⟩ := wp_chk.mp hw
    obtain ⟨v, rfl, q⟩ := rw'.one
    unfold RV at q
    subst q
    exact call_len pins s σ H _ us Q I r ⟨_, _, rfl, ⟨fit_le hc, rfl⟩, Post.here (RA := RelW X.K) R (by unfold RelW RV; rfl) hw⟩
  · obtain ⟨v, rfl, q⟩ := rw'.one
    obtain ⟨p, ws, vs, rfl, hp, l, hw⟩ := items_of R q hw
    refine call_len_seq pins s σ H _ us Q I r ⟨p, vs, rfl, ?_, ?_⟩
    · rcases hp with ⟨a, _⟩ | ⟨a, _⟩
      · exact .inl a
      · exact .inr a
    · exact Post.here (RA := RelW X.K) R (by unfold RelW RV; rw [l.length]) hw
theorem tuple_ok : CallR X (.type "tuple") (OkN X.K G tupleW) := by
  intro pins s σ H xs us Q I r h
  obtain ⟨C, r', ws, Wx, σ', R, rw', hw⟩ := h
  unfold tupleW at hw
  split at hw <;> first
    | exact hw.elim
    | skip
  obtain ⟨v, rfl, q⟩ := rw'.one
  obtain ⟨p, ws, vs, rfl, hp, l, hw⟩ := items_of R q hw
  refine call_tuple_of pins s σ H _ us Q I r ⟨p, vs, rfl, ?_⟩
  rcases hp with ⟨a, _⟩ | ⟨a, _⟩
  · exact .inl ⟨a, Post.newT R hw l⟩
  · exact .inr ⟨a, Post.here (RA := RelW X.K) R (by unfold RelW RV; exact ⟨p, vs, rfl, a, l⟩) hw⟩
theorem list_ok : CallR X (.type "list") (OkN X.K G listW) := by
  intro pins s σ H xs us Q I r h
  obtain ⟨C, r', ws, Wx, σ', R, rw', hw⟩ := h
  unfold listW at hw
  split at hw <;> first
    | exact hw.elim
    | skip
  obtain ⟨v, rfl, q⟩ := rw'.one
  obtain ⟨p, ws, vs, rfl, hp, l, hw⟩ := items_of R q hw
  refine call_list_of pins s σ H _ us Q I r ⟨p, vs, rfl, ?_, Post.newL R hw l⟩
  rcases hp with ⟨a, _⟩ | ⟨a, _⟩
  · exact .inl a
  · exact .inr a
theorem all_ok (hc : X.calm = true) : CallR X (.builtin "all") (OkN X.K G allW) := by
  intro pins s σ H xs us Q I r h
  obtain ⟨C, r', ws, Wx, σ', R, rw', hw⟩ := h
  unfold allW at hw
  split at hw <;> first
    | exact hw.elim
    | skip
  obtain ⟨v, rfl, q⟩ := rw'.one
  obtain ⟨p, ws, vs, rfl, hp, l, hw⟩ := items_of R q hw
  obtain ⟨bs, e, hw⟩ := wp_opt.mp hw
  · have ev := l.bools e
    subst ev
    refine cr_all hc pins s σ H _ us Q I r ⟨p, bs, rfl, ?_, Post.here (RA := RelW X.K) R (by unfold RelW RV; rfl) hw⟩
    rcases hp with ⟨a, _⟩ | ⟨_, a⟩
    · exact a
    · cases a
theorem any_ok (hc : X.calm = true) : CallR X (.builtin "any") (OkN X.K G anyW) := by
  intro pins s σ H xs us Q I r h
  obtain ⟨C, r', ws, Wx, σ', R, rw', hw⟩ := h
  unfold anyW at hw
  split at hw <;> first
    | exact hw.elim
    | skip
  obtain ⟨v, rfl, q⟩ := rw'.one
  obtain ⟨p, ws, vs, rfl, hp, l, hw⟩ := items_of R q hw
  obtain ⟨bs, e, hw⟩ := wp_opt.mp hw
  · have ev := l.bools e
    subst ev
    refine cr_any hc pins s σ H _ us Q I r ⟨p, bs, rfl, ?_, Post.here (RA := RelW X.K) R (by unfold RelW RV; rfl) hw⟩
    rcases hp with ⟨a, _⟩ | ⟨_, a⟩
    · exact a
    · cases a
theorem sum_ok (hc : X.calm = true) : CallR X (.builtin "sum") (OkN X.K G sumW) := by
  intro pins s σ H xs us Q I r h
  obtain ⟨C, r', ws, Wx, σ', R, rw', hw⟩ := h
  unfold sumW at hw
  split at hw <;> first
    | exact hw.elim
    | skip
  obtain ⟨v, rfl, q⟩ := rw'.one
  obtain ⟨p, ws, vs, rfl, hp, l, hw⟩ := items_of R q hw
  obtain ⟨bs, e, hw⟩ := wp_opt.mp hw
  · have ev := l.ints e
    subst ev
    refine cr_sum hc pins s σ H _ us Q I r ⟨p, bs, rfl, ?_, Post.here (RA := RelW X.K) R (by unfold RelW RV; rfl) hw⟩
    rcases hp with ⟨a, _⟩ | ⟨_, a⟩
    · exact a
    · cases a
theorem int_ok : CallR X (.type "int") (OkN X.K G intW) := by
  intro pins s σ H xs us Q I r h
  obtain ⟨C, r', ws, Wx, σ', R, rw', hw⟩ := h
  unfold intW at hw
  split at hw <;> first
    | exact hw.elim
    | skip
  · obtain ⟨v, rfl, q⟩ := rw'.one
    unfold RV at q
    subst q
    exact call_int1 pins s σ H _ us Q I r (.inl ⟨_, rfl, Post.here (RA := RelW X.K) R (by unfold RelW RV; rfl) hw⟩)
  · obtain ⟨v, rfl, q⟩ := rw'.one
    unfold RV at q
    subst q
    exact call_int1 pins s σ H _ us Q I r (.inr ⟨_, rfl, Post.here (RA := RelW X.K) R (by unfold RelW RV; rfl) hw⟩)

theorem abs_ok : CallR X (.builtin "abs") (OkN X.K G absW) := by
  intro pins s σ H xs us Q I r h
  obtain ⟨C, r', ws, Wx, σ', R, rw', hw⟩ := h
  unfold absW at hw
  split at hw <;> first
    | exact hw.elim
    | skip
  obtain ⟨v, rfl, q⟩ := rw'.one
  unfold RV at q
  subst q
  exact call_abs pins s σ H _ us Q I r ⟨_, rfl, Post.here (RA := RelW X.K) R (by unfold RelW RV; rfl) hw⟩

/-! ### methods -/
def OkM (K : PySem.W.Frag) (G : Sg) (f : W → List W → M W) : V → List V → Hp → VK → Prop := fun x xs H Q => ∃ C r a ws Wx σ, Rep K G r C H ∧ RV K C.next r H a x ∧ RVs K C.next r H ws xs ∧ (f a ws C).wp (Post K G (RelW K) Wx σ C r H Q)
theorem join_fits {a : Str} : ∀ {ys : List Str}, (ys.map (·.length)).sum + ys.length * a.length = (ys.map fun y => y.length + a.length).sum
  | [] => by simp
  | y :: ys => by
    have ih := join_fits (a := a) (ys := ys)
    simp only [List.map_cons, List.sum_cons, List.length_cons, Nat.add_mul] at ih ⊢
    omega
theorem join_ok : MtR X "str.join" (OkM X.K G joinW) := by
  intro pins s σ H x xs v us Q I rx rs h
  obtain ⟨C, r', a, ws, Wx, σ', R, ra, rw', hw⟩ := h
  unfold joinW at hw
  split at hw <;> first
    | exact hw.elim
    | skip
  obtain ⟨v', rfl, q⟩ := rw'.one
  obtain ⟨p, ws, vs, rfl, hp, l, hw⟩ := items_of R q hw
  obtain ⟨ys, e, hw⟩ := wp_opt.mp hw
  · obtain ⟨hc, hw⟩ := wp_chk.mp hw
    have ev := l.strs e
    subst ev
    unfold RV at ra
    refine mt_join pins s σ H x _ v us Q I rx rs ⟨_, p, ys, ra, rfl, ?_, ?_, Post.here (RA := RelW X.K) R (by unfold RelW RV; rfl) hw⟩
    · rcases hp with ⟨a, _⟩ | ⟨a, _⟩
      · exact .inl a
      · exact .inr a
    · rw [join_fits]
      exact Nat.le_of_ble_eq_true hc
/-- a list written -/
theorem Post.setL {K : PySem.W.Frag} {r : Nat → Addr} {C : Hc} {H : Hp} {Wx : WX} {σ : St} {Q : VK} {a : Nat} {ws : List W} {vs : List V} (R : Rep K G r C H) (ha : a < C.next) (h : Post K G (RelW K) Wx σ C r H Q (.ok .non (C.put a (.lst ws)))) (rv : RVs K C.next r H ws vs) :
    Q .non (upd H (r a) (.lst vs)) := by
  obtain ⟨R1, X1⟩ := R.write (ho := .lst vs) (o := .lst ws) ha ⟨vs, upd_same, RVs.mono (Nat.le_refl _) (fun _ _ => rfl) (R.immW ha) ws vs rv⟩
  exact h _ _ _ R1 X1 (by unfold RelW RV; rfl)
theorem append_ok : MtR X "list.append" (OkM X.K G appendW) := by
  intro pins s σ H x xs v us Q I rx rs h
  obtain ⟨C, r', a, ws, Wx, σ', R, ra, rw', hw⟩ := h
  unfold appendW at hw
  split at hw <;> first
    | exact hw.elim
    | skip
  obtain ⟨v', rfl, q⟩ := rw'.one
  unfold appW at hw
  obtain ⟨o, e0, hw⟩ := wp_get.mp hw
  split at hw
  · obtain ⟨hc, hw⟩ := wp_chk.mp hw
    obtain ⟨vs, rfl, hX, l⟩ := R.lst ra e0
    have ha := RV.lt ra
    refine mt_append pins s σ H _ _ v us Q I rx rs ⟨_, vs, v', rfl, rfl, hX, ?_, Post.setL R ha hw (l.append (.cons q .nil))⟩
    rw [← l.length, sizeLine_eq]
    exact Nat.le_of_ble_eq_true hc
  · exact hw.elim
theorem meets_extendT (l : Addr) (items : Array Value) (n : Nat) (b : Addr) (ob : Obj) (items2 : Array Value) (n2 : Nat) (hlong : ¬(!items.isEmpty && Builtin.List.listTooLong (items.size + items2.size)) = true) (hs1 : items.size ≤ sizeLine) (hs2 : items.size + items2.size ≤ sizeLine + 1)
    (hc : ob.cls = .type "tuple") (hd : ob.data = .seq items2 n2) :
    Meets (Builtin.«list.extend» ⟨[.ref l, .ref b], []⟩) (fun _ R s => s.heap.get? l = some { cls := .type "list", dict := none, data := .seq items n, slots := #[] } ∧ s.heap.get? b = some ob ∧ R (.ok (.ret Value.none)) { s with heap := s.heap.update l (Obj.mapSeq fun x => x ++ items2), toks := s.toks }) :=
  .of_wp fun prog w A R s h => by
    obtain ⟨hl, hb, h⟩ := h
    show wpAny _ A.in1 (Builtin.List.listExtendWith (.ref l) (.ref b) .none) _ _ s
    unfold Builtin.List.listExtendWith
    refine wpAny_bind (wpAny_typeOf ⟨ob, hb, hc⟩ ?_)
    have h1 : (Builtin.List.listSameRef (.ref l) (.ref b) || Value.type "tuple" == Value.type "list" || Value.type "tuple" == Value.type "tuple") = true := by simp
    simp only [h1, if_true]
    refine wpAny_bind ?_
    unfold Builtin.List.listItems
    refine wpAny_bind (wpAny_seqItems hb hd (wpAny_pure ?_))
    refine wpAny_bind ?_
    refine wpAny_bind (wpAny_seqItems hl rfl (wpAny_pure ?_))
    rw [if_neg hlong]
    show wpAny _ A.in1 (updateSeq l (· ++ items2) >>= fun _ => ret .none) _ _ s
    have hz' : (items ++ items2).size ≤ sizeLine + 1 := by rw [Array.size_append]; exact hs2
    refine wpAny_bind (wpAny_updateSeq hl rfl (hz := hs1) (_hz' := hz') ?_)
    exact wpAny_pure ⟨_, rfl, h⟩
theorem mt_extendT : MtM X "list.extend" (fun x vs H Q => ∃ l b xs zs, x = .ref l ∧ vs = [.ref b] ∧ H l = some (.lst xs) ∧ SqT X.K H b zs ∧ xs.length + zs.length ≤ sizeLine ∧ Q .non (upd H l (.lst (xs ++ zs)))) := by
  intro pins s σ H x vs v us Q I rx rv h
  obtain ⟨l, b, xs, zs, rfl, rfl, hH, hB, hz, q⟩ := h
  cases rx
  obtain ⟨u, rfl, ru⟩ := rv.one
  cases ru
  obtain ⟨z, its, n, r, hl, e⟩ := I.lstM hH
  obtain ⟨its2, r2, ⟨ob, e2, hcl, n2, hd⟩, z2⟩ := I.tuple hB
  have hl2 := r2.length
  have hsz : its.toArray.size + its2.toArray.size ≤ sizeLine := by rw [List.size_toArray, List.size_toArray]; omega
  have hlong : ¬ (!its.toArray.isEmpty && Builtin.List.listTooLong (its.toArray.size + its2.toArray.size)) = true := by
    rw [notLongL hsz, Bool.and_false]
    exact Bool.false_ne_true
  refine call_meets F.slot_list_extend ⟨_, e, rfl⟩ F.entry_list_extend (F.args_list_extend_2 _ _)
    (meets_extendT l its.toArray n b ob its2.toArray n2 hlong (by rw [List.size_toArray]; omega) (by omega) hcl hd) ⟨e, e2, ?_⟩
  refine ⟨.non, _, I.lset (its' := its ++ its2) hH e (by simp) (r.append r2) ?_, rfl, q⟩
  rw [List.length_append]
  omega
theorem extend_ok : MtR X "list.extend" (OkM X.K G extendW) := by
  intro pins s σ H x xs v us Q I rx rs h
  obtain ⟨C, r', a, ws, Wx, σ', R, ra, rw', hw⟩ := h
  unfold extendW at hw
  split at hw <;> first
    | exact hw.elim
    | skip
  obtain ⟨v', rfl, q⟩ := rw'.one
  obtain ⟨p, ws, zs, rfl, hp, lz, hw⟩ := items_of R q hw
  obtain ⟨o, e0, hw⟩ := wp_get.mp hw
  split at hw
  · obtain ⟨hc, hw⟩ := wp_chk.mp hw
    obtain ⟨vs, rfl, hX, l⟩ := R.lst ra e0
    have ha := RV.lt ra
    have hz : vs.length + zs.length ≤ sizeLine := by rw [← l.length, ← lz.length]; exact fit_le hc
    have q2 := Post.setL R ha hw (l.append lz)
    rcases hp with ⟨_, a, _⟩ | ⟨a, _⟩
    · exact mt_extend pins s σ H _ _ v us Q I rx rs ⟨_, p, vs, zs, rfl, rfl, hX, a, hz, q2⟩
    · exact mt_extendT pins s σ H _ _ v us Q I rx rs ⟨_, p, vs, zs, rfl, rfl, hX, a, hz, q2⟩
  · exact hw.elim
theorem RVs.dropLast {K : PySem.W.Frag} {n : Nat} {r : Nat → Addr} {H : Hp} {ws : List W} {vs : List V} (h : RVs K n r H ws vs) : RVs K n r H ws.dropLast vs.dropLast := by
  rw [List.dropLast_eq_take, List.dropLast_eq_take, h.length]
  exact h.take _
def OkM0 (K : PySem.W.Frag) (G : Sg) (f : W → M W) : V → List V → Hp → VK → Prop := fun x xs H Q => xs = [] ∧ ∃ C r a Wx σ, Rep K G r C H ∧ RV K C.next r H a x ∧ (f a C).wp (Post K G (RelW K) Wx σ C r H Q)
theorem pop_ok : MtR X "list.pop" (OkM0 X.K G popW) := by
  intro pins s σ H x xs v us Q I rx rs h
  obtain ⟨rfl, C, r', a, Wx, σ', R, ra, hw⟩ := h
  unfold popW at hw
  split at hw
  · obtain ⟨o, e0, hw⟩ := wp_get.mp hw
    split at hw
    · obtain ⟨y, ey, hw⟩ := wp_opt.mp hw
      obtain ⟨vs, rfl, hX, l⟩ := R.lst ra e0
      obtain ⟨z, ez, rz⟩ := l.get ey
      rw [l.length] at ez
      have ha := RV.lt ra
      obtain ⟨R1, X1⟩ := R.write (ho := .lst vs.dropLast) (o := .lst (List.dropLast _)) ha ⟨_, upd_same, RVs.mono (Nat.le_refl _) (fun _ _ => rfl) (R.immW ha) _ _ l.dropLast⟩
      refine mt_pop pins s σ H _ _ v us Q I rx rs ⟨_, vs, z, rfl, rfl, hX, ez, ?_⟩
      exact hw _ _ _ R1 X1 (rz.ext R X1)
    · exact hw.elim
  · exact hw.elim
end
end BL
set_option Elab.async false
set_option linter.all false
set_option maxRecDepth 100000
set_option maxHeartbeats 2000000
/-! BLS: methods that say super().__init__(..) . -/
namespace BL
open PySem PySem.Spec PyProof.Rows L2 ClX

/-- a block whose activation is known -/
structure PSsA (X : Cx) (c : Code) (st : List Stmt) (t : TS) : Prop where
  run : ∀ (pins : List (Addr × Obj)) (s : Shared) (σ : L2.St) (H : Hp) (D : Ends), L2.Inv X pins σ H s → t D σ H → _root_.PySem.wpAt (model X.prog X.w) X.A c (execs st X.env) (SP X pins D) X.xe s
structure PSA (X : Cx) (c : Code) (st : Stmt) (t : TS) : Prop where
  run : ∀ (pins : List (Addr × Obj)) (s : Shared) (σ : L2.St) (H : Hp) (D : Ends), L2.Inv X pins σ H s → t D σ H → _root_.PySem.wpAt (model X.prog X.w) X.A c (exec st X.env) (SP X pins D) X.xe s
section
variable {X : Cx} {c : Code} {st : Stmt} {sts rest : List Stmt} {t u : TS}
theorem PSs.atC (h : PSs X sts t) : PSsA X c sts t := ⟨fun pins s σ H D I q => wpAt_of_wpAny (h.run pins s σ H D I q)⟩
theorem PS.atC (h : PS X st t) : PSA X c st t := ⟨fun pins s σ H D I q => wpAt_of_wpAny (h.run pins s σ H D I q)⟩
theorem psa_cons (h1 : PSA X c st t) (h2 : PSsA X c rest u) : PSsA X c (st :: rest) (tSeq t u) := by
  refine ⟨fun pins s σ H D I h => ?_⟩
  refine PySem.ks_wpAt_execs_cons (PySem.ks_wpAt_mono (h1.run pins s σ H { D with nx := u D } I h) (fun f s1 q => ?_) fun _ _ z => z)
  cases f with
  | next =>
    obtain ⟨σ', H', I', q⟩ := q
    exact h2.run pins s1 σ' H' D I' q
  | ret v => exact q
  | brk => exact q
  | cont => exact q
theorem PSsA.imp {t' : TS} (h : ∀ D σ H, t' D σ H → t D σ H) (p : PSsA X c sts t) : PSsA X c sts t' := ⟨fun pins s σ H D I q => p.run pins s σ H D I (h D σ H q)⟩
theorem PSA.imp {t' : TS} (h : ∀ D σ H, t' D σ H → t D σ H) (p : PSA X c st t) : PSA X c st t' := ⟨fun pins s σ H D I q => p.run pins s σ H D I (h D σ H q)⟩
end

/-- the context of a method's body that closes over its class's cell -/
def cxS (CX : CXT) (P : Program) (w : World) (K : PySem.W.Frag) (mg : Str → Option Value) (base : Heap) (N : List Str) (qual : Str) (scope : Scope) (f cc : Addr) (cd : Value) (A : Around) (outer : List PySem.Env) (s : Shared) (H : Hp) (E : XK) : Cx where
  prog := P
  w := w
  K := K
  mg := mg
  base := base
  A := A.deeper (PySem.W.envX qual scope s.heap.objs.size f cd [("__class__", cc)])
  N := N
  s_0 := s
  H_0 := H
  env := PySem.W.envX qual scope s.heap.objs.size f cd [("__class__", cc)]
  outer := outer
  stack := PySem.W.envX qual scope s.heap.objs.size f cd [("__class__", cc)] :: outer
  ex := []
  calm := true
  fn := fun _ => false
  pn := []
  xe := fun e s' => wpAny (model P w) (A.deeper (PySem.W.envX qual scope s.heap.objs.size f cd [("__class__", cc)])) (leaving (PySem.W.envX qual scope s.heap.objs.size f cd [("__class__", cc)]) e) (fun _ s'' => CX outer H s E e s'') (fun e' s'' => CX outer H s E e' s'') s'
/-- the scope of such a method: no cells of its own, one free name -/
structure FnScopeS (N P : List Str) (sc : Scope) : Prop where
  kind : sc.kind = .function
  co : sc.isCoroutine = false
  gen : sc.isGenerator = false
  nd : N.Nodup
  pre : N.take P.length = P
  par : ∀ x ∈ P, sc.names.lookup x = some .local
  nocell : ∀ y ∈ sc.names, y.2 ≠ .cell
  free : ∀ y ∈ sc.names, y.2 = .free → y.1 = "__class__"
theorem zip_rev_lookup {x : Str} {v : Value} : ∀ {P : List Str} {vs : List Value} {i : Nat}, P.Nodup → P[i]? = some x → vs[i]? = some v → (P.zip vs).reverse.lookup x = some v
  | [], _, _, _, h, _ => by simp at h
  | _ :: _, [], _, _, _, h => by simp at h
  | p :: P, w :: vs, 0, nd, h1, h2 => by
    simp at h1 h2; subst h1; subst h2
    rw [List.zip_cons_cons, List.reverse_cons, List.lookup_append]
    have : (P.zip vs).reverse.lookup p = none := by
      rw [List.lookup_eq_none_iff]
      intro q hq
      have hm : q ∈ P.zip vs := List.mem_reverse.mp hq
      have : q.1 ∈ P := (List.of_mem_zip (show (q.1, q.2) ∈ P.zip vs from hm)).1
      have hn := (List.nodup_cons.mp nd).1
      refine bne_iff_ne.mpr fun e => ?_
      first
        | (rw [e] at hn; exact hn this)
        | (rw [← e] at hn; exact hn this)
    rw [this]
    simp [List.lookup]
  | p :: P, w :: vs, i + 1, nd, h1, h2 => by
    rw [List.zip_cons_cons, List.reverse_cons, List.lookup_append, zip_rev_lookup (i := i) (List.nodup_cons.mp nd).2 (by simpa using h1) (by simpa using h2)]
    rfl
theorem inv_startS {CX : CXT} {P : Program} {w : World} {K : PySem.W.Frag} {mg : Str → Option Value} {base : Heap} {N ps : List Str} {qual : Str} {scope : Scope} {f cc : Addr} {cd : Value} {A : Around} {outer : List PySem.Env} {s : Shared} {H : Hp} {E : XK} {us : List Value} {vs : List V} {h0 : Heap} {tk : Nat} {oc : Obj} {cv : Option Value}
    (S : FnScopeS N ps scope) (hd : A.handled = none) (e0 : Env0 P w K mg base A outer s H) (hl : vs.length = ps.length) (r : Vals vs us) (hcc : K.lookup cc = some oc) (hcd : oc.data = .cell cv)
    (hns : h0.Ns s.heap.objs.size (fun x => (ps.zip us).reverse.lookup x)) (hk : ∀ b o, s.heap.get? b = some o → h0.get? b = some o) :
    L2.Inv (cxS CX P w K mg base N qual scope f cc cd A outer s H E) [] (L2.start N vs) H { s with heap := h0, toks := tk } := by
  have hpl : ps.length ≤ N.length := by have := congrArg List.length S.pre; rw [List.length_take] at this; omega
  have noA : ∀ b : Addr, b ∉ (cxS CX P w K mg base N qual scope f cc cd A outer s H E).ex := fun b z => absurd (show b ∈ ([] : List Addr) from z) (by simp)
  have bcc : base.get? cc = some oc := e0.mod.kin cc oc hcc
  have one : ∀ (x : Str) (c : Addr), (cxS CX P w K mg base N qual scope f cc cd A outer s H E).env.cells.lookup x = some c → x = "__class__" ∧ c = cc := fun x c e => by
    have e : List.lookup x [(("__class__" : Str), cc)] = some c := e
    unfold List.lookup at e
    split at e
    · rename_i q
      exact ⟨eq_of_beq q, (Option.some.inj e).symm⟩
    · cases e
  refine ⟨⟨e0.mod, S.kind, rfl, rfl, Nat.le_refl _, fun y z c h1 h2 => by rw [(one y c h1).1, (one z c h2).1], fun y hy => ?_, (fun y c z _ => Bool.noConfusion (show false = true from z)), fun _ => hd, Around.frames_deeper e0.frames, .inr ⟨rfl, rfl⟩, fun b z => absurd z (noA b), e0.bs, e0.bsz, fun b _ _ => noA b, fun b z => absurd z (noA b), e0.funs, e0.frf⟩,
    rfl, e0.bare, Un.kept hk, ⟨_, hns, fun i y v h1 h2 h3 => ?_⟩, fun y c h => ?_, e0.hok.fresh (Nat.le_refl _), fun y c h => ?_, fun p hp => absurd (show p ∈ ([] : List (Addr × Obj)) from hp) (by simp), e0.hok.kept hk, ?_⟩
  · have hy : scope.names.lookup y = some .cell ∨ scope.names.lookup y = some .free := hy
    rcases hy with hy | hy
    · exact absurd rfl (S.nocell _ (PySem.mem_of_lookup hy))
    · have e := S.free _ (PySem.mem_of_lookup hy) rfl
      have e : y = "__class__" := e
      subst e
      refine ⟨cc, ?_⟩
      show List.lookup ("__class__" : Str) [(("__class__" : Str), cc)] = some cc
      unfold List.lookup
      rw [beq_self_eq_true]
  · have hi : i < vs.length := by
      unfold L2.start at h2
      by_cases hi : i < vs.length
      · exact hi
      · rw [List.getElem?_append_right (by simpa using hi)] at h2
        rw [List.getElem?_replicate] at h2
        split at h2 <;> cases h2
    have ha : vs[i]? = some v := by
      unfold L2.start at h2
      rw [List.getElem?_append_left (by simpa using hi), List.getElem?_map] at h2
      cases e : vs[i]? with
      | none => rw [e] at h2; cases h2
      | some a => rw [e] at h2; cases h2; rfl
    obtain ⟨u, hu, rv⟩ := r.get ha
    have hp : ps[i]? = some y := by
      rw [← S.pre, List.getElem?_take_of_lt (by omega)]; exact h1
    have ndP : ps.Nodup := by rw [← S.pre]; exact S.nd.sublist (List.take_sublist _ _)
    exact ⟨u, rv, .inl ⟨S.par y (List.mem_of_getElem? hp), zip_rev_lookup ndP hp hu⟩⟩
  · obtain ⟨_, rfl⟩ := one y c h
    exact ⟨cv, oc, hk _ _ (e0.bs _ _ bcc).1, hcd⟩
  · obtain ⟨_, rfl⟩ := one y c h
    exact (e0.bs _ _ bcc).2
  · unfold L2.start
    show _ = N.length
    rw [List.length_append, List.length_map, List.length_replicate]
    omega
/-- a method that closes over its class's cell, by its body -/
theorem fn_ofS {CX : CXT} {P : Program} {w : World} {K : PySem.W.Frag} {mg : Str → Option Value} {base : Heap} {k : Nat} {f cc : Addr} {name qual : Str} {params : Arguments} {body : List Stmt} {scope : Scope} {dV kV doc pm cdv ct oc : Value} {an od : Option Addr}
    {osl : Array (Option Value)} {N ps : List Str} {sp : Sp} {occ : Obj} {cv : Option Value} (lk : K.lookup f = some ⟨oc, od, .func (PySem.W.fnX name qual params body scope [("__class__", cc)] dV kV doc pm an cdv ct), osl⟩) (hcd : PySem.W.codeIn K cdv qual = true) (S : FnScopeS N ps scope)
    (hcc : K.lookup cc = some occ) (hcell : occ.data = .cell cv) (len : ∀ vs H Q E, sp vs H Q E → vs.length = ps.length)
    (hbody : ∀ (A : Around) (outer : List PySem.Env) (s : Shared) (H : Hp) (vs : List V) (Q : VK) (E : XK), Room k (A.deeper (PySem.W.envX qual scope s.heap.objs.size f cdv [("__class__", cc)])) → sp vs H Q E →
      ∃ t, PSsA (cxS CX P w K mg base N qual scope f cc cdv A outer s H E) (.func body (PySem.W.envX qual scope s.heap.objs.size f cdv [("__class__", cc)])) body t ∧ t { nx := fun _ H' => Q .non H', rt := Q } (L2.start N vs) H) :
    FnOk P w K mg base CX (k + 1) f (PySem.W.fnX name qual params body scope [("__class__", cc)] dV kV doc pm an cdv ct) ps sp := by
  refine ⟨len, fun A outer s H args us vs Q E hr e0 hb r hsp => ?_⟩
  have hl := len _ _ _ _ hsp
  have KX : K.In s.heap := e0.mod.kin.keeps fun b o e => (e0.bs b o e).1
  have lim : s.heap.NoLimit := e0.mod.nolimit.keeps fun b o e => (e0.bs b o e).1
  refine PySem.ks_codeAny_call_defAt (body := body) (binds := ps.zip us) hr.depth (KX _ _ lk) rfl lim (PySem.W.codeRec_of KX hcd) rfl hb S.nocell (fun ⟨n, v⟩ hy => S.par n (List.of_mem_zip hy).1) (fun h0 hns hk => ?_) S.co S.gen S.kind
  obtain ⟨t, ht, hq⟩ := hbody A outer s H vs Q E (hr.deeper _) hsp
  have I : L2.Inv (cxS CX P w K mg base N qual scope f cc cdv A outer s H E) [] (L2.start N vs) H { s with heap := h0, toks := s.toks + (ps.zip us).length } := inv_startS S hr.hd e0 hl r hcc hcell hns hk
  refine PySem.ks_wpAt_mono (ht.run [] _ (L2.start N vs) H _ I hq) (fun fl s' hs => ?_) fun e s' hs => hs
  have fin : ∀ {σ' : L2.St} {H' : Hp} {v : V} {u : Value}, L2.Inv (cxS CX P w K mg base N qual scope f cc cdv A outer s H E) [] σ' H' s' → RelV v u → Q v H' → CE outer P w H s Q u s' :=
    fun {σ' H' v u} J rv q => ⟨v, H', J.os, J.bare, J.base, J.hok, rv, q⟩
  cases fl with
  | ret u =>
    obtain ⟨v, σ', H', J, rv, q⟩ := hs
    exact fin J rv q
  | next =>
    obtain ⟨σ', H', J, q⟩ := hs
    exact fin (v := V.non) (u := Value.none) J rfl q
  | brk =>
    obtain ⟨_, _, _, q⟩ := hs
    exact False.elim q
  | cont =>
    obtain ⟨_, _, _, q⟩ := hs
    exact False.elim q

/-! ### super().__init__(..) -/
/-- what is written of a method that says super().__init__: f the method, cda its code object, cc its cell, D the class in it -/
structure SupS (P : Program) (K : PySem.W.Frag) (mg : Str → Option Value) (scope : Scope) (f cda cc D : Addr) (sf : Str) : Prop where
  fn : ∃ oc od fd osl ar, K.lookup f = some ⟨oc, od, .func fd, osl⟩ ∧ (fd.params.posonlyargs ++ fd.params.args).head? = some ar ∧ ar.arg = sf
  code : ∃ ccl cdd vs ccs file tf, K.lookup cda = some ⟨ccl, cdd, .fields vs, ccs⟩ ∧ vs[2]? = some (.str file tf) ∧ ((P.main.file : Str) == file) = true
  cell : ∃ cl cld csl, K.lookup cc = some ⟨cl, cld, .cell (some (.ref D)), csl⟩
  cls : ∃ cd, PySem.W.clsIn K D = some cd
  sup : mg "super" = none
  kS : scope.names.lookup ("super" : Str) = some .globalImplicit
  kC : scope.names.lookup ("__class__" : Str) = some .free
  kA : scope.names.lookup sf = some .local
  top : (P.main.scope.names.lookup ("super" : Str)).isSome = false
  any : PySem.W.nsIn K cStatics "thirdparty.any" = some none
/-- .. and of the class C of self: its next __init__ behind D stands at g -/
structure SupC (K : PySem.W.Frag) (C D g : Addr) : Prop where
  sub : PySem.W.mroIn K C (.ref D) = some true
  nxt : PySem.W.ks_superIn K C D "__init__" = some (some (.ref g))
  ty : PySem.W.typeIn K (.ref g) = some (.type "function")
  fi : PySem.W.fnIn K g = true
/-- o.m(..): no star, few arguments, on one line -/
theorem eval_meth {o : Expr} {name : Str} {apos pos : Pos} {args : List Expr} {env : PySem.Env} (hform : methodCallForm args.length (backTo pos (starEach args env)) [] = true) (hline : (apos.endLine == pos.line) = true) :
    eval (.Call (.Attribute o name apos) args [] pos) env = (do
      let ov ← attributeBase o name env (eval o env)
      standAt apos.atName
      let (f, first) ← holding [ov] (getMethod ov name (do return (← importBound o env).getD true))
      callWith pos f first (backTo pos (starEach args env)) []) := by
  have hform' : methodCallForm (args.length + ([] : List Keyword).length) (backTo pos (starEach args env)) (backToKw pos (keywordEach [] env)) = true := hform
  have hpos : methodCallPos true o env apos pos = pure pos := by unfold methodCallPos; simp [hline]
  rw [arm_eval_Call]
  unfold methodCall
  rw [hform', hpos]
  rfl
theorem boot_super : bootBuiltins "super" = some (.type "super") := by decide +kernel
section
variable {X : Cx} {pins : List (Addr × Obj)} {σ : L2.St} {H : Hp} {s : Shared}
theorem run_cmS {CX : CXT} {k : Nat} {q g a : Addr} {fd : FuncData} {ps : List Str} {sp : Sp} {dvs : List V} {ds : List Value} {E : L2.St → XK} {Q : VK} {us : List Value} {vs : List V} (F : FnOk X.prog X.w X.K X.mg X.base CX k g fd ps sp) (hr : Room k X.A) (hb : Binds X.K fd ps ds) (hd : Vals dvs ds) (hx : PassesAt CX X σ (E σ))
    (I : L2.Inv X ((q, PySem.W.methodObj (.ref g) (.ref a)) :: pins) σ H s) (r : Vals vs us) (h : sp (.ref a :: (vs ++ dvs)) H Q (E σ)) : wpAny (model X.prog X.w) X.A (call (.ref q) us) (EP X pins σ Q) X.xe s := by
  have z : wpAny (model X.prog X.w) X.A (call (.ref q) us) (EP X ((q, PySem.W.methodObj (.ref g) (.ref a)) :: pins) σ Q) X.xe s := by
    refine wpAny_call (PySem.W.method_call (pin_at I) ?_)
    have r2 : Vals (.ref a :: (vs ++ dvs)) (.ref a :: (us ++ ds)) := .cons rfl (r.append hd)
    have hl : ((Value.ref a :: us) ++ ds).length = ps.length := by
      have e := r2.length
      rw [F.len _ _ _ _ h] at e
      exact e.symm
    refine codeAny_mono (F.run X.A X.stack s H ⟨.ref a :: us, []⟩ (.ref a :: (us ++ ds)) (.ref a :: (vs ++ dvs)) Q (E σ) hr I.env0 (hb s (.ref a :: us) I.kIn hl) r2 h) fun r s' hq => ?_
    cases r with
    | error e => exact hx _ H s e s' I hq
    | ok fl =>
      cases fl with
      | ret u => exact I.after hq
      | next => exact False.elim hq
      | brk => exact False.elim hq
      | cont => exact False.elim hq
  exact thn z fun _ _ y => unpinE y
/-- super().__init__(e, ..) -/
def tSup (K : PySem.W.Frag) (D g : Addr) (sp : Sp) (dvs : List V) (E : L2.St → XK) (t : TA) : TS := fun Z σ H => ∃ a C dx fs, σ[0]? = some (some (.ref a)) ∧ H a = some (.ins C dx fs) ∧ SupC K C D g ∧
  t σ H fun vs H1 => sp (.ref a :: (vs ++ dvs)) H1 (fun _ H2 => Z.nx σ H2) (E σ)
theorem ps_super {CX : CXT} {k : Nat} {qual self : Str} {scope : Scope} {L f cda cc D g : Addr} {body : List Stmt} {fd : FuncData} {ps : List Str} {sp : Sp} {dvs : List V} {ds : List Value} {E : L2.St → XK} {e : Expr} {es : List Expr} {t : TA} {p0 p1 p2 p3 p4 : Pos}
    (hX : X.env = PySem.W.envX qual scope L f (.ref cda) [("__class__", cc)]) (S : SupS X.prog X.K X.mg scope f cda cc D self) (hN : X.N[0]? = some self)
    (F : FnOk X.prog X.w X.K X.mg X.base CX k g fd ps sp) (hr : Room k X.A) (hb : Binds X.K fd ps ds) (hd : Vals dvs ds) (hx : ∀ σ, PassesAt CX X σ (E σ)) (ha : PA X (e :: es) t)
    (hst : starEach (e :: es) X.env = (false, eval e X.env) :: starEach es X.env) (hpl : (backTo p3 (starEach es X.env)).any (·.1) = false)
    (hform : methodCallForm (e :: es).length (backTo p3 (starEach (e :: es) X.env)) [] = true) (hline : (p2.endLine == p3.line) = true) :
    PSA X (.func body X.env) (.Expr (.Call (.Attribute (.Call (.Name "super" p0) [] [] p1) "__init__" p2) (e :: es) [] p3) p4) (tSup X.K D g sp dvs E t) := by
  refine ⟨fun pins s σ H Z I h => ?_⟩
  obtain ⟨a, C, dx, fs, hσ, hH, sc, h⟩ := h
  obtain ⟨oc, od, fdat, osl, ar, lf, hp, har⟩ := S.fn
  obtain ⟨ccl, cdd, vs0, ccs, file, tf, lc, hvs, hfile⟩ := S.code
  obtain ⟨cl, cld, csl, lcell⟩ := S.cell
  obtain ⟨cdD, hD⟩ := S.cls
  have KX := I.kIn
  have hkS : X.env.kindOf "super" = some .globalImplicit := by rw [hX]; exact S.kS
  have hkC : X.env.kindOf "__class__" = some .free := by rw [hX]; exact S.kC
  have hkA : X.env.kindOf self = some .local := by rw [hX]; exact S.kA
  obtain ⟨oD, hD1, hD2⟩ : ∃ oD, s.heap.get? D = some oD ∧ oD.data = .cls cdD := by
    unfold PySem.W.clsIn at hD
    split at hD
    · rename_i c d cd' sl ho
      cases hD
      exact ⟨_, KX _ _ ho, rfl⟩
    · cases hD
  obtain ⟨mA, ⟨ob, on, one⟩, _⟩ := ins_get I.hok hH
  refine PySem.ks_wpAt_Expr_any (PySem.ks_wpAt_MethodCall ?g1 (eval_meth hform hline)) I.quiet (by rfl)
  case g1 =>
    have hcode : X.env.code = .ref cda := by rw [hX]
    have hfunc : X.env.func = some f := by rw [hX]
    refine PySem.ks_wpAt_super_base (env := X.env) (f := f) (cc := cda) hkS hkC (by decide) hfunc (KX _ _ lf) rfl hp hcode (KX _ _ lc) rfl hvs hfile S.top ?_
    refine PySem.W.ks_loadName_global I.ok.kind hkS ?_
    obtain ⟨mb, hb1, hb2⟩ := I.mod.blt
    refine Calls.loadGlobal_builtin (by rw [I.ok.glob]; exact I.mod.glob.keeps I.bk) S.sup (by rw [I.ok.blt]; exact hb1.keeps I.bk) ((hb2 _ (by decide)).trans boot_super) ⟨rfl, ?_⟩
    have hcells : X.env.cells.lookup ("__class__" : Str) = some cc := by
      rw [hX]
      show List.lookup ("__class__" : Str) [(("__class__" : Str), cc)] = some cc
      unfold List.lookup
      rw [beq_self_eq_true]
    refine wpAny_loadName_free I.ok.kind hkC hcells ⟨_, KX _ _ lcell, rfl⟩ ?_
    obtain ⟨m, hn, hl⟩ := I.loc
    obtain ⟨u, ru, look⟩ := hl 0 self (.ref a) hN hσ (.inl hkA)
    obtain rfl : u = Value.ref a := ru
    have hm : m self = some (.ref a) := by
      rcases look with ⟨_, hm⟩ | ⟨hk, _⟩
      · exact hm
      · rcases hk with hk | hk
        · rw [hkA] at hk; cases hk
        · rw [hkA] at hk; cases hk
    rw [har]
    refine wpAny_loadName_local I.ok.kind hkA hn hm ?_
    obtain ⟨hh, gg, dd, tt, oo⟩ := s
    refine PySem.ks_wpAny_isType_cls hD1 hD2 ⟨rfl, ?_⟩
    refine PySem.ks_wpAny_call_super hD1 hD2 ob rfl (fun c z => nomatch z) (PySem.W.looks_mroIn KX sc.sub) (fun h' e1 k1 => ?_)
    have I1 : L2.Inv X pins σ H ⟨h', gg, dd, tt, oo⟩ := I.kept (t' := tt) k1
    have KX1 := I1.kIn
    cases hc : PySem.W.clsIn X.K C with
    | none => have := sc.nxt; unfold PySem.W.ks_superIn at this; rw [hc] at this; cases this
    | some cd =>
      have nx := sc.nxt
      unfold PySem.W.ks_superIn at nx
      rw [hc] at nx
      obtain ⟨of, hof, hofc⟩ : ∃ of, h'.get? g = some of ∧ of.cls = .type "function" := by
        have ht' : (X.K.lookup g).map (·.cls) = some (.type "function") := sc.ty
        cases z : X.K.lookup g with
        | none => rw [z] at ht'; cases ht'
        | some of => rw [z] at ht'; exact ⟨of, KX1 _ _ z, Option.some.inj ht'⟩
      have hne : a ≠ C := by
        rintro rfl
        unfold PySem.W.clsIn at hc
        split at hc
        · rename_i c d cd' sl ho
          have e := KX _ _ ho
          rw [ob] at e
          cases e
        · cases hc
      refine PySem.ks_wpAny_getMethod_super e1 (PySem.W.looks_opaque KX1 S.any) (l₀ := cd.mro) (fun A Q E s k q => wpAny_bind ((PySem.W.looks_clsIn KX1 hc) A _ E s k (wpAny_pure q))) rfl KX1 nx hof hofc hne (by decide) ?_
      have I2 : L2.Inv X ((h'.objs.size, PySem.W.methodObj (.ref g) (.ref a)) :: pins) σ H ⟨h'.push (PySem.W.methodObj (.ref g) (.ref a)), gg, dd, tt + 1, oo⟩ := met_new I1
      refine callwith_cm I2 (base_none I1 (Nat.le_refl _)) sc.fi (thn (ha.run p3 _ _ σ H _ I2 h) fun us s3 ⟨vs, H2, I3, rv, q2⟩ => ⟨⟨pin_at I3, I3.kIn⟩, ?_⟩) hst hpl
      exact thn (run_cmS F hr hb hd (hx σ) I3 rv q2) fun _ s4 ⟨v, H4, I4, _, q4⟩ => ⟨σ, H4, I4, q4⟩
end
end BL
set_option Elab.async false
set_option linter.all false
set_option maxRecDepth 100000
set_option maxHeartbeats 1000000
/-! BL6: rules for terms, by the values of their parts. -/
namespace L2
open PySem
theorem PE.imp {X : Cx} {e : Expr} {t t' : TE} (p : PE X e t) (h : ∀ σ H Q, t' σ H Q → t σ H Q) : PE X e t' := BL.PE.imp h p
theorem PT.imp {X : Cx} {e : Expr} {t t' : TT} (p : PT X e t) (h : ∀ σ H Q, t' σ H Q → t σ H Q) : PT X e t' := BL.PT.imp h p
theorem PW.imp {X : Cx} {e : Expr} {t t' : TT} (p : PW X e t) (h : ∀ σ H Q, t' σ H Q → t σ H Q) : PW X e t' := BL.PW.imp h p
theorem PA.imp {X : Cx} {e : List Expr} {t t' : TA} (p : PA X e t) (h : ∀ σ H Q, t' σ H Q → t σ H Q) : PA X e t' := BL.PA.imp h p
theorem PI.imp {X : Cx} {tg e : Expr} {t t' : TI} (p : PI X tg e t) (h : ∀ σ H Q, t' σ H Q → t σ H Q) : PI X tg e t' := BL.PI.imp h p
theorem PS.imp {X : Cx} {e : Stmt} {t t' : TS} (p : PS X e t) (h : ∀ D σ H, t' D σ H → t D σ H) : PS X e t' := BL.PS.imp h p
theorem PSs.imp {X : Cx} {e : List Stmt} {t t' : TS} (p : PSs X e t) (h : ∀ D σ H, t' D σ H → t D σ H) : PSs X e t' := BL.PSs.imp h p
end L2
namespace BL
open PySem L2

abbrev tV (X : Cx) (G : Sg) (Wx : WX) (f : Env → M W) : TE := tl X.K G (RelW X.K) Wx f
abbrev tB' (X : Cx) (G : Sg) (Wx : WX) (f : Env → M Bool) : TT := tl X.K G RelB Wx f
abbrev tA' (X : Cx) (G : Sg) (Wx : WX) (f : Env → M (List W)) : TA := tl X.K G (RelL X.K) Wx f

/-! ### names' slots -/
section
variable {K : PySem.W.Frag} {n : Nat} {r : Nat → Addr} {H : Hp}
theorem RE.nil_iff {s : St} (h : RE K n r H [] s) : s = [] := by unfold RE at h; exact h
theorem RE.cons_iff {x : Option W} {xs : Env} {s : St} (h : RE K n r H (x :: xs) s) : ∃ y ys, s = y :: ys ∧ (∀ w, x = some w → ∃ v, y = some v ∧ RV K n r H w v) ∧ RE K n r H xs ys := by unfold RE at h; exact h
theorem RE.cons {x : Option W} {xs : Env} {y : Option V} {ys : St} (h : ∀ w, x = some w → ∃ v, y = some v ∧ RV K n r H w v) (t : RE K n r H xs ys) : RE K n r H (x :: xs) (y :: ys) := by unfold RE; exact ⟨y, ys, rfl, h, t⟩
theorem RE.get : ∀ {v : Env} {s : St} {i : Nat} {w : W}, RE K n r H v s → v[i]? = some (some w) → ∃ x, s[i]? = some (some x) ∧ RV K n r H w x
  | [], _, _, _, _, e => by simp at e
  | a :: v, _, 0, w, h, e => by
    obtain ⟨y, ys, rfl, q, t⟩ := h.cons_iff
    simp at e; subst e
    obtain ⟨x, rfl, rx⟩ := q w rfl
    exact ⟨x, rfl, rx⟩
  | a :: v, _, i + 1, w, h, e => by
    obtain ⟨y, ys, rfl, q, t⟩ := h.cons_iff
    obtain ⟨x, e1, e2⟩ := RE.get (i := i) (w := w) t (by simpa using e)
    exact ⟨x, by simpa using e1, e2⟩
theorem RE.set {w : W} {x : V} (q : RV K n r H w x) : ∀ {v : Env} {s : St} (i : Nat), RE K n r H v s → RE K n r H (v.set i (some w)) (s.set i (some x))
  | [], _, _, h => by rw [h.nil_iff]; unfold RE; rfl
  | a :: v, _, 0, h => by
    obtain ⟨y, ys, rfl, _, t⟩ := h.cons_iff
    exact .cons (fun w' e => ⟨x, rfl, by cases e; exact q⟩) t
  | a :: v, _, i + 1, h => by
    obtain ⟨y, ys, rfl, p, t⟩ := h.cons_iff
    exact .cons p (RE.set q i t)
theorem RE.unset : ∀ {v : Env} {s : St} (i : Nat) (y : Option V), RE K n r H v s → RE K n r H (v.set i none) (s.set i y)
  | [], _, _, _, h => by rw [h.nil_iff]; unfold RE; rfl
  | a :: v, _, 0, _, h => by
    obtain ⟨y, ys, rfl, _, t⟩ := h.cons_iff
    exact .cons (fun w' e => by cases e) t
  | a :: v, _, i + 1, z, h => by
    obtain ⟨y, ys, rfl, p, t⟩ := h.cons_iff
    exact .cons p (RE.unset i z t)
theorem RE.wipe {v : Env} {s : St} (h : RE K n r H v s) : ∀ is : List Nat, RE K n r H (wipeE v is) (L2.wipe s is)
  | [] => h
  | i :: is => (RE.wipe h is).unset i none
theorem RE.length : ∀ {v : Env} {s : St}, RE K n r H v s → v.length = s.length
  | [], _, h => by rw [h.nil_iff]; rfl
  | a :: v, _, h => by
    obtain ⟨y, ys, rfl, _, t⟩ := h.cons_iff
    simp [RE.length t]
theorem RE.start : ∀ {ws : List W} {vs : List V} (k : Nat), RVs K n r H ws vs → RE K n r H (ws.map some ++ List.replicate k none) (vs.map some ++ List.replicate k none)
  | [], _, k, h => by
    rw [h.nil_iff]
    induction k with
    | zero => unfold RE; rfl
    | succ k ih => exact .cons (fun w e => by cases e) ih
  | w :: ws, _, k, h => by
    obtain ⟨v, vs', rfl, q, t⟩ := h.cons_iff
    exact .cons (fun w' e => by cases e; exact ⟨v, rfl, q⟩) (RE.start k t)
end

section
variable {X : Cx} {G : Sg} {Wx : WX} {pos : Pos}
/-! ### truth -/
theorem tru_here {C : Hc} {r : Nat → Addr} {H : Hp} {σ : St} {Q : Bool → Hp → Prop} {a : W} {b : V} (R : Rep X.K G r C H) (ra : RV X.K C.next r H a b) (hw : (truW a C).wp (Post X.K G RelB Wx σ C r H Q)) : ∃ c, b = .bl c ∧ Q c H := by
  unfold truW at hw
  split at hw
  · unfold RV at ra
    exact ⟨_, ra, Post.here (RA := RelB) R rfl hw⟩
  · exact hw.elim
theorem of_tst {x : Expr} {f : Env → M W} (h : PE X x (tV X G Wx f)) (he : ∀ whole, isTrue x X.env whole = (do let v ← whole; standAt x.pos; holding [v] (truthy v))) : PT X x (tB' X G Wx fun v => (f v).bind truW) := by
  refine (pt_val h he).imp fun σ H Q hq => ?_
  obtain ⟨C, r, v, R, E, hw⟩ := hq
  exact tl_intro R E hw fun C1 r1 H1 a b R1 X1 ra q => tru_here R1 ra q
/-! ### names, constants -/
theorem r_var {i : Nat} {y : Str} {p : Pos} (hN : X.N[i]? = some y) (hv : Vis X.env.scope y) (hd : (y == ("__debug__" : Str)) = false) (hcd : (y == ("__classdict__" : Str)) = false) :
    PE X (.Name y p) (tV X G Wx fun v => varW i v) := by
  refine (pe_var hN hv hd hcd).imp fun σ H Q hq => ?_
  obtain ⟨C, r, v, R, E, hw⟩ := hq
  have hw : (varW i v C).wp _ := hw
  unfold varW at hw
  cases e : v[i]? with
  | none => rw [e] at hw; exact hw.elim
  | some o =>
    rw [e] at hw
    cases o with
    | none => exact hw.elim
    | some w =>
      obtain ⟨x, e1, rx⟩ := E.get e
      exact ⟨x, e1, Post.here (RA := RelW X.K) R rx hw⟩
theorem r_tC {x : Expr} {w : W} {v : V} (h : PE X x (tC v)) (hr : ∀ n r H, RV X.K n r H w v) : PE X x (tV X G Wx fun _ => M.pure w) := by
  refine h.imp fun σ H Q hq => ?_
  obtain ⟨C, r, v, R, E, hw⟩ := hq
  exact Post.here (RA := RelW X.K) R (hr _ _ _) hw
/-! ### argument lists, displays -/
theorem r_nil : PA X [] (tA' X G Wx fun _ => M.pure []) := by
  refine pa_nil.imp fun σ H Q hq => ?_
  obtain ⟨C, r, v, R, E, hw⟩ := hq
  exact Post.here (RA := RelL X.K) R .nil hw
theorem r_cons {x : Expr} {xs : List Expr} {f : Env → M W} {g : Env → M (List W)} (hx : PE X x (tV X G Wx f)) (hxs : PA X xs (tA' X G Wx g)) (hs : starEach (x :: xs) X.env = (false, eval x X.env) :: starEach xs X.env) :
    PA X (x :: xs) (tA' X G Wx fun v => (f v).bind fun a => (g v).bind fun ws => M.pure (a :: ws)) := by
  refine (pa_cons hx hxs hs).imp fun σ H Q hq => ?_
  obtain ⟨C, r, v, R, E, hw⟩ := hq
  refine tl_intro R E hw fun C1 r1 H1 a b R1 X1 ra q => ?_
  refine tl_intro R1 (E.ext R X1) q fun C2 r2 H2 ws bs R2 X2 rbs q2 => ?_
  exact Post.here (RA := RelL X.K) R2 (.cons (ra.ext R1 X2) rbs) q2
theorem r_star {x : Expr} {p : Pos} {xs : List Expr} {f : Env → M W} {g : Env → M (List W)} (hx : PE X x (tV X G Wx f)) (hxs : PA X xs (tA' X G Wx g)) :
    PA X (.Starred x p :: xs) (tA' X G Wx fun v => (f v).bind fun a => (itemsW a).bind fun as => (g v).bind fun ws => M.pure (as ++ ws)) := by
  refine (StX.pa_star hx hxs).imp fun σ H Q hq => ?_
  obtain ⟨C, r, v, R, E, hw⟩ := hq
  refine tl_intro R E hw fun C1 r1 H1 a b R1 X1 ra q => ?_
  obtain ⟨p, ws0, vs, rfl, hp, l, q⟩ := items_of R1 ra q
  refine ⟨p, vs, rfl, ?_, ?_⟩
  · rcases hp with ⟨z, _⟩ | ⟨z, _⟩
    · exact .inr z
    · exact .inl z
  · refine tl_intro R1 (E.ext R X1) q fun C2 r2 H2 ws bs R2 X2 rbs q2 => ?_
    exact Post.here (RA := RelL X.K) R2 ((l.ext R1 X2).append rbs) q2
theorem r_tup {xs : List Expr} {k : Nat} {g : Env → M (List W)} (h : PA X xs (tA' X G Wx g)) :
    PE X (.Tuple xs k pos) (tV X G Wx fun v => (g v).bind fun ws => (M.chk (fitB ws.length)).bind fun _ => M.pure (.tup ws)) := by
  refine (pe_tup h).imp fun σ H Q hq => ?_
  obtain ⟨C, r, v, R, E, hw⟩ := hq
  refine tl_intro R E hw fun C1 r1 H1 a b R1 X1 ra q => ?_
  obtain ⟨hc, q⟩ := wp_chk.mp q
  exact ⟨by rw [← RVs.length ra]; exact fit_le hc, Post.newT R1 q ra⟩
theorem r_lst {xs : List Expr} {g : Env → M (List W)} (h : PA X xs (tA' X G Wx g)) :
    PE X (.List xs pos) (tV X G Wx fun v => (g v).bind fun ws => (M.chk (fitB ws.length)).bind fun _ => M.new (.lst ws)) := by
  refine (pe_lst h).imp fun σ H Q hq => ?_
  obtain ⟨C, r, v, R, E, hw⟩ := hq
  refine tl_intro R E hw fun C1 r1 H1 a b R1 X1 ra q => ?_
  obtain ⟨hc, q⟩ := wp_chk.mp q
  exact ⟨by rw [← RVs.length ra]; exact fit_le hc, Post.newL R1 q ra⟩
/-! ### operators -/
theorem Post.to2 {K : PySem.W.Frag} {f : W → W → M W} {C : Hc} {r : Nat → Addr} {H : Hp} {σ : St} {Q : VK} {a b : W} {x y : V} (R : Rep K G r C H) (ra : RV K C.next r H a x) (rb : RV K C.next r H b y) (hw : (f a b C).wp (Post K G (RelW K) Wx σ C r H Q)) : Ok2 K G f x y H Q :=
  ⟨C, r, a, b, Wx, σ, R, ra, rb, hw⟩
theorem Post.to2B {K : PySem.W.Frag} {f : W → W → M Bool} {C : Hc} {r : Nat → Addr} {H : Hp} {σ : St} {Q : VK} {a b : W} {x y : V} (R : Rep K G r C H) (ra : RV K C.next r H a x) (rb : RV K C.next r H b y) (hw : (f a b C).wp (Post K G RelB Wx σ C r H fun k H' => Q (.bl k) H')) : Ok2B K G f x y H Q :=
  ⟨C, r, a, b, Wx, σ, R, ra, rb, hw⟩
theorem r_bin {op : Operator} {x y : Expr} {f g : Env → M W} (hx : PE X x (tV X G Wx f)) (hy : PE X y (tV X G Wx g)) :
    PE X (.BinOp x op y pos) (tV X G Wx fun v => (f v).bind fun a => (g v).bind fun b => binW op a b) := by
  refine (pe_op (bin_ok (G := G) op) hx hy).imp fun σ H Q hq => ?_
  obtain ⟨C, r, v, R, E, hw⟩ := hq
  refine tl_intro R E hw fun C1 r1 H1 a b R1 X1 ra q => ?_
  refine tl_intro R1 (E.ext R X1) q fun C2 r2 H2 a2 b2 R2 X2 ra2 q2 => ?_
  exact Post.to2 R2 (ra.ext R1 X2) ra2 q2
theorem wp_bl {C : Hc} {P : XR W → Prop} {m : M Bool} : ((m.bind fun b => M.pure (.bl b)) C).wp P ↔ (m C).wp fun r => match r with
    | .ok a C1 => P (.ok (.bl a) C1)
    | .exc x C1 => P (.exc x C1) := by
  rw [wp_bindM]
  constructor
  · intro h
    refine Tr.wp_mono (fun r hr => ?_) h
    cases r with
    | ok a C1 => exact hr
    | exc x C1 => exact hr
  · intro h
    refine Tr.wp_mono (fun r hr => ?_) h
    cases r with
    | ok a C1 => exact hr
    | exc x C1 => exact hr
theorem Post.bl {K : PySem.W.Frag} {C : Hc} {r : Nat → Addr} {H : Hp} {σ : St} {Q : VK} {C1 : Hc} {m : M Bool} (h : ((m.bind fun b => M.pure (.bl b)) C1).wp (Post K G (RelW K) Wx σ C r H Q)) : (m C1).wp (Post K G RelB Wx σ C r H fun k H' => Q (.bl k) H') := by
  refine Tr.wp_mono (fun x hx => ?_) (wp_bl.mp h)
  cases x with
  | ok a C2 =>
    intro r' H' b R' X' e
    cases (show a = b from e)
    exact hx r' H' (.bl a) R' X' (by unfold RelW RV; rfl)
  | exc x C2 => exact hx
theorem r_cmp {op : CmpOp} {x y : Expr} {f g : Env → M W} {k : W → W → M Bool} (ho : OpR X (compareOp op) (Ok2B X.K G k)) (hx : PE X x (tV X G Wx f)) (hy : PE X y (tV X G Wx g)) (hm : behindInMarks op y = false) :
    PE X (.Compare x [op] [y] pos) (tV X G Wx fun v => (f v).bind fun a => (g v).bind fun b => (k a b).bind fun c => M.pure (.bl c)) := by
  refine (pe_cmpR ho hx hy hm).imp fun σ H Q hq => ?_
  obtain ⟨C, r, v, R, E, hw⟩ := hq
  refine tl_intro R E hw fun C1 r1 H1 a b R1 X1 ra q => ?_
  refine tl_intro R1 (E.ext R X1) q fun C2 r2 H2 a2 b2 R2 X2 ra2 q2 => ?_
  exact Post.to2B R2 (ra.ext R1 X2) ra2 (Post.bl q2)
/-- a value that is told true or false -/
theorem tst_of {f : Env → M W} {t : TE} (h : ∀ σ H Q, tV X G Wx f σ H Q → t σ H Q) : ∀ σ H Q, tB' X G Wx (fun v => (f v).bind truW) σ H Q → tTest t σ H Q := fun σ H Q hq => by
  obtain ⟨C, r, v, R, E, hw⟩ := hq
  exact h σ H _ (tl_intro R E hw fun C1 r1 H1 a b R1 X1 ra q => tru_here R1 ra q)
theorem r_cmpT {op : CmpOp} {x y : Expr} {f g : Env → M W} {k : W → W → M Bool} (ho : OpR X (compareOp op) (Ok2B X.K G k)) (hx : PE X x (tV X G Wx f)) (hy : PE X y (tV X G Wx g)) (hm : behindInMarks op y = false) :
    PT X (.Compare x [op] [y] pos) (tB' X G Wx fun v => ((f v).bind fun a => (g v).bind fun b => (k a b).bind fun c => M.pure (.bl c)).bind truW) := by
  refine (pt_cmpR ho hx hy hm).imp (tst_of fun σ H Q hq => ?_)
  obtain ⟨C, r, v, R, E, hw⟩ := hq
  refine tl_intro R E hw fun C1 r1 H1 a b R1 X1 ra q => ?_
  refine tl_intro R1 (E.ext R X1) q fun C2 r2 H2 a2 b2 R2 X2 ra2 q2 => ?_
  exact Post.to2B R2 (ra.ext R1 X2) ra2 (Post.bl q2)
theorem cmp2_chain {o p : CmpOp} {f g h : Env → M W} {k l : W → W → M Bool} : ∀ σ H Q, tV X G Wx (fun v => (f v).bind fun a => (g v).bind fun b => (k a b).bind fun r => bif r then (h v).bind fun z => (l b z).bind fun c => M.pure (.bl c) else M.pure (.bl false)) σ H Q →
    tChain (Ok2B X.K G k) (Ok2B X.K G l) (tV X G Wx f) (tV X G Wx g) (tV X G Wx h) σ H Q := fun σ H Q hq => by
  obtain ⟨C, r, v, R, E, hw⟩ := hq
  refine tl_intro R E hw fun C1 r1 H1 a b R1 X1 ra q => ?_
  refine tl_intro R1 (E.ext R X1) q fun C2 r2 H2 a2 b2 R2 X2 ra2 q2 => ?_
  refine ⟨C2, r2, a, a2, Wx, σ, R2, ra.ext R1 X2, ra2, Tr.wp_mono (fun x hx => ?_) (wp_bindM.mp q2)⟩
  cases x with
  | exc x C3 => exact hx
  | ok c C3 =>
    intro r3 H3 c' R3 X3 e
    cases (show c = c' from e)
    refine ⟨c, rfl, ?_⟩
    have hx := Tr.wp_mono (fun _ h => Post.shift X3 h) hx
    cases c with
    | true => 
      rw [if_pos rfl]
      refine tl_intro R3 ((E.ext R X1).ext R1 X2 |>.ext R2 X3) hx fun C4 r4 H4 a4 b4 R4 X4 ra4 q4 => ?_
      exact Post.to2B R4 ((ra2.ext R2 X3).ext R3 X4) ra4 (Post.bl q4)
    | false => 
      rw [if_neg Bool.false_ne_true]
      exact Post.here (RA := RelW X.K) (Wx := Wx) (σ := σ) R3 (by unfold RelW RV; rfl) hx
theorem r_cmp2 {o p : CmpOp} {x y z : Expr} {f g h : Env → M W} {k l : W → W → M Bool} (ho : OpR X (compareOp o) (Ok2B X.K G k)) (hp : OpR X (compareOp p) (Ok2B X.K G l)) (hx : PE X x (tV X G Wx f)) (hy : PE X y (tV X G Wx g)) (hz : PE X z (tV X G Wx h))
    (hm : lastMarks [o, p] [y, z] = false) :
    PE X (.Compare x [o, p] [y, z] pos) (tV X G Wx fun v => (f v).bind fun a => (g v).bind fun b => (k a b).bind fun r => bif r then (h v).bind fun z => (l b z).bind fun c => M.pure (.bl c) else M.pure (.bl false)) :=
  (pe_chain ho hp hx hy hz hm).imp (cmp2_chain (o := o) (p := p))
theorem r_cmp2T {o p : CmpOp} {x y z : Expr} {f g h : Env → M W} {k l : W → W → M Bool} (ho : OpR X (compareOp o) (Ok2B X.K G k)) (hp : OpR X (compareOp p) (Ok2B X.K G l)) (hx : PE X x (tV X G Wx f)) (hy : PE X y (tV X G Wx g)) (hz : PE X z (tV X G Wx h))
    (hm : lastMarks [o, p] [y, z] = false) :
    PT X (.Compare x [o, p] [y, z] pos) (tB' X G Wx fun v => ((f v).bind fun a => (g v).bind fun b => (k a b).bind fun r => bif r then (h v).bind fun z => (l b z).bind fun c => M.pure (.bl c) else M.pure (.bl false)).bind truW) :=
  (pt_chain ho hp hx hy hz hm).imp (tst_of (cmp2_chain (o := o) (p := p)))
theorem RV.isN {K : PySem.W.Frag} {n : Nat} {r : Nat → Addr} {H : Hp} {w : W} {v : V} (h : RV K n r H w v) : decide (v = .non) = BL.isN w := by
  cases w <;> unfold RV at h <;> first
    | (subst h; rfl)
    | exact h.elim
    | (obtain ⟨_, rfl⟩ := h; rfl)
    | (obtain ⟨_, rfl, _⟩ := h; rfl)
    | (obtain ⟨_, _, rfl, _⟩ := h; rfl)
theorem isN_t {neg : Bool} {f : Env → M W} : ∀ σ H Q, tV X G Wx (fun v => (f v).bind fun a => M.pure (.bl (isN a != neg))) σ H Q → (fun σ H Q => (tV X G Wx f) σ H fun x H1 => Q (.bl (decide (x = .non) != neg)) H1 : TE) σ H Q := fun σ H Q hq => by
  obtain ⟨C, r, v, R, E, hw⟩ := hq
  refine tl_intro R E hw fun C1 r1 H1 a b R1 X1 ra q => ?_
  rw [RV.isN ra]
  exact Post.here (RA := RelW X.K) R1 (by unfold RelW RV; rfl) q
theorem tB_test {t : TE} : ∀ {σ H Q}, tTest t σ H Q → tB t σ H Q := fun h => h
theorem r_isN {j p} {x : Expr} {f : Env → M W} (hx : PE X x (tV X G Wx f)) : PE X (.Compare x [.Is] [.Constant .none j p] pos) (tV X G Wx fun v => (f v).bind fun a => M.pure (.bl (isN a != false))) := by
  refine (pe_cmp (pc_isN hx)).imp fun σ H Q hq => ?_
  have := isN_t (neg := false) σ H Q hq
  simpa only [tIsN, Bool.bne_false] using this
theorem r_notN {j p} {x : Expr} {f : Env → M W} (hx : PE X x (tV X G Wx f)) : PE X (.Compare x [.IsNot] [.Constant .none j p] pos) (tV X G Wx fun v => (f v).bind fun a => M.pure (.bl (isN a != true))) := by
  refine (pe_cmp (pc_notN hx)).imp fun σ H Q hq => ?_
  have := isN_t (neg := true) σ H Q hq
  simpa only [tNotN, Bool.bne_true] using this
theorem r_isNT {j p} {x : Expr} {f : Env → M W} (hx : PE X x (tV X G Wx f)) : PT X (.Compare x [.Is] [.Constant .none j p] pos) (tB' X G Wx fun v => ((f v).bind fun a => M.pure (.bl (isN a != false))).bind truW) := by
  refine (pt_cmp (pc_isN hx)).imp (tst_of fun σ H Q hq => ?_)
  have := isN_t (neg := false) σ H Q hq
  simpa only [tIsN, Bool.bne_false] using this
theorem r_notNT {j p} {x : Expr} {f : Env → M W} (hx : PE X x (tV X G Wx f)) : PT X (.Compare x [.IsNot] [.Constant .none j p] pos) (tB' X G Wx fun v => ((f v).bind fun a => M.pure (.bl (isN a != true))).bind truW) := by
  refine (pt_cmp (pc_notN hx)).imp (tst_of fun σ H Q hq => ?_)
  have := isN_t (neg := true) σ H Q hq
  simpa only [tNotN, Bool.bne_true] using this
/-! ### not, and, or, if -/
theorem r_not {x : Expr} {f : Env → M W} (hx : PE X x (tV X G Wx f)) : PE X (.UnaryOp .Not x pos) (tV X G Wx fun v => (f v).bind fun a => (truW a).bind fun b => M.pure (.bl (!b))) := by
  refine (pe_not hx).imp fun σ H Q hq => ?_
  obtain ⟨C, r, v, R, E, hw⟩ := hq
  refine tl_intro R E hw fun C1 r1 H1 a b R1 X1 ra q => ?_
  unfold truW at q
  split at q
  · unfold RelW RV at ra
    exact ⟨_, ra, Post.here (RA := RelW X.K) R1 (by unfold RelW RV; rfl) q⟩
  · exact q.elim
theorem r_notT {x : Expr} {f : Env → M Bool} (hx : PT X x (tB' X G Wx f)) : PT X (.UnaryOp .Not x pos) (tB' X G Wx fun v => (f v).bind fun b => M.pure (!b)) := by
  refine (pt_not hx).imp fun σ H Q hq => ?_
  obtain ⟨C, r, v, R, E, hw⟩ := hq
  refine tl_intro R E hw fun C1 r1 H1 a b R1 X1 ra q => ?_
  cases (show a = b from ra)
  exact Post.here (RA := RelB) R1 rfl q
theorem r_ite {c x y : Expr} {k : Env → M Bool} {f g : Env → M W} (hc : PT X c (tB' X G Wx k)) (hx : PE X x (tV X G Wx f)) (hy : PE X y (tV X G Wx g)) : PE X (.IfExp c x y pos) (tV X G Wx fun v => (k v).bind fun r => bif r then f v else g v) := by
  refine (pe_ifExp hc hx hy).imp fun σ H Q hq => ?_
  obtain ⟨C, r, v, R, E, hw⟩ := hq
  refine tl_intro R E hw fun C1 r1 H1 a b R1 X1 ra q => ?_
  cases (show a = b from ra)
  cases a with
  | true => rw [if_pos rfl]; exact tl_last R1 (E.ext R X1) q
  | false => rw [if_neg Bool.false_ne_true]; exact tl_last R1 (E.ext R X1) q
theorem pt_ifExp {c a b : Expr} {tc ta tb : TT} (hc : PT X c tc) (ha : PT X a ta) (hb : PT X b tb) : PT X (.IfExp c a b pos) (fun σ H Q => tc σ H fun r H1 => if r = true then ta σ H1 Q else tb σ H1 Q) := by
  refine ⟨fun pins s σ H Q I h => ?_⟩
  show wpAny _ _ (do if ← isTrue c X.env (eval c X.env) then isTrue a X.env (eval a X.env) else isTrue b X.env (eval b X.env)) _ _ s
  refine wpAny_bind (thn (hc.run pins s σ H _ I h) fun d s1 ⟨H1, I1, q1⟩ => ?_)
  cases d with
  | true => exact ha.run pins s1 σ H1 Q I1 q1
  | false => exact hb.run pins s1 σ H1 Q I1 q1
theorem r_iteT {c x y : Expr} {k f g : Env → M Bool} (hc : PT X c (tB' X G Wx k)) (hx : PT X x (tB' X G Wx f)) (hy : PT X y (tB' X G Wx g)) : PT X (.IfExp c x y pos) (tB' X G Wx fun v => (k v).bind fun r => bif r then f v else g v) := by
  refine (pt_ifExp hc hx hy).imp fun σ H Q hq => ?_
  obtain ⟨C, r, v, R, E, hw⟩ := hq
  refine tl_intro R E hw fun C1 r1 H1 a b R1 X1 ra q => ?_
  cases (show a = b from ra)
  cases a with
  | true => rw [if_pos rfl]; exact tl_last R1 (E.ext R X1) q
  | false => rw [if_neg Bool.false_ne_true]; exact tl_last R1 (E.ext R X1) q
theorem r_neg {x : Expr} {f : Env → M W} (hx : PE X x (tV X G Wx f)) : PE X (.UnaryOp .USub x pos) (tV X G Wx fun v => (f v).bind fun x => match x with
    | .int i => M.pure (.int (-i))
    | _ => M.no) := by
  refine (pe_un un_neg hx).imp fun σ H Q hq => ?_
  obtain ⟨C, r, v, R, E, hw⟩ := hq
  refine tl_intro R E hw fun C1 r1 H1 a b R1 X1 ra q => ?_
  split at q
  · unfold RelW RV at ra
    exact ⟨_, ra, Post.here (RA := RelW X.K) R1 (by unfold RelW RV; rfl) q⟩
  · exact q.elim
/-! ### subscripts, slices -/
theorem r_sub {x y : Expr} {f g : Env → M W} (hx : PE X x (tV X G Wx f)) (hy : PE X y (tV X G Wx g)) (hs : PlainIx y) :
    PE X (.Subscript x y pos) (tV X G Wx fun v => (f v).bind fun a => (g v).bind fun b => subW a b) := by
  refine (pe_ix (sub_ok (G := G)) hx hy hs).imp fun σ H Q hq => ?_
  obtain ⟨C, r, v, R, E, hw⟩ := hq
  refine tl_intro R E hw fun C1 r1 H1 a b R1 X1 ra q => ?_
  refine tl_intro R1 (E.ext R X1) q fun C2 r2 H2 a2 b2 R2 X2 ra2 q2 => ?_
  exact Post.to2 R2 (ra.ext R1 X2) ra2 q2
/-- a bound of a slice -/
abbrev RelO' : Rl W (Option Int) := fun _ _ _ w o => boundW w = some o
theorem r_part {x : Expr} {f : Env → M W} (hx : PE X x (tV X G Wx f)) : PO X (some x) (tl X.K G RelO' Wx fun v => (f v).bind fun a => match a with
    | .int i => M.pure (.int i)
    | _ => M.no) := by
  refine ⟨fun pins s σ H Q I hq => (po_some hx).run pins s σ H Q I ?_⟩
  obtain ⟨C, r, v, R, E, hw⟩ := hq
  refine tl_intro R E hw fun C1 r1 H1 a b R1 X1 ra q => ?_
  split at q
  · unfold RelW RV at ra
    exact ⟨_, ra, Post.here (RA := RelO') R1 rfl q⟩
  · exact q.elim
theorem r_noPart : PO X none (tl X.K G RelO' Wx fun _ => M.pure .non) := by
  refine ⟨fun pins s σ H Q I hq => po_none.run pins s σ H Q I ?_⟩
  obtain ⟨C, r, v, R, E, hw⟩ := hq
  exact Post.here (RA := RelO') R rfl hw
def OkS (K : PySem.W.Frag) (G : Sg) : V → Option Int → Option Int → Hp → VK → Prop := fun x lo hi H Q => ∃ C r a l h Wx σ, Rep K G r C H ∧ RV K C.next r H a x ∧ boundW l = some lo ∧ boundW h = some hi ∧ (slcW a l h C).wp (Post K G (RelW K) Wx σ C r H Q)
theorem ints_rv {K : PySem.W.Frag} {n : Nat} {r : Nat → Addr} {H : Hp} : ∀ ns : List Int, RVs K n r H (ns.map W.int) (ns.map V.int)
  | [] => .nil
  | i :: ns => .cons (by unfold RV; rfl) (ints_rv ns)
theorem slc_ok : SlR X (OkS X.K G) := by
  intro pins s σ H x v vl vu lo hi sl Q I rx hs pl pu h
  obtain ⟨C, r, a, l, u, Wx, σ', R, ra, el, eu, hw⟩ := h
  unfold slcW at hw
  rw [el, eu] at hw
  simp only at hw
  split at hw
  · rename_i ws
    unfold RV at ra
    obtain ⟨p, vs, hx, q, lv⟩ := ra
    have lc := lv.cut lo hi
    refine sl_tupA pins s σ H x v vl vu lo hi sl Q I rx hs pl pu ⟨p, vs, hx, q, fun hwh => ?_, fun _ => ?_⟩
    · refine Post.here (RA := RelW X.K) R ?_ hw
      have e : cutW ws lo hi = ws := by
        unfold cutW
        rw [← lv.length] at hwh
        rw [hwh.1, hwh.2]
        simp
      rw [e]
      show RV X.K C.next r H (.tup ws) _
      unfold RV
      exact ⟨p, vs, rfl, q, lv⟩
    · exact Post.newT R hw lc
  · obtain ⟨hc, hw⟩ := wp_chk.mp hw
    unfold RV at ra
    exact sl_str pins s σ H x v vl vu lo hi sl Q I rx hs pl pu ⟨_, ra, fit_le hc, Post.here (RA := RelW X.K) R (by unfold RelW RV; rfl) hw⟩
  · rename_i ns
    unfold RV at ra
    obtain ⟨p, hx, q, _⟩ := ra
    have lv : RVs X.K C.next r H (ns.map W.int) (ns.map V.int) := ints_rv ns
    exact sl_list pins s σ H x v vl vu lo hi sl Q I rx hs pl pu ⟨_, _, hx, q.sq, Post.newL R hw (lv.cut lo hi)⟩
  · obtain ⟨o, e0, hw⟩ := wp_get.mp hw
    split at hw
    · obtain ⟨vs, hx, hX, lv⟩ := R.lst ra e0
      exact sl_list pins s σ H x v vl vu lo hi sl Q I rx hs pl pu ⟨_, vs, hx, SqL.of hX, Post.newL R hw (lv.cut lo hi)⟩
    · exact hw.elim
  · exact hw.elim
theorem r_slc {x : Expr} {lo hi : Option Expr} {p2 : Pos} {f g h : Env → M W} (hx : PE X x (tV X G Wx f)) (hl : PO X lo (tl X.K G RelO' Wx g)) (hh : PO X hi (tl X.K G RelO' Wx h)) :
    PE X (.Subscript x (.Slice lo hi none p2) pos) (tV X G Wx fun v => (f v).bind fun a => (g v).bind fun l => (h v).bind fun u => slcW a l u) := by
  refine (pe_slice (slc_ok (G := G)) hx hl hh).imp fun σ H Q hq => ?_
  obtain ⟨C, r, v, R, E, hw⟩ := hq
  refine tl_intro R E hw fun C1 r1 H1 a b R1 X1 ra q => ?_
  refine tl_intro R1 (E.ext R X1) q fun C2 r2 H2 a2 b2 R2 X2 ra2 q2 => ?_
  refine tl_intro R2 ((E.ext R X1).ext R1 X2) q2 fun C3 r3 H3 a3 b3 R3 X3 ra3 q3 => ?_
  exact ⟨C3, r3, a, a2, a3, Wx, σ, R3, (ra.ext R1 X2).ext R2 X3, ra2, ra3, q3⟩
theorem r_rev {x : Expr} {k : Nat} {p1 p2 p3 : Pos} {f : Env → M W} (hx : PE X x (tV X G Wx f)) : PE X (.Subscript x (.Slice none none (some (.UnaryOp .USub (.Constant (.int 1) k p1) p2)) p3) pos) (tV X G Wx fun v => (f v).bind fun a => revW a) := by
  refine (pe_revL hx).imp fun σ H Q hq => ?_
  obtain ⟨C, r, v, R, E, hw⟩ := hq
  refine tl_intro R E hw fun C1 r1 H1 a b R1 X1 ra q => ?_
  unfold revW at q
  split at q
  · obtain ⟨o, e0, q⟩ := wp_get.mp q
    split at q
    · obtain ⟨vs, hx, hX, lv⟩ := R1.lst ra e0
      exact ⟨_, vs, hx, SqL.of hX, Post.newL R1 q lv.reverse⟩
    · exact q.elim
  · exact q.elim
/-! ### texts -/
theorem r_fmt {x : Expr} {f : Env → M W} (hx : PE X x (tV X G Wx f)) : PE X (.FormattedValue x (-1) none pos) (tV X G Wx fun v => (f v).bind fun a => fmtW a) := by
  refine (pe_fmt hx).imp fun σ H Q hq => ?_
  obtain ⟨C, r, v, R, E, hw⟩ := hq
  refine tl_intro R E hw fun C1 r1 H1 a b R1 X1 ra q => ?_
  unfold fmtW at q
  split at q
  · obtain ⟨hc, q⟩ := wp_chk.mp q
    unfold RelW RV at ra
    exact .inl ⟨_, ra, fit_le hc, Post.here (RA := RelW X.K) R1 (by unfold RelW RV; rfl) q⟩
  · rename_i i
    obtain ⟨hc, q⟩ := wp_chk.mp q
    unfold RelW RV at ra
    refine .inr ⟨_, ra, ?_, Post.here (RA := RelW X.K) R1 (by unfold RelW RV; rfl) q⟩
    have := of_decide_eq_true hc
    refine Nat.lt_of_le_of_lt (m := 20) ?_ (by decide)
    by_cases z : i.natAbs = 0
    · rw [z]; decide
    · exact Nat.le_of_lt_succ ((Nat.log2_lt z).mpr (by omega))
  · exact q.elim
end
end BL
set_option Elab.async false
set_option linter.all false
set_option maxRecDepth 100000
set_option maxHeartbeats 1000000
/-! BLB: how arguments are bound to plain parameters. -/
namespace BL
open PySem L2

/-- plain parameters: their names, nothing else -/
structure PlainP (fd : FuncData) (ps : List Str) : Prop where
  po : fd.params.posonlyargs = []
  ar : fd.params.args.map (·.arg) = ps
  va : fd.params.vararg = none
  ko : fd.params.kwonlyargs = []
  kw : fd.params.kwarg = none
  nd : ps.Nodup

theorem lookup_zip {α : Type} : ∀ {ps : List Str} {us : List α} {i : Nat} {x : Str} {u : α}, ps.Nodup → ps[i]? = some x → us[i]? = some u → (ps.zip us).lookup x = some u
  | [], _, _, _, _, _, h, _ => by simp at h
  | _ :: _, [], _, _, _, _, _, h => by simp at h
  | p :: ps, w :: us, 0, x, u, nd, h1, h2 => by
    simp at h1 h2; subst h1; subst h2
    simp [List.lookup]
  | p :: ps, w :: us, i + 1, x, u, nd, h1, h2 => by
    have hx : x ∈ ps := List.mem_of_getElem? (by simpa using h1)
    have hne : (x == p) = false := by
      refine beq_eq_false_iff_ne.mpr fun e => ?_
      subst e
      exact (List.nodup_cons.mp nd).1 hx
    rw [List.zip_cons_cons, List.lookup_cons, hne]
    exact lookup_zip (i := i) (List.nodup_cons.mp nd).2 (by simpa using h1) (by simpa using h2)
theorem lookup_zip_none {α : Type} : ∀ {ps : List Str} {us : List α} {i : Nat} {x : Str}, ps.Nodup → ps[i]? = some x → us.length ≤ i → (ps.zip us).lookup x = none
  | [], _, _, _, _, h, _ => by simp at h
  | _ :: _, [], _, _, _, _, _ => by simp [List.lookup]
  | p :: ps, w :: us, 0, x, nd, h1, h2 => by simp at h2
  | p :: ps, w :: us, i + 1, x, nd, h1, h2 => by
    have hx : x ∈ ps := List.mem_of_getElem? (by simpa using h1)
    have hne : (x == p) = false := by
      refine beq_eq_false_iff_ne.mpr fun e => ?_
      subst e
      exact (List.nodup_cons.mp nd).1 hx
    rw [List.zip_cons_cons, List.lookup_cons, hne]
    exact lookup_zip_none (i := i) (List.nodup_cons.mp nd).2 (by simpa using h1) (by simpa using h2)
/-- if the slots tell each parameter's value -/
theorem binds_are {α : Type} {sl : List (Str × α)} : ∀ {ps : List Str} {zs : List α}, ps.length = zs.length → (∀ (i : Nat) (x : Str) (z : α), ps[i]? = some x → zs[i]? = some z → sl.lookup x = some z) → (ps.filterMap fun n => (sl.lookup n).map fun v => (n, v)) = ps.zip zs
  | [], [], _, _ => rfl
  | [], _ :: _, h, _ => by simp at h
  | _ :: _, [], h, _ => by simp at h
  | p :: ps, z :: zs, h, k => by
    have h0 := k 0 p z rfl rfl
    rw [List.filterMap_cons, h0, List.zip_cons_cons]
    simp only [Option.map_some]
    rw [binds_are (by simpa using h) fun i x y a b => k (i + 1) x y (by simpa using a) (by simpa using b)]
abbrev Sl := List (Str × Value)
/-- the loop over keywords puts them behind -/
theorem kw_loop {normal : List Str} {f : Str × Value → Sl × Sl → Sem (ForInStep (Sl × Sl))}
    (hf : ∀ k v ex sl, normal.contains k = true → (List.lookup k sl).isSome = false → f (k, v) (sl, ex) = pure (.yield (sl ++ [(k, v)], ex))) :
    ∀ (kw : Sl) (ex sl : Sl), (∀ p ∈ kw, normal.contains p.1 = true) → (kw.map (·.1)).Nodup → (∀ p ∈ kw, sl.lookup p.1 = none) → forIn kw (sl, ex) f = (pure (sl ++ kw, ex) : Sem _)
  | [], ex, sl, _, _, _ => by simp
  | (k, v) :: kw, ex, sl, h1, h2, h3 => by
    have hk := h3 (k, v) List.mem_cons_self
    rw [List.forIn_cons, hf k v ex sl (h1 _ List.mem_cons_self) (by rw [hk]; rfl), pure_bind]
    have nd := List.nodup_cons.mp h2
    have := kw_loop hf kw ex (sl ++ [(k, v)]) (fun p hp => h1 p (List.mem_cons_of_mem _ hp)) nd.2 fun p hp => by
      rw [List.lookup_append, h3 p (List.mem_cons_of_mem _ hp)]
      have hne : (p.1 == k) = false := by
        refine beq_eq_false_iff_ne.mpr fun e => nd.1 ?_
        show k ∈ kw.map (·.1)
        rw [← e]
        exact List.mem_map_of_mem (f := (·.1)) hp
      simp [List.lookup, hne]
    show forIn kw (sl ++ [(k, v)], ex) f = _
    rw [this, List.append_assoc]
    rfl
def fillD (sl : Sl) : Sl → Sl
  | [] => sl
  | (n, d) :: l => if (sl.lookup n).isNone = true then fillD (sl ++ [(n, d)]) l else fillD sl l
theorem fillD_lookup {x : Str} : ∀ (l sl : Sl), (fillD sl l).lookup x = (sl.lookup x).or (l.lookup x)
  | [], sl => by simp [fillD, List.lookup]
  | (n, d) :: l, sl => by
    unfold fillD
    split
    · rename_i h
      rw [fillD_lookup l, List.lookup_append, List.lookup_cons]
      cases e : sl.lookup x with
      | some v => simp
      | none =>
        simp only [Option.none_or, List.lookup]
        cases q : x == n with
        | true => simp
        | false => simp
    · rename_i h
      rw [fillD_lookup l, List.lookup_cons]
      cases e : sl.lookup x with
      | some v => simp
      | none =>
        simp only [Option.none_or]
        cases q : x == n with
        | false => rfl
        | true =>
          have := eq_of_beq q
          subst this
          rw [e] at h
          exact absurd rfl h
theorem dfl_loop {f : Str × Value → Sl → Sem (ForInStep Sl)} (hf : ∀ n d sl, f (n, d) sl = if (List.lookup n sl).isNone = true then pure (.yield (sl ++ [(n, d)])) else pure (.yield sl)) :
    ∀ (l sl : Sl), forIn l sl f = (pure (fillD sl l) : Sem _)
  | [], sl => by simp [fillD]
  | (n, d) :: l, sl => by
    rw [List.forIn_cons, hf]
    unfold fillD
    split
    · rw [pure_bind]; exact dfl_loop hf l _
    · rw [pure_bind]; exact dfl_loop hf l _
theorem bind_to {fd : FuncData} {ps : List Str} {us zs its : List Value} {kw : Sl} (hp : PlainP fd ps) (k1 : ∀ p ∈ kw, ps.contains p.1 = true) (k2 : (kw.map (·.1)).Nodup) (k3 : ∀ p ∈ kw, (ps.zip us).lookup p.1 = none)
    (h1 : us.length ≤ ps.length) (h2 : its.length ≤ ps.length) (h3 : ∀ (i : Nat) (x : Str), i < ps.length - its.length → ps[i]? = some x → ((ps.zip us ++ kw).lookup x).isNone = false)
    (h4 : ∀ (i : Nat) (x : Str) (z : Value), ps[i]? = some x → zs[i]? = some z → (ps.zip us ++ kw ++ (ps.drop (ps.length - its.length)).zip its).lookup x = some z) (h5 : ps.length = zs.length) :
    ∃ k, bindArgs fd ⟨us, kw⟩ = seqItems? fd.defaults >>= k ∧ ∀ o : Option (Array Value), (o.getD #[]).toList = its → k o = pure (ps.zip zs) := by
  unfold bindArgs
  dsimp only
  rw [hp.po, hp.ar, hp.ko, hp.va, hp.kw]
  simp only [List.map_nil, List.nil_append, List.append_nil]
  rw [kw_loop (normal := ps) (fun k v ex sl a b => by simp only [a, b, Bool.true_or, if_true, Bool.false_eq_true, if_false]) kw [] _ k1 k2 k3, pure_bind]
  refine ⟨_, rfl, fun o ho => ?_⟩
  dsimp only
  rw [ho]
  have e1 : (decide (us.length > ps.length) && Option.isNone (none : Option Arg)) = false := by
    rw [show decide (us.length > ps.length) = false from decide_eq_false (by omega)]; rfl
  rw [e1]
  simp only [Bool.false_eq_true, if_false]
  have e2 : its.length - ps.length = 0 := by omega
  rw [e2, List.drop_zero]
  have e3 : (List.filter (fun n => (List.lookup n (ps.zip us ++ kw)).isNone) (List.take (ps.length - its.length) ps)) = [] := by
    rw [List.filter_eq_nil_iff]
    intro x hx
    obtain ⟨i, hi⟩ := List.mem_iff_getElem?.mp hx
    rw [List.getElem?_take] at hi
    split at hi
    · rename_i hlt
      rw [h3 i x hlt hi]
      exact Bool.false_ne_true
    · cases hi
  rw [e3]
  simp only [List.isEmpty_nil, Bool.not_true, Bool.false_eq_true, if_false]
  rw [dfl_loop (fun n d sl => rfl), pure_bind]
  simp only [List.forIn_nil, pure_bind, List.isEmpty_nil, Bool.not_true, Bool.false_eq_true, if_false]
  refine congrArg pure (binds_are h5 fun i x z a b => ?_)
  rw [fillD_lookup, ← List.lookup_append]
  exact h4 i x z a b

/-- the defaults, and what is bound with them -/
theorem dfl_binds {K : PySem.W.Frag} {fd : FuncData} {dvs : List V} (hD : DflV K fd.defaults dvs) : ∃ its : List Value, Vals dvs its ∧ ∀ (args : Args) (bs : Sl),
    (∃ k, bindArgs fd args = seqItems? fd.defaults >>= k ∧ ∀ o : Option (Array Value), (o.getD #[]).toList = its → k o = pure bs) → ∀ s : Shared, K.In s.heap → BindsTo s fd args bs := by
  rcases hD with ⟨rfl, e⟩ | ⟨_, T, o, its, m, e, lT, oT, rT⟩
  · refine ⟨[], .nil, fun args bs ⟨k, e1, e2⟩ s X => BindsTo.of_eq ?_⟩
    rw [e1, e, show seqItems? Value.none = pure none from rfl, pure_bind]
    exact e2 none rfl
  · refine ⟨its, rT, fun args bs ⟨k, e1, e2⟩ s X => BindsTo.of_looks fun M => ?_⟩
    rw [e1, e]
    exact looks_items X lT oT (.of_pure (e2 _ rfl))
theorem zip_lookup_or {ps : List Str} {us its : List Value} {j i : Nat} {x : Str} {z : Value} (nd : ps.Nodup) (hj : j ≤ us.length) (hx : ps[i]? = some x) (hz : (us ++ its.drop (us.length - j))[i]? = some z) :
    (ps.zip us ++ [] ++ (ps.drop j).zip its).lookup x = some z := by
  rw [List.append_nil, List.lookup_append]
  by_cases h : i < us.length
  · rw [List.getElem?_append_left h] at hz
    rw [lookup_zip nd hx hz]
    rfl
  · rw [List.getElem?_append_right (by omega), List.getElem?_drop] at hz
    rw [lookup_zip_none nd hx (by omega), Option.none_or]
    refine lookup_zip (i := i - j) (nd.sublist (List.drop_sublist _ _)) ?_ ?_
    · rw [List.getElem?_drop]
      rw [show j + (i - j) = i by omega]
      exact hx
    · rw [← hz]
      congr 1
      omega
/-- positional values, then defaults -/
theorem pos_binds {K : PySem.W.Frag} {fd : FuncData} {ps : List Str} {dvs : List V} (hp : PlainP fd ps) (hD : DflV K fd.defaults dvs) (hl : dvs.length ≤ ps.length) (n : Nat) (h1 : n ≤ ps.length) (h2 : ps.length - n ≤ dvs.length) :
    ∃ ds, Vals (dvs.drop (dvs.length - (ps.length - n))) ds ∧ Binds K fd ps ds := by
  obtain ⟨its, r, h⟩ := dfl_binds hD
  have hlen := r.length
  refine ⟨its.drop (its.length - (ps.length - n)), by rw [← hlen]; exact r.drop _, fun s us X hq => ?_⟩
  have hn : us.length = n := by rw [List.length_append, List.length_drop] at hq; omega
  refine h ⟨us, []⟩ _ (bind_to hp (fun p hp => by cases hp) List.nodup_nil (fun p hp => by cases hp) (by omega) (by omega) (fun i x hi hx => ?_) (fun i x z hx hz => ?_) hq.symm) s X
  · rw [List.append_nil]
    have : i < us.length := by omega
    rw [lookup_zip hp.nd hx (List.getElem?_eq_getElem this)]
    rfl
  · have e : its.length - (ps.length - n) = us.length - (ps.length - its.length) := by omega
    rw [e] at hz
    exact zip_lookup_or hp.nd (by omega) hx hz
theorem kfill_len {α : Type} {kv : List (Str × α)} : ∀ {l : List Str} {r : List α}, kfill kv l = some r → r.length = l.length
  | [], r, h => by cases h; rfl
  | p :: l, r, h => by
    unfold kfill at h
    split at h
    · cases e : kfill kv l with
      | none => rw [e] at h; cases h
      | some q => rw [e] at h; cases h; simp [kfill_len e]
    · cases h
theorem lkS_lookup {α : Type} {x : Str} : ∀ {l : List (Str × α)}, lkS x l = l.lookup x
  | [] => rfl
  | p :: r => by
    unfold lkS
    rw [List.lookup_cons, lkS_lookup]
    by_cases h : p.1 = x
    · rw [if_pos h, show (x == p.1) = true from beq_iff_eq.mpr h.symm]
    · rw [if_neg h, show (x == p.1) = false from beq_eq_false_iff_ne.mpr fun e => h e.symm]
theorem kfill_get {α : Type} {kv : List (Str × α)} : ∀ {l : List Str} {r : List α} {i : Nat} {x : Str}, kfill kv l = some r → l[i]? = some x → kv.lookup x = r[i]?
  | [], r, _, _, h, e => by simp at e
  | p :: l, r, i, x, h, e => by
    unfold kfill at h
    split at h
    · rename_i w hw
      cases q : kfill kv l with
      | none => rw [q] at h; cases h
      | some t =>
        rw [q] at h
        cases h
        cases i with
        | zero => simp at e; subst e; rw [← lkS_lookup, hw]; rfl
        | succ i => rw [kfill_get (i := i) q (by simpa using e)]; simp
    · cases h
theorem kw_binds {K : PySem.W.Frag} {fd : FuncData} {ps ks : List Str} {dvs : List V} {us ws r : List Value} (hp : PlainP fd ps) (hD : DflV K fd.defaults dvs) (hl : dvs.length ≤ ps.length) (h1 : us.length ≤ ps.length) (hk : ksOk ks (ps.drop us.length) = true) (hw : ws.length = ks.length)
    (hf : kfill (ks.zip ws) (ps.drop us.length) = some r) : ∀ s : Shared, K.In s.heap → BindsTo s fd ⟨us, ks.zip ws⟩ (ps.zip (us ++ r)) := by
  obtain ⟨its, ri, h⟩ := dfl_binds hD
  have hlen := ri.length
  have hrl := kfill_len hf
  rw [List.length_drop] at hrl
  unfold ksOk at hk
  rw [Bool.and_eq_true, decide_eq_true_eq, List.all_eq_true] at hk
  have rest : ∀ x, x ∈ ps.drop us.length → (ps.zip us).lookup x = none := fun x hx => by
    obtain ⟨i, hi⟩ := List.mem_iff_getElem?.mp hx
    rw [List.getElem?_drop] at hi
    exact lookup_zip_none hp.nd hi (by omega)
  have key : ∀ p ∈ ks.zip ws, p.1 ∈ ps.drop us.length := fun p hp' => by
    have := hk.2 p.1 (List.of_mem_zip (show (p.1, p.2) ∈ _ from hp')).1
    exact List.contains_iff_mem.mp this
  have all : ∀ (i : Nat) (x : Str) (z : Value), ps[i]? = some x → (us ++ r)[i]? = some z → (ps.zip us ++ ks.zip ws).lookup x = some z := fun i x z hx hz => by
    rw [List.lookup_append]
    by_cases hi : i < us.length
    · rw [List.getElem?_append_left hi] at hz
      rw [lookup_zip hp.nd hx hz]
      rfl
    · rw [List.getElem?_append_right (by omega)] at hz
      rw [lookup_zip_none hp.nd hx (by omega), Option.none_or]
      rw [kfill_get (i := i - us.length) hf (by rw [List.getElem?_drop, show us.length + (i - us.length) = i by omega]; exact hx), hz]
  refine h ⟨us, ks.zip ws⟩ _ (bind_to hp (fun p hp' => ?_) ?_ (fun p hp' => rest _ (key p hp')) h1 (by omega) (fun i x hi hx => ?_) (fun i x z hx hz => ?_) (by rw [List.length_append]; omega))
  · exact List.contains_iff_mem.mpr (List.mem_of_mem_drop (key p hp'))
  · rw [List.map_fst_zip (by omega)]
    exact hk.1
  · have hlt : i < ps.length := (List.getElem?_eq_some_iff.mp hx).1
    have hz : (us ++ r)[i]? = some ((us ++ r)[i]'(by rw [List.length_append]; omega)) := List.getElem?_eq_getElem _
    rw [all i x _ hx hz]
    rfl
  · rw [List.lookup_append, all i x z hx hz]
    rfl
end BL
set_option Elab.async false
set_option linter.all false
set_option maxRecDepth 100000
set_option maxHeartbeats 1000000
/-! BL7: calls. -/
namespace BL
open PySem L2

/-! ### != by object.__ne__ and an own == -/
section
variable {prog : Program} {w : World} {A : Around} {E : Value → Shared → Prop} {s : Shared} {K : PySem.W.Frag} {x C f : Addr} {ox : Obj} {od : Option Obj} {b tb : Value}
theorem ifBound_B {M : Model} {name : Str} {id : String} {args : List Value} {Q : Option Value → Shared → Prop} (X : K.In s.heap) (I : PySem.W.InstAt s.heap x ox C od) (hs : PySem.W.findIn K (.ref C) name = some (some (.builtin id))) (hb : ∀ self, bindSpecial (.builtin id) self = pure (.builtin id, [self]))
    (h : wpAny M A (call (.builtin id) (.ref x :: args)) (fun v => Q (some v)) E s) : wpAny M A (callSpecialIfBound? (.ref x) name args) Q E s := by
  simp only [callSpecialIfBound?, bindSpecialIfBound?]
  refine wpAny_holding (wpAny_bind (wpAny_bind (wpAny_bind (I.type.here ((PySem.W.looks_findIn X hs).here ?_)))))
  refine wpAny_bind (wpAny_askSetting (wpAny_ite ?_))
  have fin : wpAny M A (call (.builtin id) ([.ref x] ++ args) >>= fun v => pure (some v)) Q E s := wpAny_bind (wpAny_mono h (fun v s' h' => wpAny_pure h') fun _ _ h' => h')
  simp only [hb]
  split
  · exact wpAny_bind (wpAny_pure (wpAny_pure fin))
  · exact wpAny_tryCatch (wpAny_bind (wpAny_pure (wpAny_pure fin)))
open Builtin in
theorem objNe_K (hu : A.units < cLine) (X : K.In s.heap) (I : PySem.W.InstAt s.heap x ox C od) (hs : PySem.W.findIn K (.ref C) "__eq__" = some (some (.ref f))) (hf : PySem.W.isFn K (.ref f) = true) {Q : Fin → Shared → Prop}
    (hcall : wpAny (model prog w) A (call (.ref f) [.ref x, b]) (fun v s' => ∃ c, v = .bool c ∧ Q (.done (.ret (.bool (!c)))) s') E s) :
    wpAny (model prog w) A (Builtin.«object.__ne__» ⟨[.ref x, b], []⟩) Q E s := by
  unfold Builtin.«object.__ne__»
  refine wpAny_bind (m := slotArgs "__ne__" 1 _) (wpAny_pure ?_)
  refine wpAny_bind (m := cRoomFor _ _) (wpAny_cRoomFor hu ?_)
  refine wpAny_bind (m := callSpecialIfBound? (.ref x) (Str.ofString "__eq__") [b]) (PySem.W.ifBound_K X I hs hf (wpAny_mono hcall (fun r s' hr => ?_) fun _ _ e => e))
  obtain ⟨c, rfl, hq⟩ := hr
  repeat (first | exact hq | exact wpAny_pure hq | exact wpAny_truthy_bool hq | (refine wpAny_bind (m := truthy (.bool _)) (wpAny_truthy_bool ?_)) | wp_step)
theorem ne_K (hu : A.units + 1 < cLine) (X : K.In s.heap) (I : PySem.W.InstAt s.heap x ox C od) (hb : PySem.W.Looks (model prog w) s.heap (typeOf b) tb) (hn : PySem.W.notFirst K C tb = true)
    (hne : PySem.W.findIn K (.ref C) "__ne__" = some (some (.builtin "object.__ne__"))) (hs : PySem.W.findIn K (.ref C) "__eq__" = some (some (.ref f))) (hf : PySem.W.isFn K (.ref f) = true) (hm : PySem.W.mroIn K C (.type "object") = some true) {Q : Value → Shared → Prop}
    (h : wpAny (model prog w) A.in1 (call (.ref f) [.ref x, b]) (fun v s' => ∃ c, v = .bool c ∧ Q (.bool (!c)) s') E s) : wpAny (model prog w) A (compareOp .NotEq (.ref x) b) Q E s := by
  have one : wpAny (model prog w) A (tryCompare (.ref x) (cmpInfo .NotEq).2.1 b) (fun r s' => ∃ v, r = some v ∧ Q v s') E s := by
    unfold tryCompare
    rw [cmpInfo_NotEq]
    refine wpAny_bind (ifBound_B X I hne PySem.F.cmp_object.ne.bind (wpAny_call (codeAny_call_builtin PySem.F.cmp_object.ne.plain PySem.F.cmpEntry_ne (PySem.W.check_slot PySem.F.cmpKind_ne PySem.F.cmpSplit_ne (I.type.andThen (PySem.W.looks_mroIn X hm)) (PySem.F.cmpArgs_ne _ _) ?_))))
    refine objNe_K (A := A.in1) hu X I hs hf (wpAny_mono h (fun v s' hv => ?_) fun _ _ e => e)
    obtain ⟨c, rfl, hq⟩ := hv
    exact ⟨c, rfl, wpAny_pure ⟨_, rfl, hq⟩⟩
  show wpAny _ _ (richCompare .NotEq (.ref x) b) _ _ s
  unfold richCompare
  simp only [oneThing_ref]
  refine wpAny_holding (wpAny_bind (wpAny_cRoomFor (Nat.lt_of_succ_lt hu) ?_))
  refine wpAny_bind (I.type.here (wpAny_bind (hb.here ?_)))
  split
  · rename_i q
    have e : PySem.W.subIn K tb (.ref C) = some false := by
      rcases Bool.or_eq_true_iff.mp hn with e | e
      · rw [beq_iff_eq.mp e] at q; simp at q
      · exact beq_iff_eq.mp e
    refine wpAny_bind ((PySem.W.looks_subIn X e).here ?_)
    simp only [Bool.false_eq_true, if_false]
    refine wpAny_bind (wpAny_mono one (fun r s' z => ?_) fun _ _ e => e)
    obtain ⟨v, rfl, hq⟩ := z
    exact wpAny_pure hq
  · refine wpAny_bind (wpAny_pure ?_)
    simp only [Bool.false_eq_true, if_false]
    refine wpAny_bind (wpAny_mono one (fun r s' z => ?_) fun _ _ e => e)
    obtain ⟨v, rfl, hq⟩ := z
    exact wpAny_pure hq
end
end BL
set_option Elab.async false
set_option linter.all false
set_option maxRecDepth 100000
set_option maxHeartbeats 1000000
/-! BL8: what stands in the text: defs, classes; calls of them. -/
namespace BL
open PySem L2

/-! ### fields -/
section
variable {K : PySem.W.Frag} {G : Sg} {n : Nat} {r : Nat → Addr} {H : Hp}
theorem nmS_inj (hn : G.nms.Nodup) {i j : Nat} (hi : i < G.nms.length) (hj : j < G.nms.length) (e : nmS G i = nmS G j) : i = j := by
  unfold nmS at e
  rw [List.getD_eq_getElem?_getD, List.getD_eq_getElem?_getD, List.getElem?_eq_getElem hi, List.getElem?_eq_getElem hj] at e
  have e : G.nms[i] = G.nms[j] := e
  exact nodup_ix hn (List.getElem?_eq_getElem hi) (by rw [e]; exact List.getElem?_eq_getElem hj)
theorem RFs.nil_iff {l : List (Str × V)} (h : RFs K G n r H [] l) : l = [] := by unfold RFs at h; exact h
theorem RFs.cons_iff {p : Nat × W} {ps : List (Nat × W)} {l : List (Str × V)} (h : RFs K G n r H (p :: ps) l) : ∃ v l', l = (nmS G p.1, v) :: l' ∧ p.1 < G.nms.length ∧ RV K n r H p.2 v ∧ RFs K G n r H ps l' := by unfold RFs at h; exact h
theorem RFs.cons {p : Nat × W} {ps : List (Nat × W)} {v : V} {l : List (Str × V)} (h1 : p.1 < G.nms.length) (h2 : RV K n r H p.2 v) (t : RFs K G n r H ps l) : RFs K G n r H (p :: ps) ((nmS G p.1, v) :: l) := by unfold RFs; exact ⟨v, l, rfl, h1, h2, t⟩
theorem RFs.nil : RFs K G n r H [] [] := by unfold RFs; rfl
theorem RFs.get (hn : G.nms.Nodup) {f : Nat} (hf : f < G.nms.length) : ∀ {fs : List (Nat × W)} {l : List (Str × V)} {w : W}, RFs K G n r H fs l → lk f fs = some w → ∃ v, l.lookup (nmS G f) = some v ∧ RV K n r H w v
  | [], _, _, _, e => by cases e
  | p :: fs, _, w, h, e => by
    obtain ⟨v, l', rfl, h1, h2, t⟩ := h.cons_iff
    unfold lk at e
    by_cases q : p.1 = f
    · rw [beq_t q] at e
      cases e
      exact ⟨v, by rw [List.lookup_cons, q, beq_self_eq_true], h2⟩
    · rw [beq_f q] at e
      obtain ⟨u, e1, e2⟩ := RFs.get hn hf t e
      refine ⟨u, ?_, e2⟩
      rw [List.lookup_cons, show (nmS G f == nmS G p.1) = false from beq_eq_false_iff_ne.mpr fun z => q (nmS_inj hn hf h1 z).symm]
      exact e1
theorem RFs.none (hn : G.nms.Nodup) {f : Nat} (hf : f < G.nms.length) : ∀ {fs : List (Nat × W)} {l : List (Str × V)}, RFs K G n r H fs l → lk f fs = none → l.lookup (nmS G f) = none
  | [], _, h, e => by rw [h.nil_iff]; rfl
  | p :: fs, _, h, e => by
    obtain ⟨v, l', rfl, h1, h2, t⟩ := h.cons_iff
    unfold lk at e
    by_cases q : p.1 = f
    · rw [beq_t q] at e; cases e
    · rw [beq_f q] at e
      rw [List.lookup_cons, show (nmS G f == nmS G p.1) = false from beq_eq_false_iff_ne.mpr fun z => q (nmS_inj hn hf h1 z).symm]
      exact RFs.none hn hf t e
theorem RFs.put (hn : G.nms.Nodup) {f : Nat} (hf : f < G.nms.length) {w : W} {v : V} (rv : RV K n r H w v) : ∀ {fs : List (Nat × W)} {l : List (Str × V)}, RFs K G n r H fs l → RFs K G n r H (putW f w fs) (putF (nmS G f) v l)
  | [], _, h => by rw [h.nil_iff]; exact .cons (p := (f, w)) hf rv .nil
  | p :: fs, _, h => by
    obtain ⟨u, l', rfl, h1, h2, t⟩ := h.cons_iff
    unfold putW putF
    by_cases q : p.1 = f
    · rw [beq_t q, if_pos (by rw [q])]
      show RFs K G n r H ((f, w) :: fs) _
      rw [q]
      exact .cons (p := (f, w)) hf rv t
    · rw [beq_f q, if_neg fun z => q (nmS_inj hn h1 hf z)]
      exact .cons h1 h2 (RFs.put hn hf rv t)
theorem RFs.length : ∀ {fs : List (Nat × W)} {l : List (Str × V)}, RFs K G n r H fs l → fs.length = l.length
  | [], _, h => by rw [h.nil_iff]; rfl
  | p :: fs, _, h => by
    obtain ⟨u, l', rfl, h1, h2, t⟩ := h.cons_iff
    simp [RFs.length t]
end

/-! ### defs that are ready -/
/-- where a def stands -/
def fA (K : PySem.W.Frag) (G : Sg) (k : Nat) : Addr := match G.fns[k]? with
  | some fd => He.fAd K fd.key
  | none => 0
def spF (K : PySem.W.Frag) (G : Sg) (ps : List Str) (m : List W → M W) : Sp := fun vs H Q E => vs.length = ps.length ∧ ∃ C r ws, Rep K G r C H ∧ RVs K C.next r H ws vs ∧ (m ws C).wp (Post K G (RelW K) (fun c d _ H => E c d H) [] C r H Q)
structure FnS (X : Cx) (G : Sg) (m : List W → M W) (L : Nat) (fd : Fd) (f : Addr) (dat : FuncData) : Prop where
  fn : FnOk X.prog X.w X.K X.mg X.base (L2.CX X.prog X.w) L f dat fd.ps (spF X.K G fd.ps m)
  pl : PlainP dat fd.ps
  df : ∃ dvs, DflV X.K dat.defaults dvs ∧ dvs.length ≤ fd.ps.length ∧ ∀ n r H, RVs X.K n r H fd.dfl dvs
  kp : PySem.W.keepIn X.K (.ref f) = true
  lt : f ≠ 0 ∨ True
theorem Post.wx {K : PySem.W.Frag} {G : Sg} {α β : Type} {RA : Rl α β} {Wx : WX} {σ : St} {C : Hc} {r : Nat → Addr} {H : Hp} {Q : β → Hp → Prop} : ∀ {x : XR α}, Post K G RA Wx σ C r H Q x → Post K G RA (fun c d _ H => WE Wx σ c d H) [] C r H Q x
  | .ok _ _, h => h
  | .exc _ _, h => h
/-- a def by its number -/
structure Fns (X : Cx) (G : Sg) (cf : Cf) (L : Nat) : Prop where
  at_ : ∀ k fd, G.fns[k]? = some fd → ∃ dat, FnS X G (cf k) L fd (fA X.K G k) dat
section
variable {X : Cx} {G : Sg} {cf : Cf} {L : Nat} {Wx : WX} {pins : List (Addr × Obj)} {σ : St} {H : Hp} {s : Shared} {C : Hc} {r : Nat → Addr} {Q : VK} {k : Nat} {ws : List W} {vs : List V} {us : List Value}
/-- the arguments of a positional call, bound -/
theorem call_pos (F : Fns X G cf L) (rv : RVs X.K C.next r H ws vs) (rs : Vals vs us) (h : (callK G cf k ws C).wp (Post X.K G (RelW X.K) Wx σ C r H Q)) (R : Rep X.K G r C H) :
    ∃ fd dat vs2 zs, FnOk X.prog X.w X.K X.mg X.base (L2.CX X.prog X.w) L (fA X.K G k) dat fd.ps (spF X.K G fd.ps (cf k)) ∧ (∀ s : Shared, X.K.In s.heap → BindsTo s dat ⟨us, []⟩ (fd.ps.zip zs)) ∧ Vals vs2 zs ∧ spF X.K G fd.ps (cf k) vs2 H Q (WE Wx σ) ∧ G.fns[k]? = some fd := by
  unfold callK at h
  cases e : G.fns[k]? with
  | none => rw [e] at h; exact h.elim
  | some fd =>
    rw [e] at h
    obtain ⟨dat, S⟩ := F.at_ k fd e
    obtain ⟨us', ef, h⟩ := wp_opt.mp h
    obtain ⟨dvs, hD, hl, hR⟩ := S.df
    have hdl : fd.dfl.length = dvs.length := (hR 0 r H).length
    unfold fill at ef
    cases hc : (Nat.ble ws.length fd.ps.length && Nat.ble (fd.ps.length - ws.length) fd.dfl.length) with
    | false => rw [hc] at ef; cases ef
    | true =>
      rw [hc] at ef
      cases ef
      rw [Bool.and_eq_true] at hc
      have h1 := Nat.le_of_ble_eq_true hc.1
      have h2 := Nat.le_of_ble_eq_true hc.2
      have hwl := rv.length
      have hvl := rs.length
      obtain ⟨ds, rd, hb⟩ := pos_binds S.pl hD hl ws.length h1 (by rw [← hdl]; exact h2)
      have r2 : Vals (vs ++ dvs.drop (dvs.length - (fd.ps.length - ws.length))) (us ++ ds) := rs.append rd
      have hlen : (vs ++ dvs.drop (dvs.length - (fd.ps.length - ws.length))).length = fd.ps.length := by
        rw [List.length_append, List.length_drop]
        omega
      refine ⟨fd, dat, _, _, S.fn, fun s X' => hb s us X' (by rw [← r2.length]; exact hlen), r2, ⟨hlen, C, r, _, R, rv.append ?_, Tr.wp_mono (fun _ z => Post.wx z) h⟩, rfl⟩
      rw [hdl]
      exact (hR _ _ _).drop _
theorem kfill_rel {α β : Type} {P : α → β → Prop} : ∀ {ks : List Str} {as : List α} {bs : List β} {l : List Str} {r : List α}, Paired P as bs → kfill (ks.zip as) l = some r → ∃ r', kfill (ks.zip bs) l = some r' ∧ Paired P r r' := by
  intro ks as bs l
  induction l with
  | nil => intro r _ h; cases h; exact ⟨[], rfl, .nil⟩
  | cons p l ih =>
    intro r hp h
    unfold kfill at h
    split at h
    · rename_i w hw
      cases q : kfill (ks.zip as) l with
      | none => rw [q] at h; cases h
      | some t =>
        rw [q] at h
        cases h
        obtain ⟨t', e, pt⟩ := ih hp q
        have look : ∃ w', lkS p (ks.zip bs) = some w' ∧ P w w' := by
          clear ih q e pt
          induction hp generalizing ks with
          | nil => simp [lkS] at hw
          | cons h1 h2 ih2 =>
            cases ks with
            | nil => simp [lkS] at hw
            | cons x ks =>
              rw [List.zip_cons_cons] at hw ⊢
              unfold lkS at hw ⊢
              by_cases z : x = p
              · rw [if_pos z] at hw ⊢
                cases hw
                exact ⟨_, rfl, h1⟩
              · rw [if_neg z] at hw ⊢
                exact ih2 hw
        obtain ⟨w', ew, pw⟩ := look
        refine ⟨w' :: t', ?_, .cons pw pt⟩
        unfold kfill
        rw [ew, e]
        rfl
    · cases h
theorem RVs.paired {K : PySem.W.Frag} {n : Nat} {r : Nat → Addr} {H : Hp} : ∀ {ws : List W} {vs : List V}, RVs K n r H ws vs → Paired (fun w v => RV K n r H w v) ws vs
  | [], _, h => by rw [h.nil_iff]; exact .nil
  | w :: ws, _, h => by
    obtain ⟨v, vs', rfl, q, t⟩ := h.cons_iff
    exact .cons q (RVs.paired t)
theorem RVs.of_paired {K : PySem.W.Frag} {n : Nat} {r : Nat → Addr} {H : Hp} : ∀ {ws : List W} {vs : List V}, Paired (fun w v => RV K n r H w v) ws vs → RVs K n r H ws vs
  | _, _, .nil => .nil
  | _, _, .cons h t => .cons h (RVs.of_paired t)
/-- .. of a call with keywords -/
theorem call_kw {ks : List Str} {us1 : List W} {vs1 : List V} {xs : List Value} (F : Fns X G cf L) (rv : RVs X.K C.next r H ws vs) (rs : Vals vs us) (rv1 : RVs X.K C.next r H us1 vs1) (rs1 : Vals vs1 xs) (h : (callKw G cf k ws ks us1 C).wp (Post X.K G (RelW X.K) Wx σ C r H Q)) (R : Rep X.K G r C H) :
    ∃ fd dat vs2 zs, FnOk X.prog X.w X.K X.mg X.base (L2.CX X.prog X.w) L (fA X.K G k) dat fd.ps (spF X.K G fd.ps (cf k)) ∧ (∀ s : Shared, X.K.In s.heap → BindsTo s dat ⟨us, ks.zip xs⟩ (fd.ps.zip zs)) ∧ Vals vs2 zs ∧ spF X.K G fd.ps (cf k) vs2 H Q (WE Wx σ) ∧ G.fns[k]? = some fd := by
  unfold callKw at h
  cases e : G.fns[k]? with
  | none => rw [e] at h; exact h.elim
  | some fd =>
    rw [e] at h
    obtain ⟨dat, S⟩ := F.at_ k fd e
    obtain ⟨hc, h⟩ := wp_chk.mp h
    obtain ⟨w2, ef, h⟩ := wp_opt.mp h
    obtain ⟨dvs, hD, hl, hR⟩ := S.df
    rw [Bool.and_eq_true, Bool.and_eq_true] at hc
    obtain ⟨⟨h1, h2⟩, h3⟩ := hc
    have h1 := Nat.le_of_ble_eq_true h1
    have h2 := Nat.eq_of_beq_eq_true h2
    have hwl := rv.length
    have hvl := rs.length
    have e1 := rv1.length
    have e2 := rs1.length
    obtain ⟨v2, ev, pv⟩ := kfill_rel rv1.paired ef
    obtain ⟨u2, eu, pu⟩ := kfill_rel (P := RelV) rs1 ev
    have hul : ws.length = us.length := by omega
    have hlk := kfill_len ef
    rw [List.length_drop] at hlk
    have hb := kw_binds (us := us) (ws := xs) S.pl hD hl (by omega) (by rw [← hul]; exact h3) (by omega) (by rw [← hul]; exact eu)
    have r2 : Vals (vs ++ v2) (us ++ u2) := rs.append pu
    refine ⟨fd, dat, _, _, S.fn, hb, r2, ⟨?_, C, r, _, R, rv.append (RVs.of_paired pv), Tr.wp_mono (fun _ z => Post.wx z) h⟩, rfl⟩
    have := (RVs.of_paired pv).length
    rw [List.length_append]
    omega
/-- the callee runs -/
theorem run_any {CX : CXT} {f : Addr} {fd : FuncData} {ps : List Str} {sp : Sp} {E : XK} {kw : List (Str × Value)} {zs : List Value} (F : FnOk X.prog X.w X.K X.mg X.base CX L f fd ps sp) (hr : Room L X.A) (hx : PassesAt CX X σ E) (hb : ∀ s : Shared, X.K.In s.heap → BindsTo s fd ⟨us, kw⟩ (ps.zip zs))
    (I : L2.Inv X pins σ H s) (rs : Vals vs zs) (h : sp vs H Q E) : wpAny (model X.prog X.w) X.A (call (.ref f) us kw) (EP X pins σ Q) X.xe s := by
  refine wpAny_call (codeAny_mono (F.run X.A X.stack s H ⟨us, kw⟩ zs vs Q E hr I.env0 (hb s I.kIn) rs h) fun r s' hq => ?_)
  cases r with
  | error e => exact hx pins H s e s' I hq
  | ok fl =>
    cases fl with
    | ret u => exact I.after hq
    | next => exact False.elim hq
    | brk => exact False.elim hq
    | cont => exact False.elim hq
/-- a new instance -/
theorem run_mk {CX : CXT} {Cl f : Addr} {fd : FuncData} {ps : List Str} {sp : Sp} {E : XK} {kw : List (Str × Value)} (M : Mk X.K Cl f) (F : FnOk X.prog X.w X.K X.mg X.base CX L f fd ps sp) (hr : Room (L + 1) X.A) (hx : PassesAt CX X σ E) (I : L2.Inv X pins σ H s)
    (h : ∀ x dx, H x = none → H dx = none → dx ≠ x → ∃ vs zs, Vals vs zs ∧ (∀ s : Shared, X.K.In s.heap → BindsTo s fd ⟨.ref x :: us, kw⟩ (ps.zip zs)) ∧ sp vs (upd (upd H dx (.own x)) x (.ins Cl dx [])) (fun v H2 => v = .non ∧ Q (.ref x) H2) E) :
    wpAny (model X.prog X.w) X.A (call (.ref Cl) us kw) (EP X pins σ Q) X.xe s := by
  obtain ⟨vs, zs, rs, hb, hq⟩ := h (s.heap.objs.size + 1) s.heap.objs.size (I.hok.fresh (Nat.le_succ _)) (I.hok.fresh (Nat.le_refl _)) (Nat.ne_of_lt (Nat.lt_succ_self _))
  have I2 := Inv.made (C := Cl) I
  refine wpAny_call (make_map (f := f) I.kIn M.makes M.init (beq_iff_eq.mp M.fn) (codeAny_mono (F.run _ X.stack _ _ ⟨Value.ref (s.heap.objs.size + 1) :: us, kw⟩ zs vs _ E (hr.make Cl us kw)
    (I2.env0.make Cl us kw) (hb _ I2.kIn) rs hq) fun r s' hq' => ?_))
  cases r with
  | error e => exact hx pins _ _ e s' I2 hq'
  | ok fl =>
    cases fl with
    | ret u =>
      obtain ⟨v, H', I3, rv, ev, q3⟩ := I2.after hq'
      subst ev
      exact ⟨rv, ⟨V.ref (s.heap.objs.size + 1), H', I3, rfl, q3⟩⟩
    | next => exact False.elim hq'
    | brk => exact False.elim hq'
    | cont => exact False.elim hq'
end
end BL
set_option Elab.async false
set_option linter.all false
set_option maxRecDepth 100000
set_option maxHeartbeats 1000000
/-! BL9: the context of a body; rules for calls, methods, fields, classes. -/
namespace BL
open PySem L2

def tyV0 (K : PySem.W.Frag) (G : Sg) : CT → Value
  | .ty t => .type t.nm
  | .cls c => .ref (cAd K G c)
/-- what is written of a plain class -/
structure ClsS (K : PySem.W.Frag) (mg : Str → Option Value) (G : Sg) (c : Nat) (d : Cd) : Prop where
  gl : mg d.name = some (.ref (cAd K G c))
  cl : Cls K (cAd K G c)
  mkr : ∀ fd, G.fns[d.init]? = some fd → Mk K (cAd K G c) (fA K G d.init)
  ha : PySem.W.findIn K (.ref (cAd K G c)) "__class__" = some (some (.builtin "object.__class__"))
  hm : PySem.W.mroIn K (cAd K G c) (.type "object") = some true
  na : ∀ i, i < G.nms.length → lk i d.mth = none → NoAttr K (cAd K G c) (nmS G i)
  mt : ∀ m k, lk m d.mth = some k → m < G.nms.length ∧ Meth K (cAd K G c) (nmS G m) (fA K G k)
  eq : ∀ fd, G.fns[d.eq]? = some fd → PySem.W.findIn K (.ref (cAd K G c)) "__eq__" = some (some (.ref (fA K G d.eq))) ∧ PySem.W.isFn K (.ref (fA K G d.eq)) = true ∧ PySem.W.findIn K (.ref (cAd K G c)) "__ne__" = some (some (.builtin "object.__ne__"))
  st : ∀ fd, G.fns[d.str]? = some fd → PySem.W.findIn K (.ref (cAd K G c)) "__str__" = some (some (.ref (fA K G d.str))) ∧ PySem.W.isFn K (.ref (fA K G d.str)) = true
/-- names that the text doesn't bind -/
def bltNames : List Str := ["len", "tuple", "list", "all", "any", "sum", "int", "str", "isinstance", "range", "enumerate", "zip", "bool", "super", "abs"]
structure Stat (K : PySem.W.Frag) (mg : Str → Option Value) (G : Sg) : Prop where
  nmd : G.nms.Nodup
  cls : ∀ c d, clsP G.cls c = some d → ClsS K mg G c d
  fn : ∀ k fd, G.fns[k]? = some fd → fd.key.2 = none → mg fd.key.1 = some (.ref (fA K G k))
  cst : ∀ (i : Nat) (p : Str × W), G.cst[i]? = some p → ∃ u v, mg p.1 = some u ∧ RelV v u ∧ ∀ n r H, RV K n r H p.2 v
  blt : ∀ x ∈ bltNames, mg x = none
  hn : PySem.W.specialIn K (.builtin "object.__class__") "__get__" = some (some (.builtin "getset_descriptor.__get__"))
  htk : PySem.W.takesIn K (.builtin "object.__class__") = some true
  isi : ∀ t c b, isTag G.cls t c = some b → PySem.W.kitOne K (tyV0 K G t) (tyV0 K G c) = some b
  clg : ∀ c d, G.cls[c]? = some d → mg d.name = some (.ref (cAd K G c))
  sub : ∀ c d, clsP G.cls c = some d → ∀ t, (match t with
    | .cls e => Nat.beq e c || isTag G.cls (.cls e) (.cls c) == some false
    | .ty _ => true) = true → PySem.W.notFirst K (cAd K G c) (tyV0 K G t) = true
/-- the context -/
structure Gd (X : Cx) (G : Sg) (cf : Cf) (L : Nat) (Wx : WX) : Prop where
  calm : X.calm = true
  nd : X.N.Nodup
  room : Room (L + 2) X.A
  tk : Takes X Wx
  fns : Fns X G cf L
  st : Stat X.K X.mg G

theorem Wx0 {X : Cx} {Wx : WX} (tk : Takes X Wx) : Takes X (fun _ _ _ _ => False) := tk.imp fun _ _ _ _ h => h.elim
theorem wp_nox {α β : Type} {C : Hc} {P : XR β → Prop} {m : M α} {f : α → M β} : ((m.nox).bind f C).wp P ↔ (m C).wp fun r => match r with
    | .ok a C1 => (f a C1).wp P
    | .exc _ _ => False := by
  rw [wp_bindM]
  unfold M.nox
  rw [Tr.wp_bind]
  constructor
  · intro h
    refine Tr.wp_mono (fun r hr => ?_) h
    cases r with
    | ok a C1 => exact hr
    | exc x C1 => exact hr
  · intro h
    refine Tr.wp_mono (fun r hr => ?_) h
    cases r with
    | ok a C1 => exact hr
    | exc x C1 => exact hr
/-- one more object that the logical heap doesn't know -/
theorem Rep.fresh {K : PySem.W.Frag} {G : Sg} {r : Nat → Addr} {C : Hc} {H : Hp} {p : Addr} {u : HO} (R : Rep K G r C H) (hp : H p = none) : Rep K G r C (upd H p u) ∧ Ext C C r r H (upd H p u) := by
  have tp : Imm H (upd H p u) := Imm.alloc hp
  refine ⟨⟨R.inj, fun i hi => ?_⟩, ⟨Nat.le_refl _, fun _ _ => rfl, fun a o e _ => ?_, fun i h1 h2 => absurd h2 (Nat.not_lt.mpr h1)⟩⟩
  · obtain ⟨o, e, q⟩ := R.obj i hi
    refine ⟨o, e, RO.mono (Nat.le_refl _) (fun _ _ => rfl) tp (upd_ne ?_) o q⟩
    intro z
    obtain ⟨u, e', _⟩ := R.at hi
    rw [z, hp] at e'; cases e'
  · rw [upd_ne (ne_of_none e hp)]; exact e
theorem Rep.ins {K : PySem.W.Frag} {G : Sg} {r : Nat → Addr} {C : Hc} {H : Hp} (R : Rep K G r C H) {a c : Nat} {v : V} {fs : List (Nat × W)} (ha : RV K C.next r H (.ref a) v) (e : C.get a = some (.ins c fs)) :
    ∃ dx l, v = .ref (r a) ∧ H (r a) = some (.ins (cAd K G c) dx l) ∧ RFs K G C.next r H fs l := by
  unfold RV at ha
  obtain ⟨o, e', h⟩ := R.obj a ha.1
  rw [e] at e'; cases e'
  obtain ⟨dx, l, q, f⟩ := h
  exact ⟨dx, l, ha.2, q, f⟩
def noStar : List Expr → Bool
  | [] => true
  | .Starred _ _ :: _ => false
  | _ :: r => noStar r
theorem star_cons {x : Expr} {xs : List Expr} {env : PySem.Env} (h : noStar (x :: xs) = true) : starEach (x :: xs) env = (false, eval x env) :: starEach xs env := by
  cases x <;> first
    | rfl
    | cases h
theorem noStar_tail {x : Expr} {xs : List Expr} (h : noStar (x :: xs) = true) : noStar xs = true := by
  cases x <;> first
    | exact h
    | cases h
theorem star_none {env : PySem.Env} {pos : Pos} : ∀ {xs : List Expr}, noStar xs = true → (backTo pos (starEach xs env)).any (·.1) = false
  | [], _ => rfl
  | x :: xs, h => by
    rw [star_cons h]
    show (false || (backTo pos (starEach xs env)).any (·.1)) = false
    rw [star_none (noStar_tail h)]
    rfl
theorem star_all {env : PySem.Env} {pos : Pos} : ∀ {xs : List Expr}, noStar xs = true → (backTo pos (starEach xs env)).all (fun x => !x.1) = true
  | [], _ => rfl
  | x :: xs, h => by
    rw [star_cons h]
    show (true && (backTo pos (starEach xs env)).all (fun x => !x.1)) = true
    rw [star_all (noStar_tail h)]
    rfl
section
variable {X : Cx} {G : Sg} {cf : Cf} {L : Nat} {Wx : WX} {pos p apos : Pos} {xs : List Expr} {g : Env → M (List W)}
/-- a call of a written thing with plain arguments -/
theorem callW {f : Addr} {first : List Value} {pins : List (Addr × Obj)} {σ : St} {H : Hp} {s : Shared} {Q : Value → Shared → Prop} {R : List V → Hp → Prop} (hk : PySem.W.keepIn X.K (.ref f) = true) (ha : PA X xs (tA' X G Wx g)) (g0 : xs = [] → ∀ v, g v = M.pure []) (ns : noStar xs = true) (I : L2.Inv X pins σ H s)
    (h : tA' X G Wx g σ H R) (hf : ∀ us vs s1 H1, L2.Inv X pins σ H1 s1 → Vals vs us → R vs H1 → wpAny (model X.prog X.w) X.A (call (.ref f) (first ++ us)) Q X.xe s1) :
    wpAny (model X.prog X.w) X.A (callWith pos (.ref f) first (backTo pos (starEach xs X.env)) (backToKw pos (keywordEach [] X.env))) Q X.xe s := by
  cases xs with
  | nil =>
    obtain ⟨C, r, v, Rp, E, hw⟩ := h
    rw [g0 rfl v] at hw
    have q : R [] H := Post.here (RA := RelL X.K) Rp .nil hw
    exact PySem.W.callWith_K0 I.kIn hk (hf [] [] s H I .nil q)
  | cons x xs =>
    exact PySem.W.callWith_K (h₀ := X.base) I.ok.mod.kin hk (thn (ha.run pos pins s σ H _ I h) fun us s1 ⟨vs, H1, I1, rs, q⟩ => ⟨I1.kIn, hf us vs s1 H1 I1 rs q⟩) (star_cons ns) (star_none (noStar_tail ns))
/-- f(e, ..) -/
theorem r_call {k : Nat} {x : Str} (D : Gd X G cf L Wx) {fd : Fd} (hk : G.fns[k]? = some fd) (hx : fd.key = (x, none)) (hg : Gl X x) (hd : (x == ("__debug__" : Str)) = false) (ha : PA X xs (tA' X G Wx g)) (g0 : xs = [] → ∀ v, g v = M.pure []) (ns : noStar xs = true) :
    PE X (.Call (.Name x p) xs [] pos) (tV X G Wx fun v => (g v).bind fun ws => callK G cf k ws) := by
  refine ⟨fun pins s σ H Q I h => ?_⟩
  obtain ⟨dat, S⟩ := D.fns.at_ k fd hk
  have hm : X.mg x = some (.ref (fA X.K G k)) := by
    have := D.st.fn k fd hk (by rw [hx])
    rw [hx] at this
    exact this
  refine wpAny_Call_Name_kw (ld_glob I hg hm ?_ hd)
  obtain ⟨C, r, v, R, E, hw⟩ := h
  refine callW (R := fun vs H1 => ∃ C1 r1 ws, Rep X.K G r1 C1 H1 ∧ RVs X.K C1.next r1 H1 ws vs ∧ (callK G cf k ws C1).wp (Post X.K G (RelW X.K) Wx σ C1 r1 H1 Q)) S.kp ha g0 ns I (tl_intro R E hw fun C1 r1 H1 a b R1 X1 ra q => ⟨C1, r1, a, R1, ra, q⟩) ?_
  rintro us vs s1 H1 I1 rs ⟨C1, r1, ws, R1, rv, q⟩
  obtain ⟨fd', dat', vs2, zs, F, hb, r2, hsp, _⟩ := call_pos D.fns rv rs q R1
  exact run_any F (D.room.mono (by omega)) (passAt D.tk σ) hb I1 r2 hsp
/-- C(e, ..): the making -/
theorem mk_step {c : Nat} {d : Cd} (D : Gd X G cf L Wx) (hc : clsP G.cls c = some d) {pins : List (Addr × Obj)} {σ : St} {H : Hp} {s : Shared} {Q : VK} {us : List Value} {kw : List (Str × Value)} {C : Hc} {r : Nat → Addr} {m : Nat → W → M W}
    (I : L2.Inv X pins σ H s) (R : Rep X.K G r C H) (h : (mkI G c m C).wp (Post X.K G (RelW X.K) Wx σ C r H Q)) {fd : Fd} (hfd : G.fns[d.init]? = some fd)
    (hcall : ∀ x C1 r1 H1 Q1, Rep X.K G r1 C1 H1 → Ext C C1 r r1 H H1 → RV X.K C1.next r1 H1 (.ref C.next) (.ref x) → (m d.init (.ref C.next) C1).wp (Post X.K G (RelW X.K) Wx σ C1 r1 H1 Q1) →
      ∃ dat vs zs, FnOk X.prog X.w X.K X.mg X.base (L2.CX X.prog X.w) L (fA X.K G d.init) dat fd.ps (spF X.K G fd.ps (cf d.init)) ∧ Vals vs zs ∧ (∀ s : Shared, X.K.In s.heap → BindsTo s dat ⟨.ref x :: us, kw⟩ (fd.ps.zip zs)) ∧ spF X.K G fd.ps (cf d.init) vs H1 Q1 (WE Wx σ)) :
    wpAny (model X.prog X.w) X.A (call (.ref (cAd X.K G c)) us kw) (EP X pins σ Q) X.xe s := by
  obtain ⟨dat, S⟩ := D.fns.at_ d.init fd hfd
  have key : ∀ x dx, H x = none → H dx = none → dx ≠ x → ∃ dat vs zs, FnOk X.prog X.w X.K X.mg X.base (L2.CX X.prog X.w) L (fA X.K G d.init) dat fd.ps (spF X.K G fd.ps (cf d.init)) ∧ Vals vs zs ∧ (∀ s : Shared, X.K.In s.heap → BindsTo s dat ⟨.ref x :: us, kw⟩ (fd.ps.zip zs)) ∧
      spF X.K G fd.ps (cf d.init) vs (upd (upd H dx (.own x)) x (.ins (cAd X.K G c) dx [])) (fun v H2 => v = .non ∧ Q (.ref x) H2) (WE Wx σ) := fun x dx hx hdx hne => by
    unfold mkI at h
    rw [hc] at h
    have h := wp_new.mp h
    obtain ⟨R0, X0⟩ := R.fresh (u := .own x) hdx
    have hx0 : upd H dx (.own x) x = none := by rw [upd_ne hne.symm]; exact hx
    obtain ⟨R1, X1⟩ := R0.alloc (ho := .ins (cAd X.K G c) dx []) (o := .ins c []) hx0 ⟨dx, [], upd_same, .nil⟩
    have X2 := X0.trans X1 R1.inj
    have rx : RV X.K (C.new (.ins c [])).next (at1 r C.next x) (upd (upd H dx (.own x)) x (.ins (cAd X.K G c) dx [])) (.ref C.next) (.ref x) := by
      unfold RV
      exact ⟨Nat.lt_succ_self _, by rw [at1_self]⟩
    refine hcall x _ _ _ _ R1 X2 rx (Tr.wp_mono (fun y hy => ?_) (wp_bindM.mp h))
    cases y with
    | exc y C3 => exact Post.shift X2 hy
    | ok a C3 =>
      intro r3 H3 b R3 X3 ra
      cases a <;> first
        | exact hy.elim
        | skip
      unfold RelW RV at ra
      refine ⟨ra, ?_⟩
      have hy : Post X.K G (RelW X.K) Wx σ C r H Q (.ok (.ref C.next) C3) := hy
      exact hy r3 H3 _ R3 (X2.trans X3 R3.inj) (rx.ext R1 X3)
  obtain ⟨x0, dx0, h1, h2, h3⟩ : ∃ x dx, H x = none ∧ H dx = none ∧ dx ≠ x := ⟨s.heap.objs.size + 1, s.heap.objs.size, I.hok.fresh (Nat.le_succ _), I.hok.fresh (Nat.le_refl _), Nat.ne_of_lt (Nat.lt_succ_self _)⟩
  have q := key (s.heap.objs.size + 1) s.heap.objs.size (I.hok.fresh (Nat.le_succ _)) (I.hok.fresh (Nat.le_refl _)) (Nat.ne_of_lt (Nat.lt_succ_self _))
  obtain ⟨dat', vs, zs, F, rs, hb, hsp⟩ := q
  have I2 := Inv.made (C := cAd X.K G c) I
  have M := (D.st.cls c d hc).mkr fd hfd
  refine wpAny_call (make_map (f := fA X.K G d.init) I.kIn M.makes M.init (beq_iff_eq.mp M.fn) (codeAny_mono (F.run _ X.stack _ _ ⟨Value.ref (s.heap.objs.size + 1) :: us, kw⟩ zs vs _ (WE Wx σ) ((D.room.mono (Nat.le_succ _)).make (cAd X.K G c) us kw)
    (I2.env0.make (cAd X.K G c) us kw) (hb _ I2.kIn) rs hsp) fun r s' hq' => ?_))
  cases r with
  | error e => exact passAt D.tk σ pins _ _ e s' I2 hq'
  | ok fl =>
    cases fl with
    | ret u =>
      obtain ⟨v, H', I3, rv, ev, q3⟩ := I2.after hq'
      subst ev
      exact ⟨rv, ⟨V.ref (s.heap.objs.size + 1), H', I3, rfl, q3⟩⟩
    | next => exact False.elim hq'
    | brk => exact False.elim hq'
    | cont => exact False.elim hq'
end
end BL
set_option Elab.async false
set_option linter.all false
set_option maxRecDepth 100000
set_option maxHeartbeats 1000000
/-! BL10: rules for calls (on). -/
namespace BL
open PySem L2
section
variable {X : Cx} {G : Sg} {cf : Cf} {L : Nat} {Wx : WX} {pos p apos : Pos} {xs : List Expr} {g : Env → M (List W)}
abbrev CallR' (X : Cx) (G : Sg) (cf : Cf) (Wx : WX) (σ : St) (Q : VK) (m : List W → M W) : List V → Hp → Prop := fun vs H1 => ∃ C1 r1 ws, Rep X.K G r1 C1 H1 ∧ RVs X.K C1.next r1 H1 ws vs ∧ (m ws C1).wp (Post X.K G (RelW X.K) Wx σ C1 r1 H1 Q)
/-- C(e, ..) -/
theorem r_mk {c : Nat} {x : Str} {d : Cd} {fd : Fd} (D : Gd X G cf L Wx) (hc : clsP G.cls c = some d) (hx : d.name = x) (hfd : G.fns[d.init]? = some fd) (hg : Gl X x) (hd : (x == ("__debug__" : Str)) = false) (ha : PA X xs (tA' X G Wx g)) (g0 : xs = [] → ∀ v, g v = M.pure []) (ns : noStar xs = true) :
    PE X (.Call (.Name x p) xs [] pos) (tV X G Wx fun v => (g v).bind fun ws => mkI G c fun k y => callK G cf k (y :: ws)) := by
  refine ⟨fun pins s σ H Q I h => ?_⟩
  have S := D.st.cls c d hc
  have hm : X.mg x = some (.ref (cAd X.K G c)) := by rw [← hx]; exact S.gl
  refine wpAny_Call_Name_kw (ld_glob I hg hm ?_ hd)
  obtain ⟨C, r, v, R, E, hw⟩ := h
  refine callW (R := CallR' X G cf Wx σ Q fun ws => mkI G c fun k y => callK G cf k (y :: ws)) (S.mkr fd hfd).kp ha g0 ns I (tl_intro R E hw fun C1 r1 H1 a b R1 X1 ra q => ⟨C1, r1, a, R1, ra, q⟩) ?_
  rintro us vs s1 H1 I1 rs ⟨C1, r1, ws, R1, rv, q⟩
  refine mk_step D hc I1 R1 q hfd fun y C2 r2 H2 Q2 R2 X2 ry hq => ?_
  obtain ⟨fd', dat, vs2, zs, F, hb, rz, hsp, e⟩ := call_pos (us := .ref y :: us) (vs := .ref y :: vs) D.fns (.cons ry (rv.ext R1 X2)) (.cons rfl rs) hq R2
  rw [hfd] at e
  cases e
  exact ⟨dat, vs2, zs, F, rz, hb, hsp⟩
/-- the values of keywords -/
theorem r_knil : PK X [] (tA' X G Wx fun _ => M.pure []) := by
  refine ⟨fun pos pins s σ H Q I hq => pk_nil.run pos pins s σ H Q I ?_⟩
  obtain ⟨C, r, v, R, E, hw⟩ := hq
  exact Post.here (RA := RelL X.K) R .nil hw
theorem r_kcons {x : Expr} {kws : List Keyword} {nm : Option Str} {kp : Pos} {f : Env → M W} {g : Env → M (List W)} (hx : PE X x (tV X G Wx f)) (hxs : PK X kws (tA' X G Wx g)) :
    PK X (⟨nm, x, kp⟩ :: kws) (tA' X G Wx fun v => (f v).bind fun a => (g v).bind fun ws => M.pure (a :: ws)) := by
  refine ⟨fun pos pins s σ H Q I hq => (pk_cons hx hxs).run pos pins s σ H Q I ?_⟩
  obtain ⟨C, r, v, R, E, hw⟩ := hq
  refine tl_intro R E hw fun C1 r1 H1 a b R1 X1 ra q => ?_
  refine tl_intro R1 (E.ext R X1) q fun C2 r2 H2 ws bs R2 X2 rbs q2 => ?_
  exact Post.here (RA := RelL X.K) R2 (.cons (ra.ext R1 X2) rbs) q2
/-- the keywords' names -/
def kwN : List Keyword → List Str → Bool
  | [], [] => true
  | ⟨some n, _, _⟩ :: r, k :: ks => decide (n = k) && kwN r ks
  | _, _ => false
theorem kwN_names {env : PySem.Env} : ∀ {kws : List Keyword} {ks : List Str}, kwN kws ks = true → (backToKw pos (keywordEach kws env)).filterMap (·.1) = ks ∧ (backToKw pos (keywordEach kws env)).all (·.1.isSome) = true ∧ (backToKw pos (keywordEach kws env)).any (·.1.isNone) = false
  | [], [], _ => ⟨rfl, rfl, rfl⟩
  | [], _ :: _, h => by cases h
  | ⟨some n, x, kp⟩ :: r, k :: ks, h => by
    unfold kwN at h
    rw [Bool.and_eq_true, decide_eq_true_eq] at h
    obtain ⟨rfl, h⟩ := h
    obtain ⟨e1, e2, e3⟩ := kwN_names (env := env) h
    refine ⟨?_, ?_, ?_⟩
    · show n :: (backToKw pos (keywordEach r env)).filterMap (·.1) = _
      rw [e1]
    · show (true && (backToKw pos (keywordEach r env)).all (·.1.isSome)) = true
      rw [e2]; rfl
    · show (false || (backToKw pos (keywordEach r env)).any (·.1.isNone)) = false
      rw [e3]; rfl
  | ⟨some n, x, kp⟩ :: r, [], h => by cases h
  | ⟨none, x, kp⟩ :: r, ks, h => by cases ks <;> cases h
/-- a call with keywords -/
theorem callKW {f : Addr} {ks : List Str} {kws : List Keyword} {gk : Env → M (List W)} {pins : List (Addr × Obj)} {σ : St} {H : Hp} {s : Shared} {Q : Value → Shared → Prop} {R : List V → List V → Hp → Prop} (hk : PySem.W.keepIn X.K (.ref f) = true) (ha : PA X xs (tA' X G Wx g)) (g0 : xs = [] → ∀ v, g v = M.pure [])
    (ns : noStar xs = true) (hkw : PK X kws (tA' X G Wx gk)) (hn : kwN kws ks = true) (I : L2.Inv X pins σ H s)
    (h : tA' X G Wx g σ H fun vs H1 => tA' X G Wx gk σ H1 fun zs H2 => R vs zs H2) (hf : ∀ us vs ws zs s1 H1, L2.Inv X pins σ H1 s1 → Vals vs us → Vals zs ws → R vs zs H1 → wpAny (model X.prog X.w) X.A (call (.ref f) us (ks.zip ws)) Q X.xe s1) :
    wpAny (model X.prog X.w) X.A (callWith pos (.ref f) [] (backTo pos (starEach xs X.env)) (backToKw pos (keywordEach kws X.env))) Q X.xe s := by
  obtain ⟨e1, e2, e3⟩ := kwN_names (pos := pos) (env := X.env) hn
  cases xs with
  | nil =>
    obtain ⟨C, r, v, Rp, E, hw⟩ := h
    rw [g0 rfl v] at hw
    have q : tA' X G Wx gk σ H fun zs H2 => R [] zs H2 := Post.here (RA := RelL X.K) Rp .nil hw
    refine PySem.W.callWith_KW0 (h₀ := X.base) I.ok.mod.kin hk e2 (thn (hkw.run pos pins s σ H _ I q) fun ws s2 ⟨zs, H2, I2, rz, q2⟩ => ⟨I2.kIn, ?_⟩) (by rw [e3]; rfl)
    rw [e1]
    exact hf [] [] ws zs s2 H2 I2 .nil rz q2
  | cons x xs =>
    refine PySem.W.callWith_KW (h₀ := X.base) I.ok.mod.kin hk e2 (thn (ha.run pos pins s σ H _ I h) fun us s1 ⟨vs, H1, I1, rs, q⟩ => thn (hkw.run pos pins s1 σ H1 _ I1 q) fun ws s2 ⟨zs, H2, I2, rz, q2⟩ => ⟨I2.kIn, ?_⟩) (by rw [star_none ns, e3]; rfl) (star_cons ns)
    rw [e1]
    exact hf us vs ws zs s2 H2 I2 rs rz q2
/-- f(e, .., k = e, ..) -/
theorem r_callk {k : Nat} {x : Str} {ks : List Str} {kws : List Keyword} {gk : Env → M (List W)} (D : Gd X G cf L Wx) {fd : Fd} (hk : G.fns[k]? = some fd) (hx : fd.key = (x, none)) (hg : Gl X x) (hd : (x == ("__debug__" : Str)) = false) (ha : PA X xs (tA' X G Wx g)) (g0 : xs = [] → ∀ v, g v = M.pure []) (ns : noStar xs = true)
    (hkw : PK X kws (tA' X G Wx gk)) (hn : kwN kws ks = true) :
    PE X (.Call (.Name x p) xs kws pos) (tV X G Wx fun v => (g v).bind fun ws => (gk v).bind fun us => callKw G cf k ws ks us) := by
  refine ⟨fun pins s σ H Q I h => ?_⟩
  obtain ⟨dat, S⟩ := D.fns.at_ k fd hk
  have hm : X.mg x = some (.ref (fA X.K G k)) := by
    have := D.st.fn k fd hk (by rw [hx])
    rw [hx] at this
    exact this
  refine wpAny_Call_Name_kw (ld_glob I hg hm ?_ hd)
  obtain ⟨C, r, v, R, E, hw⟩ := h
  refine callKW (R := fun vs zs H1 => ∃ C1 r1 ws us, Rep X.K G r1 C1 H1 ∧ RVs X.K C1.next r1 H1 ws vs ∧ RVs X.K C1.next r1 H1 us zs ∧ (callKw G cf k ws ks us C1).wp (Post X.K G (RelW X.K) Wx σ C1 r1 H1 Q)) S.kp ha g0 ns hkw hn I
    (tl_intro R E hw fun C1 r1 H1 a b R1 X1 ra q => tl_intro R1 (E.ext R X1) q fun C2 r2 H2 a2 b2 R2 X2 ra2 q2 => ⟨C2, r2, a, a2, R2, ra.ext R1 X2, ra2, q2⟩) ?_
  rintro us vs ws zs s1 H1 I1 rs rz ⟨C1, r1, a, a2, R1, rv, rv2, q⟩
  obtain ⟨fd', dat', vs2, z2, F, hb, r2, hsp, _⟩ := call_kw D.fns rv rs rv2 rz q R1
  exact run_any F (D.room.mono (by omega)) (passAt D.tk σ) hb I1 r2 hsp
/-- C(e, .., k = e, ..) -/
theorem r_mkk {c : Nat} {x : Str} {d : Cd} {fd : Fd} {ks : List Str} {kws : List Keyword} {gk : Env → M (List W)} (D : Gd X G cf L Wx) (hc : clsP G.cls c = some d) (hx : d.name = x) (hfd : G.fns[d.init]? = some fd) (hg : Gl X x) (hd : (x == ("__debug__" : Str)) = false) (ha : PA X xs (tA' X G Wx g)) (g0 : xs = [] → ∀ v, g v = M.pure [])
    (ns : noStar xs = true) (hkw : PK X kws (tA' X G Wx gk)) (hn : kwN kws ks = true) :
    PE X (.Call (.Name x p) xs kws pos) (tV X G Wx fun v => (g v).bind fun ws => (gk v).bind fun us => mkI G c fun k y => callKw G cf k (y :: ws) ks us) := by
  refine ⟨fun pins s σ H Q I h => ?_⟩
  have S := D.st.cls c d hc
  have hm : X.mg x = some (.ref (cAd X.K G c)) := by rw [← hx]; exact S.gl
  refine wpAny_Call_Name_kw (ld_glob I hg hm ?_ hd)
  obtain ⟨C, r, v, R, E, hw⟩ := h
  refine callKW (R := fun vs zs H1 => ∃ C1 r1 ws us, Rep X.K G r1 C1 H1 ∧ RVs X.K C1.next r1 H1 ws vs ∧ RVs X.K C1.next r1 H1 us zs ∧ (mkI G c (fun k y => callKw G cf k (y :: ws) ks us) C1).wp (Post X.K G (RelW X.K) Wx σ C1 r1 H1 Q)) (S.mkr fd hfd).kp ha g0 ns hkw hn I
    (tl_intro R E hw fun C1 r1 H1 a b R1 X1 ra q => tl_intro R1 (E.ext R X1) q fun C2 r2 H2 a2 b2 R2 X2 ra2 q2 => ⟨C2, r2, a, a2, R2, ra.ext R1 X2, ra2, q2⟩) ?_
  rintro us vs ws zs s1 H1 I1 rs rz ⟨C1, r1, a, a2, R1, rv, rv2, q⟩
  refine mk_step D hc I1 R1 q hfd fun y C2 r2 H2 Q2 R2 X2 ry hq => ?_
  obtain ⟨fd', dat, vs2, z2, F, hb, r3, hsp, e⟩ := call_kw (us := .ref y :: us) (vs := .ref y :: vs) D.fns (.cons ry (rv.ext R1 X2)) (.cons rfl rs) (rv2.ext R1 X2) rz hq R2
  rw [hfd] at e
  cases e
  exact ⟨dat, vs2, z2, F, r3, hb, hsp⟩
/-! ### attributes, methods -/
/-- no super() -/
def abOk : Expr → Bool
  | .Call (.Name _ _) [] [] _ => false
  | _ => true
theorem abOk_eq {o : Expr} {a : Str} {env : PySem.Env} {wh : Sem Value} (h : abOk o = true) : attributeBase o a env wh = wh := by
  unfold attributeBase
  split
  · cases h
  · rfl
theorem fldOk_of {D : Gd X G cf L Wx} {c f : Nat} (h : fldOk G c f = true) : f < G.nms.length ∧ ∃ d, clsP G.cls c = some d ∧ lk f d.mth = none := by
  unfold fldOk at h
  rw [Bool.and_eq_true] at h
  refine ⟨Nat.le_of_ble_eq_true (show Nat.ble (f + 1) G.nms.length = true from h.1), ?_⟩
  have h2 := h.2
  split at h2
  · rename_i d hd
    refine ⟨d, hd, ?_⟩
    split at h2
    · assumption
    · cases h2
  · cases h2
theorem r_att {x : Expr} {f : Nat} {h : Env → M W} (D : Gd X G cf L Wx) (hx : PE X x (tV X G Wx h)) (hb : abOk x = true) : PE X (.Attribute x (nmS G f) pos) (tV X G Wx fun v => (h v).bind fun a => attW G a f) := by
  refine (pe_fld hx (abOk_eq hb)).imp fun σ H Q hq => ?_
  obtain ⟨C, r, v, R, E, hw⟩ := hq
  refine tl_intro R E hw fun C1 r1 H1 a b R1 X1 ra q => ?_
  unfold attW at q
  split at q
  · obtain ⟨o, e0, q⟩ := wp_get.mp q
    split at q
    · obtain ⟨hc, q⟩ := wp_chk.mp q
      obtain ⟨w, ew, q⟩ := wp_opt'.mp q
      obtain ⟨hlt, d, hd, hmt⟩ := fldOk_of (D := D) hc
      have S := D.st.cls _ d hd
      obtain ⟨dx, l, rfl, hH, rf⟩ := R1.ins ra e0
      obtain ⟨z, e1, rz⟩ := rf.get D.st.nmd hlt ew
      exact ⟨_, _, dx, l, z, rfl, hH, S.cl, S.na f hlt hmt, e1, Post.here (RA := RelW X.K) R1 rz q⟩
    · exact q.elim
  · exact q.elim
theorem meth_form {o : Expr} {name : Str} (ns : noStar xs = true) (hb : abOk o = true) (hfew : Nat.blt xs.length 29 = true) (hline : (apos.endLine == pos.line) = true) :
    eval (.Call (.Attribute o name apos) xs [] pos) X.env = (do
      let ov ← eval o X.env
      standAt apos.atName
      let (f, first) ← holding [ov] (getMethod ov name (do return (← importBound o X.env).getD true))
      callWith pos f first (backTo pos (starEach xs X.env)) (backToKw pos (keywordEach [] X.env))) := by
  have hf : methodCallForm xs.length (backTo pos (starEach xs X.env)) [] = true := by
    unfold methodCallForm
    rw [star_all ns]
    have : xs.length < 29 := Nat.le_of_ble_eq_true (show Nat.ble (xs.length + 1) 29 = true from hfew)
    simp
    omega
  rw [eval_meth hf hline, abOk_eq hb]
  rfl
/-- o.m(e, ..) -/
theorem r_meth {o : Expr} {m : Nat} {h : Env → M W} (D : Gd X G cf L Wx) (ho : PE X o (tV X G Wx h)) (hb : abOk o = true) (ha : PA X xs (tA' X G Wx g)) (g0 : xs = [] → ∀ v, g v = M.pure []) (ns : noStar xs = true) (hfew : Nat.blt xs.length 29 = true) (hline : (apos.endLine == pos.line) = true) :
    PE X (.Call (.Attribute o (nmS G m) apos) xs [] pos) (tV X G Wx fun v => (h v).bind fun x => (metO G x m).bind fun k => (g v).bind fun ws => callK G cf k (x :: ws)) := by
  refine ⟨fun pins s σ H Q I hq => ?_⟩
  obtain ⟨C, r, v, R, E, hw⟩ := hq
  refine PySem.W.methodCall_KW (pl := (do return (← importBound o X.env).getD true)) (thn (ho.run pins s σ H (fun y H1 => ∃ C1 r1 x, Rep X.K G r1 C1 H1 ∧ Ext C C1 r r1 H H1 ∧ RV X.K C1.next r1 H1 x y ∧ (((metO G x m).bind fun k => (g v).bind fun ws => callK G cf k (x :: ws)) C1).wp (Post X.K G (RelW X.K) Wx σ C1 r1 H1 Q)) I
    (tl_intro R E hw fun C1 r1 H1 a b R1 X1 ra q => ⟨C1, r1, a, R1, X1, ra, q⟩)) fun u s1 ⟨y, H1, I1, ry, C1, r1, x, R1, X1, rx, q⟩ => ?_) (meth_form ns hb hfew hline)
  unfold metO at q
  split at q
  · obtain ⟨ob, e0, q⟩ := wp_get.mp (wp_bindM.mp q)
    split at q
    · rename_i c fs
      cases e1 : lk m fs with
      | some w => rw [e1] at q; exact q.elim
      | none =>
        rw [e1] at q
        cases e2 : clsP G.cls c with
        | none => rw [e2] at q; exact q.elim
        | some d =>
          rw [e2] at q
          cases e3 : lk m d.mth with
          | none => rw [show ((some d).bind fun d => lk m d.mth) = none from e3] at q; exact q.elim
          | some k =>
            rw [show ((some d).bind fun d => lk m d.mth) = some k from e3] at q
            have q : (((g v).bind fun ws => callK G cf k (.ref _ :: ws)) C1).wp (Post X.K G (RelW X.K) Wx σ C1 r1 H1 Q) := q
            have S := D.st.cls c d e2
            obtain ⟨hlt, hM⟩ := S.mt m k e3
            obtain ⟨dx, l, rfl, hH, rf⟩ := R1.ins rx e0
            obtain rfl : u = Value.ref (r1 _) := ry
            refine getmeth_ok I1 hH S.cl hM (rf.none D.st.nmd hlt e1) ?_
            refine callW (R := fun vs H2 => ∃ C2 r2 ws, Rep X.K G r2 C2 H2 ∧ RVs X.K C2.next r2 H2 ws (.ref (r1 _) :: vs) ∧ (callK G cf k ws C2).wp (Post X.K G (RelW X.K) Wx σ C2 r2 H2 Q)) hM.kp ha g0 ns I1
              (tl_intro R1 (E.ext R X1) q fun C2 r2 H2 a b R2 X2 ra q2 => ⟨C2, r2, _, R2, .cons (rx.ext R1 X2) ra, q2⟩) ?_
            rintro us vs s2 H2 I2 rs ⟨C2, r2, ws, R2, rv, q2⟩
            obtain ⟨fd', dat', vs2, zs, F, hbd, rz, hsp, _⟩ := call_pos D.fns rv (.cons rfl rs) q2 R2
            exact run_any F (D.room.mono (by omega)) (passAt D.tk σ) hbd I2 rz hsp
    · exact q.elim
  · exact q.elim
end
end BL
set_option Elab.async false
set_option linter.all false
set_option maxRecDepth 100000
set_option maxHeartbeats 1000000
/-! BL11: == and != of own instances, isinstance, str, built-in calls and methods, and, or. -/
namespace BL
open PySem L2
section
variable {X : Cx} {G : Sg} {cf : Cf} {L : Nat} {Wx : WX} {pos p apos : Pos} {xs : List Expr} {g : Env → M (List W)} {pins : List (Addr × Obj)} {σ : St} {H : Hp} {s : Shared}
/-- a thing's type -/
theorem tag_ty (S : Stat X.K X.mg G) {C : Hc} {r : Nat → Addr} {w : W} {y : V} {t : CT} (R : Rep X.K G r C H) (ry : RV X.K C.next r H w y) (e : tagW G.cls C w = some t) : TyX X.K H y (tyV0 X.K G t) := by
  unfold tagW at e
  split at e
  · unfold RV at ry; subst ry; cases e; exact .base .non
  · unfold RV at ry; subst ry; cases e; exact .base (.bl _)
  · unfold RV at ry; subst ry; cases e; exact .base (.int _)
  · unfold RV at ry; subst ry; cases e; exact .base (.str _)
  · unfold RV at ry
    obtain ⟨a, vs, rfl, q, _⟩ := ry
    cases e
    rcases q with (q | ⟨o, q⟩) | q
    · exact .base (.tup q)
    · exact .fTuple q
    · obtain ⟨o, its, _, q1, q2, _⟩ := q
      exact .kTuple q1 q2
  · split at e
    · rename_i a ws e1
      obtain ⟨vs, rfl, hX, l⟩ := R.lst ry e1
      cases e
      exact .base (.lst hX)
    · rename_i a d fs e1
      obtain ⟨dx, l, rfl, hH, rf⟩ := R.ins ry e1
      cases e2 : clsP G.cls d with
      | none => rw [e2] at e; cases e
      | some dd =>
        rw [e2] at e
        cases e
        have q := S.cls d dd e2
        exact .base (.ins hH q.cl q.ha S.hn S.htk q.hm)
    · cases e
  · cases e
/-- an own def under a deeper place -/
theorem run_in {CX : CXT} {A : Around} {f : Addr} {fd : FuncData} {ps : List Str} {sp : Sp} {E : XK} {us zs : List Value} {vs : List V} {Q : VK} (F : FnOk X.prog X.w X.K X.mg X.base CX L f fd ps sp) (hr : Room L A) (hA : A.frames = X.A.frames) (hx : PassesAt CX X σ E)
    (hb : ∀ s : Shared, X.K.In s.heap → BindsTo s fd ⟨us, []⟩ (ps.zip zs)) (I : L2.Inv X pins σ H s) (rs : Vals vs zs) (h : sp vs H Q E) : wpAny (model X.prog X.w) A (call (.ref f) us) (EP X pins σ Q) X.xe s := by
  have e0 : Env0 X.prog X.w X.K X.mg X.base A X.stack s H := by
    have e := I.env0
    exact ⟨by rw [hA]; exact e.frames, e.mod, e.bs, e.bsz, e.funs, e.frf, e.hok, e.bare⟩
  refine wpAny_call (codeAny_mono (F.run A X.stack s H ⟨us, []⟩ zs vs Q E hr e0 (hb s I.kIn) rs h) fun r s' hq => ?_)
  cases r with
  | error e => exact hx pins H s e s' I hq
  | ok fl =>
    cases fl with
    | ret u => exact I.after hq
    | next => exact False.elim hq
    | brk => exact False.elim hq
    | cont => exact False.elim hq
theorem notSub_ok (S : Stat X.K X.mg G) {C : Hc} {c : Nat} {w : W} {β : Type} {f : Unit → M β} {P : XR β → Prop} {d : Cd} (hc : clsP G.cls c = some d) (h : ((notSub G c w).bind f C).wp P) :
    ∃ t, tagW G.cls C w = some t ∧ PySem.W.notFirst X.K (cAd X.K G c) (tyV0 X.K G t) = true ∧ (f () C).wp P := by
  have h := wp_bindM.mp h
  unfold notSub at h
  cases e : tagW G.cls C w with
  | none => rw [e] at h; exact h.elim
  | some t =>
    rw [e] at h
    cases t with
    | ty n => exact ⟨_, rfl, S.sub c d hc (.ty n) rfl, h⟩
    | cls k =>
      cases q : (Nat.beq k c || isTag G.cls (.cls k) (.cls c) == some false) with
      | false =>
        simp only [q] at h
        exact h.elim
      | true =>
        simp only [q] at h
        exact ⟨_, rfl, S.sub c d hc (.cls k) q, h⟩
/-- own == in a few words: what is called, and what comes back -/
theorem own_eq (D : Gd X G cf L Wx) {C : Hc} {r : Nat → Addr} {a c : Nat} {fs : List (Nat × W)} {w : W} {x y : V} {Q : Bool → Hp → Prop} {Wx' : WX} (R : Rep X.K G r C H) (rx : RV X.K C.next r H (.ref a) x) (ry : RV X.K C.next r H w y) (e0 : C.get a = some (.ins c fs)) {σ' : St}
    (h : ((match clsP G.cls c with
      | some d => (notSub G c w).bind fun _ => ((callK G cf d.eq [.ref a, w]).nox).bind truW
      | none => M.no : M Bool) C).wp (Post X.K G RelB Wx' σ' C r H Q)) {v u : Value} (I : L2.Inv X pins σ H s) (rv : RelV x v) (ru : RelV y u) :
    ∃ d fd t, clsP G.cls c = some d ∧ G.fns[d.eq]? = some fd ∧ (∃ dx l, v = .ref (r a) ∧ H (r a) = some (.ins (cAd X.K G c) dx l)) ∧ PySem.W.notFirst X.K (cAd X.K G c) (tyV0 X.K G t) = true ∧ PySem.W.Looks (model X.prog X.w) s.heap (typeOf u) (tyV0 X.K G t) ∧
      ∀ A : Around, Room L A → A.frames = X.A.frames → wpAny (model X.prog X.w) A (call (.ref (fA X.K G d.eq)) [v, u]) (EP X pins σ fun z H' => ∃ k, z = .bl k ∧ Q k H') X.xe s := by
  cases hc : clsP G.cls c with
  | none =>
    rw [hc] at h
    exact h.elim
  | some d =>
    rw [hc] at h
    obtain ⟨t, et, hn, h⟩ := notSub_ok D.st hc h
    have h := wp_nox.mp h
    obtain ⟨dx, l, rfl, hH, _⟩ := R.ins rx e0
    obtain ⟨P, Z, pz, _⟩ := kit_of I ru (tag_ty D.st R ry et)
    have h2 : (callK G cf d.eq [.ref a, w] C).wp (Post X.K G (RelW X.K) (fun _ _ _ _ => False) σ C r H fun z H' => ∃ k, z = .bl k ∧ Q k H') := by
      refine Tr.wp_mono (fun q hq => ?_) h
      cases q with
      | exc _ _ => exact hq.elim
      | ok b C1 =>
        intro r1 H1 z R1 X1 rz
        exact tru_here R1 rz (Tr.wp_mono (fun _ h => Post.shift X1 h) hq)
    obtain ⟨fd, dat, vs2, zs, F, hb, rz, hsp, efd⟩ := call_pos D.fns (.cons rx (.cons ry .nil)) (.cons rv (.cons ru .nil)) h2 R
    refine ⟨d, fd, t, rfl, efd, ⟨dx, l, rv, hH⟩, hn, Z.ty _ _ I.kIn pz, fun A hA hfr => ?_⟩
    exact run_in F hA hfr (passAt (Wx0 D.tk) σ) hb I rz hsp
theorem eqW_ok (D : Gd X G cf L Wx) : OpR X (compareOp .Eq) (Ok2B X.K G (eqW G cf)) := by
  intro pins s σ H x y v u Q I rx ry h
  obtain ⟨C, r, a, b, Wx', σ', R, ra, rb, hw⟩ := h
  have dat : (eqD a b C).wp (Post X.K G RelB Wx' σ' C r H fun k H' => Q (.bl k) H') → wpAny (model X.prog X.w) X.A (compareOp .Eq v u) (EP X pins σ Q) X.xe s := fun hw =>
    eqD_ok (G := G) D.room.units pins s σ H x y v u Q I rx ry ⟨C, r, a, b, Wx', σ', R, ra, rb, hw⟩
  unfold eqW at hw
  split at hw
  · rename_i a
    obtain ⟨o, e0, hw⟩ := wp_get.mp hw
    split at hw
    · rename_i c fs
      obtain ⟨d, fd, t, hc, hfd, ⟨dx, l, rfl, hH⟩, hn, hty, hcall⟩ := own_eq D R ra rb e0 hw I rx ry
      obtain ⟨mA, J, _⟩ := ins_get I.hok hH
      obtain ⟨od, J, _⟩ := J.look
      obtain ⟨m, hF⟩ := I.fr
      obtain ⟨h1, h2, h3⟩ := (D.st.cls c d hc).eq fd hfd
      show wpAny _ _ (richCompare .Eq _ _) _ _ _
      refine PySem.W.cmp_K (op := .Eq) D.room.units0 hF I.ok.mod.kin J hty hn h1 h2 ?_
      refine wpAny_mono (hcall X.A (D.room.mono (by omega)) rfl) (fun w s' z => ?_) fun _ _ x => x
      obtain ⟨z', H', I', rz, k, rfl, qz⟩ := z
      cases rz
      exact ⟨.bl k, H', I', rfl, qz⟩
    · exact dat hw
  · exact dat hw
theorem neW_ok (D : Gd X G cf L Wx) : OpR X (compareOp .NotEq) (Ok2B X.K G fun x y => (eqW G cf x y).bind fun b => M.pure (!b)) := by
  intro pins s σ H x y v u Q I rx ry h
  obtain ⟨C, r, a, b, Wx', σ', R, ra, rb, hw⟩ := h
  have dat : (((eqD a b).bind fun b => M.pure (!b)) C).wp (Post X.K G RelB Wx' σ' C r H fun k H' => Q (.bl k) H') → wpAny (model X.prog X.w) X.A (compareOp .NotEq v u) (EP X pins σ Q) X.xe s := fun hw =>
    neD_ok (G := G) D.room.units pins s σ H x y v u Q I rx ry ⟨C, r, a, b, Wx', σ', R, ra, rb, hw⟩
  dsimp only at hw
  unfold eqW at hw
  split at hw
  · rename_i a
    have hw := wp_bindM.mp hw
    obtain ⟨o, e0, hw⟩ := wp_get.mp hw
    split at hw
    · rename_i c fs
      have hw2 : ((match clsP G.cls c with
        | some d => (notSub G c b).bind fun _ => ((callK G cf d.eq [.ref a, b]).nox).bind truW
        | none => M.no : M Bool) C).wp (Post X.K G RelB Wx' σ' C r H fun k H' => Q (.bl (!k)) H') := by
        refine Tr.wp_mono (fun q hq => ?_) hw
        cases q with
        | exc _ _ => exact hq
        | ok k C1 =>
          intro r1 H1 k' R1 X1 e
          cases (show k = k' from e)
          exact hq r1 H1 (!k) R1 X1 rfl
      obtain ⟨d, fd, t, hc, hfd, ⟨dx, l, rfl, hH⟩, hn, hty, hcall⟩ := own_eq D R ra rb e0 hw2 I rx ry
      obtain ⟨mA, J, _⟩ := ins_get I.hok hH
      obtain ⟨od, J, _⟩ := J.look
      obtain ⟨h1, h2, h3⟩ := (D.st.cls c d hc).eq fd hfd
      have hu : X.A.units + 1 < cLine := by have := D.room.un; omega
      refine ne_K hu I.kIn J hty hn h3 h1 h2 (D.st.cls c d hc).hm ?_
      refine wpAny_mono (hcall X.A.in1 ((D.room.mono (Nat.le_succ _)).in1) rfl) (fun w s' z => ?_) fun _ _ x => x
      obtain ⟨z', H', I', rz, k, rfl, qz⟩ := z
      cases rz
      exact ⟨k, rfl, .bl (!k), H', I', rfl, qz⟩
    · exact dat (wp_bindM.mpr hw)
  · exact dat hw
theorem cmpW_ok (D : Gd X G cf L Wx) (op : CmpOp) : OpR X (compareOp op) (Ok2B X.K G (cmpW G cf op)) := by
  cases op with
  | Eq => exact eqW_ok D
  | NotEq => exact neW_ok D
  | Lt => exact ltW_ok
  | LtE => exact leW_ok
  | Gt => exact gtW_ok
  | GtE => exact geW_ok
  | In => exact inW_ok
  | NotIn => exact notInW_ok
  | Is => intro pins s σ H x y v u Q I rx ry h; obtain ⟨C, r, a, b, Wx', σ', R, ra, rb, hw⟩ := h; exact hw.elim
  | IsNot => intro pins s σ H x y v u Q I rx ry h; obtain ⟨C, r, a, b, Wx', σ', R, ra, rb, hw⟩ := h; exact hw.elim
/-! ### str(o), built-in calls -/
theorem str_ok (D : Gd X G cf L Wx) : CallR X (.type "str") (OkN X.K G fun ws => match ws with
    | [x] => strW G cf x
    | _ => M.no) := by
  intro pins s σ H xs us Q I rs h
  obtain ⟨C, r, ws, Wx', σ', R, rw', hw⟩ := h
  dsimp only at hw
  split at hw <;> first
    | exact hw.elim
    | skip
  obtain ⟨v, rfl, q⟩ := rw'.one
  unfold strW at hw
  split at hw
  · unfold RV at q
    subst q
    exact SkE.call_str_str pins s σ H _ us Q I rs ⟨_, rfl, Post.here (RA := RelW X.K) R (by unfold RelW RV; rfl) hw⟩
  · rename_i a
    obtain ⟨o, e0, hw⟩ := wp_get.mp hw
    split at hw
    · rename_i c fs
      cases hc : clsP G.cls c with
      | none => rw [hc] at hw; exact hw.elim
      | some d =>
        rw [hc] at hw
        have hw := wp_nox.mp hw
        have hw2 : (callK G cf d.str [.ref a] C).wp (Post X.K G (RelW X.K) (fun _ _ _ _ => False) σ C r H fun z H' => ∃ k, z = .str k ∧ Q (.str k) H') := by
          refine Tr.wp_mono (fun q hq => ?_) hw
          cases q with
          | exc _ _ => exact hq.elim
          | ok b C1 =>
            intro r1 H1 z R1 X1 rz
            cases b <;> first
              | exact hq.elim
              | skip
            unfold RelW RV at rz
            refine ⟨_, rz, ?_⟩
            exact hq r1 H1 _ R1 X1 (by unfold RelW RV; rfl)
        obtain ⟨u, rfl, ru⟩ := rs.one
        obtain ⟨fd, dat, vs2, zs, F, hb, rz, hsp, efd⟩ := call_pos D.fns (.cons q .nil) rs hw2 R
        obtain ⟨dx, l, rfl, hH, _⟩ := R.ins q e0
        obtain rfl : u = Value.ref (r a) := ru
        obtain ⟨mA, J, _⟩ := ins_get I.hok hH
        obtain ⟨od, J, _⟩ := J.look
        obtain ⟨h1, h2⟩ := (D.st.cls c d hc).st fd efd
        have hu : X.A.in1.in1.units < cLine := by have := D.room.un; show X.A.units + 1 + 1 < cLine; omega
        refine PySem.W.kso_call hu I.kIn J h1 h2 ?_
        refine wpAny_mono (run_in F D.room.in1.in1 rfl (passAt (Wx0 D.tk) σ) hb I rz hsp) (fun w s' z => ?_) fun _ _ x => x
        obtain ⟨z', H', I', rz, k, rfl, qz⟩ := z
        obtain ⟨tk, rfl⟩ := rz
        exact ⟨.str k, H', I', ⟨tk, rfl⟩, qz⟩
    · exact hw.elim
  · exact hw.elim
end
end BL
set_option Elab.async false
set_option linter.all false
set_option maxRecDepth 100000
set_option maxHeartbeats 1000000
/-! BL12: what is walked. -/
namespace BL
open PySem L2
def RelI (K : PySem.W.Frag) (G : Sg) : Rl It' It := fun n r H J' J => ∀ C r1 H1, n ≤ C.next → (∀ i, i < n → r1 i = r i) → Imm H H1 → Rep K G r1 C H1 → ∀ (i : Nat) (P : XR (Option W) → Prop), (itemAt J' i C).wp P →
  ∃ o, P (.ok o C) ∧ (match o with
    | none => J.stop i H1
    | some w => J.go i H1 ∧ ∀ x H2, J.yld i H1 x H2 → Rep K G r1 C H2 ∧ Ext C C r1 r1 H1 H2 ∧ RV K C.next r1 H2 w x)
section
variable {K : PySem.W.Frag} {G : Sg} {n : Nat} {r : Nat → Addr} {H : Hp}
theorem RVs.noneAt {ws : List W} {vs : List V} {i : Nat} (h : RVs K n r H ws vs) (e : ws[i]? = none) : vs.length ≤ i := by
  rw [← h.length]
  exact List.getElem?_eq_none_iff.mp e
/-- the list at a, item i -/
theorem lst_at {C : Hc} {a i : Nat} {P : XR (Option W) → Prop} {ha : a < C.next} (R : Rep K G r C H) (hw : (itemAt (.lst a) i C).wp P) : ∃ ws vs, C.get a = some (.lst ws) ∧ H (r a) = some (.lst vs) ∧ RVs K C.next r H ws vs ∧ P (.ok ws[i]? C) := by
  unfold itemAt at hw
  obtain ⟨o, e0, hw⟩ := wp_get.mp hw
  split at hw
  · obtain ⟨o', e1, h⟩ := R.obj a ha
    rw [e0] at e1
    cases e1
    obtain ⟨vs, q, l⟩ := h
    exact ⟨_, vs, e0, q, l, hw⟩
  · exact hw.elim
theorem SqL.same {a : Addr} {xs ys : List V} (h : H a = some (.lst xs)) (q : SqL K H a ys) (hK : ∀ o, K.lookup a = some o → H a = none) : ys = xs := by
  rcases q with (q | ⟨o, q⟩) | ⟨o, _, _, q, _⟩
  · rw [h] at q; cases q; rfl
  · rw [h] at q; cases q
  · rw [hK o q] at h; cases h
theorem relI_lst {a : Nat} (ha : a < n) : RelI K G n r H (.lst a) (Itl K (r a)) := fun C r1 H1 hn hr hi R i P hw => by
  obtain ⟨ws, vs, e0, q, l, hp⟩ := lst_at (ha := Nat.lt_of_lt_of_le ha hn) R hw
  rw [hr a ha] at q
  refine ⟨_, hp, ?_⟩
  cases e : ws[i]? with
  | none => exact ⟨vs, SqL.of q, l.noneAt e⟩
  | some w =>
    obtain ⟨x, e1, rx⟩ := l.get e
    refine ⟨⟨vs, x, SqL.of q, e1⟩, ?_⟩
    rintro y H2 ⟨rfl, hy⟩
    have := hy vs (SqL.of q)
    rw [e1] at this
    cases this
    exact ⟨R, .refl, rx⟩
theorem relI_tup {p : Addr} {ws : List W} {vs : List V} (q : SqT K H p vs) (l : RVs K n r H ws vs) : RelI K G n r H (.seq ws) (Itt K p) := fun C r1 H1 hn hr hi R i P hw => by
  have q1 : SqT K H1 p vs := BL.SqT.imm hi q
  have l1 := RVs.mono hn hr hi ws vs l
  refine ⟨_, hw, ?_⟩
  cases e : ws[i]? with
  | none => exact ⟨vs, q1, l1.noneAt e⟩
  | some w =>
    obtain ⟨x, e1, rx⟩ := l1.get e
    refine ⟨⟨vs, x, q1, e1⟩, ?_⟩
    rintro y H2 ⟨rfl, hy⟩
    have := hy vs q1
    rw [e1] at this
    cases this
    exact ⟨R, .refl, rx⟩
theorem relI_str {z : Str} : RelI K G n r H (.seq (z.cps.toList.map fun c => .str ⟨#[c]⟩)) (Its z) := fun C r1 H1 hn hr hi R i P hw => by
  refine ⟨_, hw, ?_⟩
  rw [List.getElem?_map]
  cases e : z.cps.toList[i]? with
  | none =>
    have := List.getElem?_eq_none_iff.mp e
    exact (by simpa using this : z.cps.size ≤ i)
  | some c =>
    have hlt := (List.getElem?_eq_some_iff.mp e).1
    have e' : z.cps[i]? = some c := by rw [← Array.getElem?_toList]; exact e
    refine ⟨(by simpa using hlt : i < z.cps.size), ?_⟩
    rintro y H2 ⟨rfl, c', ec, rfl⟩
    rw [e'] at ec
    cases ec
    exact ⟨R, .refl, by unfold RV; rfl⟩
theorem relI_rng {lo : Int} {k : Nat} : RelI K G n r H (.rng lo k) (Itr lo k) := fun C r1 H1 hn hr hi R i P hw => by
  refine ⟨_, hw, ?_⟩
  cases e : Nat.blt i k with
  | true =>
    refine ⟨Nat.le_of_ble_eq_true (show Nat.ble (i + 1) k = true from e), ?_⟩
    rintro y H2 ⟨rfl, rfl⟩
    exact ⟨R, .refl, by unfold RV; rfl⟩
  | false =>
    show k ≤ i
    by_cases h : i < k
    · have : Nat.ble (i + 1) k = true := Nat.ble_eq_true_of_le h
      have e : Nat.ble (i + 1) k = false := e
      rw [this] at e; cases e
    · omega
/-- a pair laid -/
theorem pair_laid {C : Hc} {T : Addr} {w u : W} {x y : V} (R : Rep K G r C H) (hT : H T = none) (rx : RV K C.next r H w x) (ry : RV K C.next r H u y) :
    Rep K G r C (upd H T (.tup [x, y])) ∧ Ext C C r r H (upd H T (.tup [x, y])) ∧ RV K C.next r (upd H T (.tup [x, y])) (.tup [w, u]) (.ref T) := by
  obtain ⟨R1, X1⟩ := R.fresh (u := .tup [x, y]) hT
  refine ⟨R1, X1, ?_⟩
  unfold RV
  exact ⟨T, _, rfl, SqT.of upd_same, .cons (rx.ext R X1) (.cons (ry.ext R X1) .nil)⟩
theorem relI_enm {a : Nat} (ha : a < n) : RelI K G n r H (.enm (.lst a)) (Ite K (r a)) := fun C r1 H1 hn hr hi R i P hw => by
  have hw : (((itemAt (.lst a) i).bind fun r => M.pure (r.map fun w => .tup [.int i, w])) C).wp P := hw
  obtain ⟨ws, vs, e0, q, l, hp⟩ := lst_at (ha := Nat.lt_of_lt_of_le ha hn) R (wp_bindM.mp hw)
  rw [hr a ha] at q
  refine ⟨_, hp, ?_⟩
  cases e : ws[i]? with
  | none => exact ⟨vs, SqL.of q, l.noneAt e⟩
  | some w =>
    obtain ⟨x, e1, rx⟩ := l.get e
    refine ⟨⟨vs, x, SqL.of q, e1⟩, ?_⟩
    rintro y H2 ⟨T, z, rfl, hT, rfl, hz⟩
    have := hz vs (SqL.of q)
    rw [e1] at this
    cases this
    exact pair_laid R hT (by unfold RV; rfl) rx
theorem relI_zipL {a b : Nat} (ha : a < n) (hb : b < n) : RelI K G n r H (.zip (.lst a) (.lst b)) (Itz K (r a) (r b)) := fun C r1 H1 hn hr hi R i P hw => by
  have hw : (((itemAt (.lst a) i).bind fun r => (itemAt (.lst b) i).bind fun r' => M.pure (match r, r' with
    | some w, some u => some (.tup [w, u])
    | _, _ => none)) C).wp P := hw
  obtain ⟨ws, vs, e0, q, l, hp⟩ := lst_at (ha := Nat.lt_of_lt_of_le ha hn) R (wp_bindM.mp hw)
  rw [hr a ha] at q
  obtain ⟨ws2, vs2, e02, q2, l2, hp⟩ := lst_at (ha := Nat.lt_of_lt_of_le hb hn) R (wp_bindM.mp hp)
  rw [hr b hb] at q2
  refine ⟨_, hp, ?_⟩
  cases e : ws[i]? with
  | none => exact ⟨vs, vs2, SqL.of q, SqL.of q2, .inl (l.noneAt e)⟩
  | some w =>
    obtain ⟨x, e1, rx⟩ := l.get e
    cases e' : ws2[i]? with
    | none => exact ⟨vs, vs2, SqL.of q, SqL.of q2, .inr (l2.noneAt e')⟩
    | some u =>
      obtain ⟨y, e2, ry⟩ := l2.get e'
      refine ⟨⟨vs, vs2, x, y, SqL.of q, SqL.of q2, e1, e2⟩, ?_⟩
      rintro z H2 ⟨T, x', y', rfl, hT, rfl, hx', hy'⟩
      have h3 := hx' vs (SqL.of q)
      rw [e1] at h3
      cases h3
      have h4 := hy' vs2 (SqL.of q2)
      rw [e2] at h4
      cases h4
      exact pair_laid R hT rx ry
theorem relI_zipT {p p2 : Addr} {ws ws2 : List W} {vs vs2 : List V} (q : SqT K H p vs) (l : RVs K n r H ws vs) (q2 : SqT K H p2 vs2) (l2 : RVs K n r H ws2 vs2) : RelI K G n r H (.zip (.seq ws) (.seq ws2)) (RZ.ItzT K p p2) := fun C r1 H1 hn hr hi R i P hw => by
  have q := BL.SqT.imm hi q
  have l := RVs.mono hn hr hi ws vs l
  have q2 := BL.SqT.imm hi q2
  have l2 := RVs.mono hn hr hi ws2 vs2 l2
  have hw : (((M.pure ws[i]?).bind fun r => (M.pure ws2[i]?).bind fun r' => M.pure (match r, r' with
    | some w, some u => some (.tup [w, u])
    | _, _ => none)) C).wp P := hw
  have hw := wp_pure.mp (wp_pure.mp hw)
  refine ⟨_, hw, ?_⟩
  cases e : ws[i]? with
  | none => exact ⟨vs, vs2, q, q2, .inl (l.noneAt e)⟩
  | some w =>
    obtain ⟨x, e1, rx⟩ := l.get e
    cases e' : ws2[i]? with
    | none => exact ⟨vs, vs2, q, q2, .inr (l2.noneAt e')⟩
    | some u =>
      obtain ⟨y, e2, ry⟩ := l2.get e'
      refine ⟨⟨vs, vs2, x, y, q, q2, e1, e2⟩, ?_⟩
      rintro z H2 ⟨T, x', y', rfl, hT, rfl, hx', hy'⟩
      have h3 := hx' vs q
      rw [e1] at h3
      cases h3
      have h4 := hy' vs2 q2
      rw [e2] at h4
      cases h4
      exact pair_laid R hT rx ry
end
/-! ### rules -/
section
variable {X : Cx} {G : Sg} {cf : Cf} {L : Nat} {Wx : WX} {pos p apos : Pos}
abbrev tI' (X : Cx) (G : Sg) (Wx : WX) (f : Env → M It') : TI := tl X.K G (RelI X.K G) Wx f
/-- a list, a tuple or a text -/
theorem pi_any {tg e : Expr} {te : TE} (he : PE X e te) : PI X tg e (fun σ H R => te σ H fun x H1 => (∃ a, x = .ref a ∧ (∃ xs, SqL X.K H1 a xs) ∧ R (Itl X.K a) H1) ∨ (∃ a, x = .ref a ∧ (∃ xs, SqT X.K H1 a xs) ∧ R (Itt X.K a) H1) ∨ ∃ z, x = .str z ∧ R (Its z) H1) := by
  refine ⟨fun pins s σ H R I h => ?_⟩
  refine thn (he.run pins s σ H _ I h) fun v s1 ⟨x, H1, I1, r1, q1⟩ => ?_
  have pe : ∀ (hx : x = x), PE X e te := fun _ => he
  rcases q1 with ⟨a, rfl, ⟨xs, hq⟩, q⟩ | ⟨a, rfl, ⟨xs, hq⟩, q⟩ | ⟨z, rfl, q⟩
  · cases r1
    obtain ⟨its, rv, p, hz⟩ := I1.list hq
    refine wpAny_pyIter_list p.isList ?_
    exact pi_one (tk := s1.toks) I1 _ (turn_list a _) ⟨_, Heap.get?_push_size _ rfl, rfl, rfl⟩ q
  · cases r1
    obtain ⟨its, rv, p, hz⟩ := I1.tuple hq
    refine wpAny_pyIter_tuple (show s1.heap.IsTuple a its.toArray from p) ?_
    exact pi_one (tk := s1.toks) I1 _ (turn_tuple a _) ⟨_, Heap.get?_push_size _ rfl, rfl, rfl⟩ q
  · obtain ⟨t, rfl⟩ := r1
    cases ha : z.cps.all (· < 128)
    · exact wpAny_pyIter_wide ha (pi_one (tk := s1.toks) I1 _ (turn_str _ z t "str_iterator" (.inr rfl)) ⟨_, Heap.get?_push_size _ rfl, rfl, rfl⟩ q)
    · exact wpAny_pyIter_ascii ha (pi_one (tk := s1.toks) I1 _ (turn_str _ z t "str_ascii_iterator" (.inl rfl)) ⟨_, Heap.get?_push_size _ rfl, rfl, rfl⟩ q)
theorem r_itr {tg x : Expr} {f : Env → M W} (hx : PE X x (tV X G Wx f)) : PI X tg x (tI' X G Wx fun v => (f v).bind walkW) := by
  refine (pi_any hx).imp fun σ H Q hq => ?_
  obtain ⟨C, r, v, R, E, hw⟩ := hq
  refine tl_intro R E hw fun C1 r1 H1 a b R1 X1 ra q => ?_
  unfold walkW at q
  split at q
  · unfold RelW RV at ra
    obtain ⟨p, vs, rfl, qq, l⟩ := ra
    exact .inr (.inl ⟨p, rfl, ⟨vs, qq⟩, Post.here (RA := RelI X.K G) R1 (relI_tup qq l) q⟩)
  · unfold RelW RV at ra
    exact .inr (.inr ⟨_, ra, Post.here (RA := RelI X.K G) R1 relI_str q⟩)
  · obtain ⟨o, e0, q⟩ := wp_get.mp q
    split at q
    · obtain ⟨vs, rfl, hX, l⟩ := R1.lst ra e0
      exact .inl ⟨_, rfl, ⟨vs, SqL.of hX⟩, Post.here (RA := RelI X.K G) R1 (relI_lst (RV.lt ra)) q⟩
    · exact q.elim
  · exact q.elim
theorem r_rng1 {tg x : Expr} {f : Env → M W} (hg : Gl X "range") (hm : X.mg "range" = none) (hx : PE X x (tV X G Wx f)) (ns : noStar [x] = true) : PI X tg (.Call (.Name "range" p) [x] [] pos) (tI' X G Wx fun v => (f v).bind fun x => match x with
    | .int j => (M.chk (decide (-(2 ^ 62) ≤ j) && decide (j < 2 ^ 62))).bind fun _ => M.pure (.rng 0 j.toNat)
    | _ => M.no) := by
  refine (pi_range1 hg hm (pa_cons hx pa_nil (star_cons ns)) (star_cons ns)).imp fun σ H Q hq => ?_
  obtain ⟨C, r, v, R, E, hw⟩ := hq
  refine tl_intro R E hw fun C1 r1 H1 a b R1 X1 ra q => ?_
  split at q
  · obtain ⟨hc, q⟩ := wp_chk.mp q
    rw [Bool.and_eq_true, decide_eq_true_eq, decide_eq_true_eq] at hc
    unfold RelW RV at ra
    subst ra
    exact ⟨_, rfl, hc.1, hc.2, Post.here (RA := RelI X.K G) R1 relI_rng q⟩
  · exact q.elim
theorem r_rng2 {tg x y : Expr} {f g : Env → M W} (hg : Gl X "range") (hm : X.mg "range" = none) (hx : PE X x (tV X G Wx f)) (hy : PE X y (tV X G Wx g)) (ns : noStar [x, y] = true) : PI X tg (.Call (.Name "range" p) [x, y] [] pos) (tI' X G Wx fun v => (f v).bind fun x => (g v).bind fun y => match x, y with
    | .int i, .int j => (M.chk (decide (-(2 ^ 62) ≤ i) && decide (i < 2 ^ 62) && decide (-(2 ^ 62) ≤ j) && decide (j < 2 ^ 62))).bind fun _ => M.pure (.rng i (j - i).toNat)
    | _, _ => M.no) := by
  refine (pi_range2 hg hm (pa_cons hx (pa_cons hy pa_nil (star_cons (noStar_tail ns))) (star_cons ns)) (by rw [star_cons ns, star_cons (noStar_tail ns)]; rfl) (by rw [star_cons (noStar_tail ns)]; rfl)).imp fun σ H Q hq => ?_
  obtain ⟨C, r, v, R, E, hw⟩ := hq
  refine tl_intro R E hw fun C1 r1 H1 a b R1 X1 ra q => ?_
  refine tl_intro R1 (E.ext R X1) q fun C2 r2 H2 a2 b2 R2 X2 ra2 q2 => ?_
  have ra := ra.ext R1 X2
  split at q2
  · obtain ⟨hc, q2⟩ := wp_chk.mp q2
    rw [Bool.and_eq_true, Bool.and_eq_true, Bool.and_eq_true, decide_eq_true_eq, decide_eq_true_eq, decide_eq_true_eq, decide_eq_true_eq] at hc
    unfold RelW RV at ra2
    unfold RV at ra
    subst ra ra2
    exact ⟨_, _, rfl, ⟨hc.1.1.1, hc.1.1.2, hc.1.2, hc.2⟩, Post.here (RA := RelI X.K G) R2 relI_rng q2⟩
  · exact q2.elim
theorem r_enm {elts : List Expr} {kk : Nat} {tpos : Pos} {x : Expr} {f : Env → M W} (hg : Gl X "enumerate") (hm : X.mg "enumerate" = none) (hx : PE X x (tV X G Wx f)) (ns : noStar [x] = true) : PI X (.Tuple elts kk tpos) (.Call (.Name "enumerate" p) [x] [] pos) (tI' X G Wx fun v => (f v).bind fun x => enmW x) := by
  refine (pi_enum hg hm (pa_cons hx pa_nil (star_cons ns)) (star_cons ns)).imp fun σ H Q hq => ?_
  obtain ⟨C, r, v, R, E, hw⟩ := hq
  refine tl_intro R E hw fun C1 r1 H1 a b R1 X1 ra q => ?_
  unfold enmW at q
  split at q
  · obtain ⟨o, e0, q⟩ := wp_get.mp q
    split at q
    · obtain ⟨vs, rfl, hX, l⟩ := R1.lst ra e0
      exact ⟨_, vs, rfl, SqL.of hX, Post.here (RA := RelI X.K G) R1 (relI_enm (RV.lt ra)) q⟩
    · exact q.elim
  · exact q.elim
theorem r_zip {elts : List Expr} {kk : Nat} {tpos : Pos} {x y : Expr} {f g : Env → M W} (hg : Gl X "zip") (hm : X.mg "zip" = none) (hx : PE X x (tV X G Wx f)) (hy : PE X y (tV X G Wx g)) (ns : noStar [x, y] = true) :
    PI X (.Tuple elts kk tpos) (.Call (.Name "zip" p) [x, y] [] pos) (tI' X G Wx fun v => (f v).bind fun x => (g v).bind fun y => zipW x y) := by
  refine (RZ.pi_zipA hg hm (pa_cons hx (pa_cons hy pa_nil (star_cons (noStar_tail ns))) (star_cons ns)) (star_cons ns) (star_none (noStar_tail ns))).imp fun σ H Q hq => ?_
  obtain ⟨C, r, v, R, E, hw⟩ := hq
  refine tl_intro R E hw fun C1 r1 H1 a b R1 X1 ra q => ?_
  refine tl_intro R1 (E.ext R X1) q fun C2 r2 H2 a2 b2 R2 X2 ra2 q2 => ?_
  have ra := ra.ext R1 X2
  unfold zipW at q2
  split at q2
  · unfold RelW RV at ra2
    unfold RV at ra
    obtain ⟨p, vs, rfl, qq, l⟩ := ra
    obtain ⟨p2, vs2, rfl, qq2, l2⟩ := ra2
    exact ⟨p, p2, vs, vs2, rfl, .inr ⟨qq, qq2, Post.here (RA := RelI X.K G) R2 (relI_zipT qq l qq2 l2) q2⟩⟩
  · obtain ⟨o, e0, q2⟩ := wp_get.mp q2
    obtain ⟨o2, e02, q2⟩ := wp_get.mp q2
    split at q2
    · obtain ⟨vs, rfl, hX, l⟩ := R2.lst ra e0
      obtain ⟨vs2, rfl, hX2, l2⟩ := R2.lst ra2 e02
      exact ⟨_, _, vs, vs2, rfl, .inl ⟨SqL.of hX, SqL.of hX2, Post.here (RA := RelI X.K G) R2 (relI_zipL (RV.lt ra) (RV.lt ra2)) q2⟩⟩
    · exact q2.elim
  · exact q2.elim
end
end BL
set_option Elab.async false
set_option linter.all false
set_option maxRecDepth 100000
set_option maxHeartbeats 1000000
/-! BL13: lists of terms; and, or; built-in calls; comprehensions. -/
namespace BL
open PySem L2
/-- a term's rules: as a value, as a test -/
structure Sd (X : Cx) (G : Sg) (Wx : WX) (q : S3) (x : Expr) : Prop where
  val : PE X x (tV X G Wx q.val)
  tst : PT X x (tB' X G Wx q.tst)
def SdA (X : Cx) (G : Sg) (Wx : WX) : S3s → List Expr → Prop
  | [], xs => xs = []
  | p :: qs, xs => ∃ x ys, xs = x :: ys ∧ (if p.1 = true then ∃ x' ps, x = .Starred x' ps ∧ Sd X G Wx p.2 x' else noStar [x] = true ∧ Sd X G Wx p.2 x) ∧ SdA X G Wx qs ys
section
variable {X : Cx} {G : Sg} {cf : Cf} {L : Nat} {Wx : WX} {pos p apos : Pos}
theorem noStar_star {x : Expr} {xs : List Expr} {env : PySem.Env} (h : noStar [x] = true) : starEach (x :: xs) env = (false, eval x env) :: starEach xs env := by
  cases x <;> first
    | rfl
    | cases h
theorem SdA.pa : ∀ {qs : S3s} {xs : List Expr}, SdA X G Wx qs xs → PA X xs (tA' X G Wx fun v => evEs qs v)
  | [], xs, h => by
    have e : xs = [] := h
    subst e
    exact r_nil
  | p :: qs, xs, h => by
    obtain ⟨x, ys, rfl, h1, h2⟩ := h
    have ih := SdA.pa h2
    obtain ⟨b, q⟩ := p
    cases b with
    | true =>
      obtain ⟨x', ps, rfl, sd⟩ := (if_pos rfl ▸ h1 : _)
      exact r_star sd.val ih
    | false =>
      obtain ⟨ns, sd⟩ := (if_neg Bool.false_ne_true ▸ h1 : _)
      exact r_cons sd.val ih (noStar_star ns)
theorem SdA.nil0 : ∀ {qs : S3s} {xs : List Expr}, SdA X G Wx qs xs → xs = [] → ∀ v, evEs qs v = M.pure []
  | [], _, _, _ => fun _ => rfl
  | p :: qs, xs, h, e => by
    obtain ⟨x, ys, rfl, _⟩ := h
    cases e
/-! ### and, or -/
theorem SdA.boo {op : BoolOp} : ∀ {qs : S3s} {x : Expr} {xs : List Expr}, (∀ p ∈ qs, p.1 = false) → SdA X G Wx qs (x :: xs) → PE X (.BoolOp op (x :: xs) pos) (tV X G Wx fun v => evB op qs v)
  | [], _, _, _, h => by cases (show _ = [] from h)
  | [p], x, xs, hs, h => by
    obtain ⟨x', ys, e, h1, h2⟩ := h
    cases e
    have e2 : xs = [] := h2
    subst e2
    rw [if_neg (by rw [hs p List.mem_cons_self]; exact Bool.false_ne_true)] at h1
    exact pe_one h1.2.val
  | p :: p2 :: qs, x, xs, hs, h => by
    obtain ⟨x', ys, e, h1, h2⟩ := h
    cases e
    rw [if_neg (by rw [hs p List.mem_cons_self]; exact Bool.false_ne_true)] at h1
    cases xs with
    | nil => obtain ⟨_, _, e, _⟩ := h2; cases e
    | cons y ys =>
      have ih := SdA.boo (op := op) (fun q hq => hs q (List.mem_cons_of_mem _ hq)) h2
      cases op with
      | And =>
        refine (pe_and h1.2.val ih).imp fun σ H Q hq => ?_
        obtain ⟨C, r, v, R, E, hw⟩ := hq
        refine tl_intro (f := fun a => (truW a).bind fun b => match BoolOp.And, b with
          | .And, false => M.pure a
          | .Or, true => M.pure a
          | _, _ => evB .And (p2 :: qs) v) R E hw fun C1 r1 H1 a b R1 X1 ra q => ?_
        unfold truW at q
        split at q
        · rename_i c
          have ra' := ra
          unfold RelW RV at ra'
          refine ⟨c, ra', ?_⟩
          cases c with
          | true => rw [if_pos rfl]; exact tl_last R1 (E.ext R X1) q
          | false => rw [if_neg Bool.false_ne_true]; exact Post.here (RA := RelW X.K) R1 (by unfold RelW RV; rfl) q
        · exact q.elim
      | Or =>
        refine (pe_or h1.2.val ih).imp fun σ H Q hq => ?_
        obtain ⟨C, r, v, R, E, hw⟩ := hq
        refine tl_intro (f := fun a => (truW a).bind fun b => match BoolOp.Or, b with
          | .And, false => M.pure a
          | .Or, true => M.pure a
          | _, _ => evB .Or (p2 :: qs) v) R E hw fun C1 r1 H1 a b R1 X1 ra q => ?_
        unfold truW at q
        split at q
        · rename_i c
          have ra' := ra
          unfold RelW RV at ra'
          refine ⟨c, ra', ?_⟩
          cases c with
          | true => rw [if_pos rfl]; exact Post.here (RA := RelW X.K) R1 (by unfold RelW RV; rfl) q
          | false => rw [if_neg Bool.false_ne_true]; exact tl_last R1 (E.ext R X1) q
        · exact q.elim
theorem SdA.booT {op : BoolOp} : ∀ {qs : S3s} {x : Expr} {xs : List Expr}, (∀ p ∈ qs, p.1 = false) → SdA X G Wx qs (x :: xs) → PW X (.BoolOp op (x :: xs) pos) (tB' X G Wx fun v => evBT op qs v)
  | [], _, _, _, h => by cases (show _ = [] from h)
  | [p], x, xs, hs, h => by
    obtain ⟨x', ys, e, h1, h2⟩ := h
    cases e
    have e2 : xs = [] := h2
    subst e2
    rw [if_neg (by rw [hs p List.mem_cons_self]; exact Bool.false_ne_true)] at h1
    cases op with
    | And => exact pw_and1 h1.2.tst
    | Or => exact pw_or1 h1.2.tst
  | p :: p2 :: qs, x, xs, hs, h => by
    obtain ⟨x', ys, e, h1, h2⟩ := h
    cases e
    rw [if_neg (by rw [hs p List.mem_cons_self]; exact Bool.false_ne_true)] at h1
    cases xs with
    | nil => obtain ⟨_, _, e, _⟩ := h2; cases e
    | cons y ys =>
      have ih := SdA.booT (op := op) (fun q hq => hs q (List.mem_cons_of_mem _ hq)) h2
      cases op with
      | And =>
        refine (pw_and h1.2.tst ih).imp fun σ H Q hq => ?_
        obtain ⟨C, r, v, R, E, hw⟩ := hq
        refine tl_intro (RA := RelB) (f := fun b => match BoolOp.And, b with
          | .And, false => M.pure false
          | .Or, true => M.pure true
          | _, _ => evBT .And (p2 :: qs) v) R E hw fun C1 r1 H1 a b R1 X1 ra q => ?_
        cases (show a = b from ra)
        cases a with
        | true => rw [if_pos rfl]; exact tl_last R1 (E.ext R X1) q
        | false => rw [if_neg Bool.false_ne_true]; exact Post.here (RA := RelB) R1 rfl q
      | Or =>
        refine (pw_or h1.2.tst ih).imp fun σ H Q hq => ?_
        obtain ⟨C, r, v, R, E, hw⟩ := hq
        refine tl_intro (RA := RelB) (f := fun b => match BoolOp.Or, b with
          | .And, false => M.pure false
          | .Or, true => M.pure true
          | _, _ => evBT .Or (p2 :: qs) v) R E hw fun C1 r1 H1 a b R1 X1 ra q => ?_
        cases (show a = b from ra)
        cases a with
        | true => rw [if_pos rfl]; exact Post.here (RA := RelB) R1 rfl q
        | false => rw [if_neg Bool.false_ne_true]; exact tl_last R1 (E.ext R X1) q
/-! ### texts -/
theorem empty_cat (y : Str) : Str.empty ++ y = y := by
  obtain ⟨⟨l⟩⟩ := y
  first
    | rfl
    | (show (⟨#[] ++ ⟨l⟩⟩ : Str) = _; simp)
theorem SdA.joined : ∀ {qs : S3s} {xs : List Expr}, (∀ p ∈ qs, p.1 = false) → SdA X G Wx qs xs → ∃ ts, PJ X xs ts ∧ ∀ acc σ H (Q : Str → Hp → Prop), tl X.K G (RelW X.K) Wx (fun v => evJ qs v acc) σ H (fun x H1 => ∃ z, x = .str z ∧ Q z H1) → tJs ts acc σ H Q
  | [], xs, _, h => by
    have e : xs = [] := h
    subst e
    refine ⟨[], .nil, fun acc σ H Q hq => ?_⟩
    obtain ⟨C, r, v, R, E, hw⟩ := hq
    obtain ⟨z, e, q⟩ := Post.here (RA := RelW X.K) (x := W.str acc) (b := V.str acc) R (by unfold RelW RV; rfl) hw
    cases e
    exact q
  | p :: qs, xs, hs, h => by
    obtain ⟨x, ys, rfl, h1, h2⟩ := h
    rw [if_neg (by rw [hs p List.mem_cons_self]; exact Bool.false_ne_true)] at h1
    obtain ⟨ts, pj, ih⟩ := SdA.joined (fun q hq => hs q (List.mem_cons_of_mem _ hq)) h2
    refine ⟨_, .cons h1.2.val pj, fun acc σ H Q hq => ?_⟩
    obtain ⟨C, r, v, R, E, hw⟩ := hq
    refine tl_intro (f := fun x => match x with
      | .str y => (M.chk (fitB (acc ++ y).length)).bind fun _ => evJ qs v (acc ++ y)
      | _ => M.no) R E hw fun C1 r1 H1 a b R1 X1 ra q => ?_
    split at q
    · obtain ⟨hc, q⟩ := wp_chk.mp q
      unfold RelW RV at ra
      exact ⟨_, ra, fit_le hc, ih _ σ H1 Q (tl_last R1 (E.ext R X1) q)⟩
    · exact q.elim
theorem tl_strs {f : Env → M W} {σ : St} {H : Hp} {Q : VK} (hs : ∀ v C P, (f v C).wp P → (f v C).wp fun x => P x ∧ match x with
    | .ok (.str _) _ => True
    | .ok _ _ => False
    | .exc _ _ => True) (h : tV X G Wx f σ H Q) : tV X G Wx f σ H fun x H1 => ∃ z, x = .str z ∧ Q (.str z) H1 := by
  obtain ⟨C, r, v, R, E, hw⟩ := h
  refine ⟨C, r, v, R, E, Tr.wp_mono (fun x hx => ?_) (hs v C _ hw)⟩
  obtain ⟨hx, ht⟩ := hx
  cases x with
  | exc _ _ => exact hx
  | ok a C1 =>
    cases a <;> first
      | exact ht.elim
      | skip
    intro r' H' b R' X' ra
    have ra' := ra
    unfold RelW RV at ra'
    subst ra'
    exact ⟨_, rfl, hx r' H' _ R' X' ra⟩
theorem evJ_str : ∀ {qs : S3s} {v : Env} {acc : Str} {C : Hc} {P : XR W → Prop}, (evJ qs v acc C).wp P → (evJ qs v acc C).wp fun x => P x ∧ match x with
    | .ok (.str _) _ => True
    | .ok _ _ => False
    | .exc _ _ => True
  | [], _, _, _, _, h => ⟨h, trivial⟩
  | p :: qs, v, acc, C, P, h => by
    refine wp_bindM.mpr (Tr.wp_mono (fun x hx => ?_) (wp_bindM.mp h))
    cases x with
    | exc _ _ => exact ⟨hx, trivial⟩
    | ok a C1 =>
      cases a <;> first
        | exact hx.elim
        | skip
      obtain ⟨hc, hx⟩ := wp_chk.mp hx
      exact wp_chk.mpr ⟨hc, evJ_str hx⟩
theorem r_fst {qs : S3s} {x y : Expr} {xs : List Expr} (hs : ∀ p ∈ qs, p.1 = false) (h : SdA X G Wx qs (x :: y :: xs)) : PE X (.JoinedStr (x :: y :: xs) pos) (tV X G Wx fun v => evJ qs v Str.empty) := by
  obtain ⟨ts, pj, ih⟩ := SdA.joined hs h
  refine (pe_joined pj).imp fun σ H Q hq => ?_
  exact ih _ σ H _ (tl_strs (fun v C P h => evJ_str h) hq)
theorem r_fst1 {p : Bool × S3} {x : Expr} (hs : p.1 = false) (h : SdA X G Wx [p] [x]) : PE X (.JoinedStr [x] pos) (tV X G Wx fun v => evJ [p] v Str.empty) := by
  obtain ⟨x', ys, e, h1, h2⟩ := h
  cases e
  rw [if_neg (by rw [hs]; exact Bool.false_ne_true)] at h1
  refine (pe_joined1 h1.2.val).imp fun σ H Q hq => ?_
  obtain ⟨C, r, v, R, E, hw⟩ := hq
  refine tl_intro (f := fun x => match x with
      | .str y => (M.chk (fitB (Str.empty ++ y).length)).bind fun _ => evJ [] v (Str.empty ++ y)
      | _ => M.no) R E hw fun C1 r1 H1 a b R1 X1 ra q => ?_
  split at q
  · obtain ⟨hc, q⟩ := wp_chk.mp q
    rw [empty_cat] at q
    exact Post.here (RA := RelW X.K) R1 ra q
  · exact q.elim
end
end BL
set_option Elab.async false
set_option linter.all false
set_option maxRecDepth 100000
set_option maxHeartbeats 1000000
/-! BL14: built-in calls and methods, isinstance, targets, comprehensions. -/
namespace BL
open PySem L2
section
variable {X : Cx} {G : Sg} {cf : Cf} {L : Nat} {Wx : WX} {pos p apos : Pos}
theorem okN_of {f : List W → M W} {g : Env → M (List W)} : ∀ σ H Q, tV X G Wx (fun v => (g v).bind fun ws => f ws) σ H Q → tCB (OkN X.K G f) (tA' X G Wx g) σ H Q := fun σ H Q hq => by
  obtain ⟨C, r, v, R, E, hw⟩ := hq
  exact tl_intro R E hw fun C1 r1 H1 a b R1 X1 ra q => ⟨C1, r1, a, Wx, σ, R1, ra, q⟩
def bltName : Bl → Str
  | .len => "len" | .tuple => "tuple" | .list => "list" | .all => "all" | .any => "any" | .sum => "sum" | .int => "int" | .str => "str" | .abs => "abs"
theorem blt_mem (b : Bl) : bltName b ∈ bltNames := by cases b <;> decide
theorem boot_len' : bootBuiltins "len" = some (.builtin "len") := by decide +kernel
theorem boot_all : bootBuiltins "all" = some (.builtin "all") := by decide +kernel
theorem boot_any : bootBuiltins "any" = some (.builtin "any") := by decide +kernel
/-- f(e, ..), f built in -/
theorem r_blt {b : Bl} {x : Expr} {xs : List Expr} {g : Env → M (List W)} (D : Gd X G cf L Wx) (hg : Gl X (bltName b)) (ha : PA X (x :: xs) (tA' X G Wx g)) (ns : noStar (x :: xs) = true) :
    PE X (.Call (.Name (bltName b) p) (x :: xs) [] pos) (tV X G Wx fun v => (g v).bind fun ws => bltC G cf b ws) := by
  have hm := D.st.blt _ (blt_mem b)
  have st := star_cons (env := X.env) ns
  have sn := star_none (env := X.env) (pos := pos) (noStar_tail ns)
  cases b with
  | len => exact (pe_callB (len_ok (G := G)) hg hm boot_len' ha (by decide) (by decide) st sn).imp okN_of
  | tuple => exact (pe_callTy (tuple_ok (G := G)) hg hm PyProof.Rows.boot_tuple ha (by decide) (by decide) st sn).imp okN_of
  | list => exact (pe_callTy (list_ok (G := G)) hg hm PyProof.Rows.boot_list ha (by decide) (by decide) st sn).imp okN_of
  | all => exact (pe_callB (all_ok (G := G) D.calm) hg hm boot_all ha (by decide) (by decide) st sn).imp okN_of
  | any => exact (pe_callB (any_ok (G := G) D.calm) hg hm boot_any ha (by decide) (by decide) st sn).imp okN_of
  | sum => exact (pe_callB (sum_ok (G := G) D.calm) hg hm PyProof.Rows.boot_sum ha (by decide) (by decide) st sn).imp okN_of
  | int => exact (pe_callTy (int_ok (G := G)) hg hm PyProof.Rows.boot_int ha (by decide) (by decide) st sn).imp okN_of
  | abs => exact (pe_callB (abs_ok (G := G)) hg hm PyProof.Rows.boot_abs ha (by decide) (by decide) st sn).imp okN_of
  | str =>
    refine (pe_callTy (str_ok D) hg hm PyProof.Rows.boot_str ha (by decide) (by decide) st sn).imp fun σ H Q hq => ?_
    refine okN_of σ H Q ?_
    obtain ⟨C, r, v, R, E, hw⟩ := hq
    refine ⟨C, r, v, R, E, wp_bindM.mpr (Tr.wp_mono (fun y hy => ?_) (wp_bindM.mp hw))⟩
    cases y with
    | exc _ _ => exact hy
    | ok ws C1 =>
      match ws with
      | [] => exact hy
      | [a] => exact hy
      | a :: b :: c => exact hy
/-! ### methods of built-in things -/
def bmTy : Bm → String
  | .join => "str" | .append => "list" | .extend => "list"
def bmName : Bm → Str
  | .join => "join" | .append => "append" | .extend => "extend"
theorem bm_few {x : Expr} {xs : List Expr} (ns : noStar (x :: xs) = true) (hfew : Nat.blt (x :: xs).length 29 = true) : ((backTo pos (starEach (x :: xs) X.env)).all (fun x => !x.1) && (backToKw pos (keywordEach [] X.env)).all (fun x => x.1.isSome)
      && decide ((x :: xs).length + ([] : List Keyword).length + (if ([] : List Keyword).isEmpty then 0 else 1) < 30)) = true := by
  have : (x :: xs).length < 29 := Nat.le_of_ble_eq_true (show Nat.ble ((x :: xs).length + 1) 29 = true from hfew)
  rw [star_all ns]
  simp only [Bool.true_and]
  rw [Bool.and_eq_true]
  refine ⟨rfl, decide_eq_true ?_⟩
  simp at this ⊢
  omega
theorem r_bm {b : Bm} {o x : Expr} {xs : List Expr} {h : Env → M W} {g : Env → M (List W)} (ho : PE X o (tV X G Wx h)) (hb : abOk o = true) (ha : PA X (x :: xs) (tA' X G Wx g)) (ns : noStar (x :: xs) = true) (hfew : Nat.blt (x :: xs).length 29 = true) (hline : (apos.endLine == pos.line) = true) :
    PE X (.Call (.Attribute o (bmName b) apos) (x :: xs) [] pos) (tV X G Wx fun v => (h v).bind fun a => (bmOk b a).bind fun _ => (g v).bind fun ws => metW a b ws) := by
  have key : ∀ (T : String) (r : V → List V → Hp → VK → Prop) (f : W → List W → M W), r = OkM X.K G f → (∀ a ws, metW a b ws = f a ws) → bmTy b = T →
      ∀ σ H Q, tV X G Wx (fun v => (h v).bind fun a => (bmOk b a).bind fun _ => (g v).bind fun ws => metW a b ws) σ H Q → tBM X.K T r (tV X G Wx h) (tA' X G Wx g) σ H Q := by
    intro T r f er ef eT σ H Q hq
    subst er
    obtain ⟨C, r, v, R, E, hw⟩ := hq
    refine tl_intro R E hw fun C1 r1 H1 a c R1 X1 ra q => ?_
    have both : tyV X.K T c H1 ∧ (((g v).bind fun ws => metW a b ws) C1).wp (Post X.K G (RelW X.K) Wx σ C1 r1 H1 Q) := by
      have lst : T = "list" → ((lstOk a).bind (fun _ => (g v).bind fun ws => metW a b ws) C1).wp (Post X.K G (RelW X.K) Wx σ C1 r1 H1 Q) → tyV X.K T c H1 ∧ (((g v).bind fun ws => metW a b ws) C1).wp (Post X.K G (RelW X.K) Wx σ C1 r1 H1 Q) := fun eT q => by
        have q := wp_bindM.mp q
        unfold lstOk at q
        split at q
        · obtain ⟨ob, e0, q⟩ := wp_get.mp q
          split at q
          · obtain ⟨vs, rfl, hX, l⟩ := R1.lst ra e0
            exact ⟨.inl ⟨eT, vs, SqL.of hX⟩, q⟩
          · exact q.elim
        · exact q.elim
      cases b with
      | join =>
        have q := wp_bindM.mp q
        unfold bmOk at q
        dsimp only at q
        split at q
        · unfold RelW RV at ra
          subst ra
          exact ⟨eT.symm, q⟩
        · exact q.elim
      | append => exact lst eT.symm q
      | extend => exact lst eT.symm q
    refine ⟨both.1, ?_⟩
    refine tl_intro R1 (E.ext R X1) both.2 fun C2 r2 H2 a2 b2 R2 X2 ra2 q2 => ?_
    rw [ef] at q2
    exact ⟨C2, r2, a, a2, Wx, σ, R2, ra.ext R1 X2, ra2, q2⟩
  have st := star_cons (env := X.env) ns
  have sn := star_none (env := X.env) (pos := pos) (noStar_tail ns)
  cases b with
  | join => exact (pe_bm PySem.F.plainAttrs_str PySem.F.slot_str_join PySem.F.type_str_join (join_ok (G := G)) ho ha (abOk_eq hb) (bm_few ns hfew) hline st sn).imp (key _ _ joinW rfl (fun _ _ => rfl) rfl)
  | append => exact (pe_bm PySem.F.plainAttrs_list PySem.F.slot_list_append PySem.F.type_list_append (append_ok (G := G)) ho ha (abOk_eq hb) (bm_few ns hfew) hline st sn).imp (key _ _ appendW rfl (fun _ _ => rfl) rfl)
  | extend => exact (pe_bm PySem.F.plainAttrs_list PySem.F.slot_list_extend PySem.F.type_list_extend (extend_ok (G := G)) ho ha (abOk_eq hb) (bm_few ns hfew) hline st sn).imp (key _ _ extendW rfl (fun _ _ => rfl) rfl)
def bm0Name : Bm0 → Str
  | .pop => "pop"
theorem r_bm0 {b : Bm0} {o : Expr} {h : Env → M W} (ho : PE X o (tV X G Wx h)) (hb : abOk o = true) (hline : (apos.endLine == pos.line) = true) :
    PE X (.Call (.Attribute o (bm0Name b) apos) [] [] pos) (tV X G Wx fun v => (h v).bind fun a => (bm0Ok b a).bind fun _ => met0W a b) := by
  cases b with
  | pop =>
    refine (pe_bm0 PySem.F.plainAttrs_list PySem.F.slot_list_pop PySem.F.type_list_pop (pop_ok (G := G)) ho (abOk_eq hb) hline).imp fun σ H Q hq => ?_
    obtain ⟨C, r, v, R, E, hw⟩ := hq
    refine tl_intro R E hw fun C1 r1 H1 a c R1 X1 ra q => ?_
    have q := wp_bindM.mp q
    unfold bm0Ok lstOk at q
    dsimp only at q
    split at q
    · obtain ⟨ob, e0, q⟩ := wp_get.mp q
      split at q
      · obtain ⟨vs, rfl, hX, l⟩ := R1.lst ra e0
        exact ⟨.inl ⟨rfl, vs, SqL.of hX⟩, rfl, C1, r1, _, Wx, σ, R1, ra, q⟩
      · exact q.elim
    · exact q.elim
end
end BL
set_option Elab.async false
set_option linter.all false
set_option maxRecDepth 100000
set_option maxHeartbeats 1000000
/-! BL15: isinstance, targets, comprehensions. -/
namespace BL
open PySem L2
def Ty0.py : Ty0 → Str
  | .none => "NoneType" | .bool => "bool" | .int => "int" | .str => "str" | .tuple => "tuple" | .list => "list"
def cVv (K : PySem.W.Frag) (G : Sg) : CT → V
  | .ty t => .ty t.nm
  | .cls c => .ref (cAd K G c)
/-- a class's name, written -/
def mtC (G : Sg) (sc : Scope) (c : CT) (y : Expr) : Bool := match y with
  | .Name n _ => decide (sc.names.lookup n = some .globalImplicit) && (match c with
    | .ty .none => false
    | .ty t => decide (n = t.py)
    | .cls k => (match G.cls[k]? with
      | some d => decide (n = d.name) && !(n == ("__debug__" : Str))
      | none => false))
  | _ => false
def mtCs (G : Sg) (sc : Scope) : List CT → List Expr → Bool
  | [], [] => true
  | c :: cs, y :: ys => mtC G sc c y && mtCs G sc cs ys
  | _, _ => false
section
variable {X : Cx} {G : Sg} {cf : Cf} {L : Nat} {Wx : WX} {pos p apos : Pos}
theorem r_cname (S : Stat X.K X.mg G) {sc : Scope} (hsc : X.env.scope = sc) {c : CT} {y : Expr} (h : mtC G sc c y = true) : PE X y (tC (cVv X.K G c)) := by
  unfold mtC at h
  split at h
  · rename_i n _
    rw [Bool.and_eq_true, decide_eq_true_eq] at h
    obtain ⟨h1, h2⟩ := h
    have hg : Gl X n := by
      show X.env.scope.names.lookup n = _
      rw [hsc]; exact h1
    split at h2
    · cases h2
    · rename_i t _
      have e := of_decide_eq_true h2
      subst e
      cases t with
      | none => rename_i z; exact absurd rfl z
      | bool => exact pe_bltn hg (S.blt _ (by decide)) PyProof.Rows.boot_bool rfl
      | int => exact pe_bltn hg (S.blt _ (by decide)) PyProof.Rows.boot_int rfl
      | str => exact pe_bltn hg (S.blt _ (by decide)) PyProof.Rows.boot_str rfl
      | tuple => exact pe_bltn hg (S.blt _ (by decide)) PyProof.Rows.boot_tuple rfl
      | list => exact pe_bltn hg (S.blt _ (by decide)) PyProof.Rows.boot_list rfl
    · split at h2
      · rename_i k _ d hd
        rw [Bool.and_eq_true, decide_eq_true_eq] at h2
        obtain ⟨rfl, h3⟩ := h2
        exact pe_glob hg (S.clg k d hd) (show RelV (.ref (cAd X.K G k)) _ from rfl) (by rw [← Bool.not_eq_true']; exact h3)
      · cases h2
  · cases h
theorem mtC_plain {sc : Scope} {c : CT} {y : Expr} (h : mtC G sc c y = true) : noStar [y] = true := by
  unfold mtC at h
  split at h
  · rfl
  · cases h
theorem r_cnames (S : Stat X.K X.mg G) {sc : Scope} (hsc : X.env.scope = sc) : ∀ {cs : List CT} {ys : List Expr}, mtCs G sc cs ys = true → PA X ys (fun _ H Q => Q (cs.map (cVv X.K G)) H)
  | [], [], _ => pa_nil
  | [], _ :: _, h => by cases h
  | _ :: _, [], h => by cases h
  | c :: cs, y :: ys, h => by
    unfold mtCs at h
    rw [Bool.and_eq_true] at h
    exact (pa_cons (r_cname S hsc h.1) (r_cnames S hsc h.2) (noStar_star (mtC_plain h.1))).imp fun σ H Q hq => hq
theorem clsV_of (c : CT) : ClsV (cVv X.K G c) (tyV0 X.K G c) := by
  cases c with
  | ty t => exact .ty _
  | cls k => exact .own _
theorem clsV_all : ∀ cs : List CT, Paired ClsV (cs.map (cVv X.K G)) (cs.map (tyV0 X.K G))
  | [] => .nil
  | c :: cs => .cons (clsV_of c) (clsV_all cs)
theorem kitAny_of (S : Stat X.K X.mg G) {t : CT} : ∀ {cs : List CT} {b : Bool}, isAny G.cls t cs = some b → PySem.W.kitAny X.K (tyV0 X.K G t) (cs.map (tyV0 X.K G)) = some b
  | [], b, h => by cases h; exact kitAny_nil
  | c :: cs, b, h => by
    unfold isAny at h
    cases e : isTag G.cls t c with
    | none => rw [e] at h; cases h
    | some k =>
      rw [e] at h
      cases k with
      | true => cases h; exact kitAny_cons (S.isi t c true e) (fun z => by cases z) fun _ => rfl
      | false => exact kitAny_cons (S.isi t c false e) (fun _ => kitAny_of S h) fun z => by cases z
theorem isi_parts {C : Hc} {a : W} {cs : List CT} {P : XR W → Prop} (h : (isiW G.cls a cs C).wp P) : ∃ t b, tagW G.cls C a = some t ∧ isAny G.cls t cs = some b ∧ P (.ok (.bl b) C) := by
  unfold isiW at h
  cases e : tagW G.cls C a with
  | none => rw [e] at h; exact h.elim
  | some t =>
    rw [e] at h
    cases e2 : isAny G.cls t cs with
    | none => simp only [e2] at h; exact h.elim
    | some b => simp only [e2] at h; exact ⟨t, b, rfl, e2, h⟩
theorem r_isi {x y : Expr} {c : CT} {f : Env → M W} {sc : Scope} (D : Gd X G cf L Wx) (hsc : X.env.scope = sc) (hg : Gl X "isinstance") (hx : PE X x (tV X G Wx f)) (nx : noStar [x] = true) (hy : mtC G sc c y = true) :
    PE X (.Call (.Name "isinstance" p) [x, y] [] pos) (tV X G Wx fun v => (f v).bind fun a => isiW G.cls a [c]) := by
  have ny := mtC_plain hy
  refine (pe_callB call_isi hg (D.st.blt _ (by decide)) PyProof.Rows.boot_isinstance (pa_cons hx (pa_cons (r_cname D.st hsc hy) pa_nil (noStar_star ny)) (noStar_star nx)) (by decide) (by decide) (noStar_star nx) (star_none ny)).imp fun σ H Q hq => ?_
  obtain ⟨C, r, v, R, E, hw⟩ := hq
  refine tl_intro R E hw fun C1 r1 H1 a b R1 X1 ra q => ?_
  obtain ⟨t, k, e1, e2, q⟩ := isi_parts q
  have ek : isTag G.cls t c = some k := by
    unfold isAny at e2
    cases e : isTag G.cls t c with
    | none => rw [e] at e2; cases e2
    | some z =>
      rw [e] at e2
      cases z with
      | true => cases e2; rfl
      | false => cases e2; rfl
  exact ⟨b, _, _, _, k, rfl, clsV_of c, tag_ty D.st R1 ra e1, D.st.isi t c k ek, Post.here (RA := RelW X.K) R1 (by unfold RelW RV; rfl) q⟩
theorem r_isiT {x : Expr} {ys : List Expr} {kk : Nat} {p2 : Pos} {cs : List CT} {f : Env → M W} {sc : Scope} (D : Gd X G cf L Wx) (hsc : X.env.scope = sc) (hg : Gl X "isinstance") (hx : PE X x (tV X G Wx f)) (nx : noStar [x] = true) (hy : mtCs G sc cs ys = true) (hl : Nat.ble cs.length 100 = true) :
    PE X (.Call (.Name "isinstance" p) [x, .Tuple ys kk p2] [] pos) (tV X G Wx fun v => (f v).bind fun a => isiW G.cls a cs) := by
  refine (pe_callB call_isiT hg (D.st.blt _ (by decide)) PyProof.Rows.boot_isinstance (pa_cons hx (pa_cons (pe_tup (r_cnames D.st hsc hy)) pa_nil rfl) (noStar_star nx)) (by decide) (by decide) (noStar_star nx) rfl).imp fun σ H Q hq => ?_
  obtain ⟨C, r, v, R, E, hw⟩ := hq
  refine tl_intro R E hw fun C1 r1 H1 a b R1 X1 ra q => ?_
  refine ⟨?_, fun T hT => ?_⟩
  · rw [List.length_map, sizeLine_eq]
    have := Nat.le_of_ble_eq_true hl
    omega
  · obtain ⟨t, k, e1, e2, q⟩ := isi_parts q
    obtain ⟨R2, X2⟩ := R1.fresh (u := .tup (cs.map (cVv X.K G))) hT
    exact ⟨b, T, _, _, _, k, rfl, upd_same, clsV_all cs, tag_ty D.st R2 (ra.ext R1 X2) e1, kitAny_of D.st e2, q r1 _ _ R2 X2 (by unfold RelW RV; rfl)⟩
/-! ### targets -/
def gNms : List Nat → TGs
  | [] => gNil
  | i :: is => gCons (gName i) (gNms is)
def gTg (K : PySem.W.Frag) : Tg → TG
  | .nm i => gName i
  | .tp is => gTup K is.length (gNms is)
/-- the slots that are set -/
def setsV : St → List Nat → List V → St
  | σ, i :: is, x :: xs => setsV (σ.set i (some x)) is xs
  | σ, _, _ => σ
def Tg.sl : Tg → List Nat
  | .nm i => [i]
  | .tp is => is
theorem gNms_run {n : Nat} {r : Nat → Addr} {H : Hp} {Q : St → Hp → Prop} : ∀ {is : List Nat} {ws : List W} {xs : List V} {v v' : Env} {σ : St}, RVs X.K n r H ws xs → RE X.K n r H v σ → setEs v is ws = some v' → (∀ σ', RE X.K n r H v' σ' → (∀ vs : List Nat, (∀ i ∈ is, i ∈ vs) → L2.wipe σ' vs = L2.wipe σ vs) → Q σ' H) → gNms is xs σ H Q ∧ xs.length = is.length
  | [], [], xs, v, v', σ, rx, E, e, h => by
    rw [rx.nil_iff]
    cases e
    exact ⟨⟨rfl, h σ E fun _ _ => rfl⟩, rfl⟩
  | [], _ :: _, _, _, _, _, _, _, e, _ => by cases e
  | _ :: _, [], _, _, _, _, _, _, e, _ => by cases e
  | i :: is, w :: ws, xs, v, v', σ, rx, E, e, h => by
    obtain ⟨x, ys, rfl, r1, r2⟩ := rx.cons_iff
    have ih := gNms_run (Q := Q) r2 (E.set r1 i) e fun σ' E' hw => h σ' E' fun vs hv => ?_
    · exact ⟨⟨x, ys, rfl, ih.1⟩, by simp [ih.2]⟩
    · rw [hw vs fun j hj => hv j (List.mem_cons_of_mem _ hj)]
      exact wipe_set (hv i List.mem_cons_self)
where
  wipe_set {σ : St} {i : Nat} {y : Option V} : ∀ {vs : List Nat}, i ∈ vs → L2.wipe (σ.set i y) vs = L2.wipe σ vs
  | j :: vs, h => by
    unfold L2.wipe
    by_cases e : i ∈ vs
    · rw [wipe_set e]
    · have : i = j := by
        rcases List.mem_cons.mp h with z | z
        · exact z
        · exact absurd z e
      subst this
      exact wipe_none i y vs
  wipe_none (i : Nat) (y : Option V) : ∀ {σ : St} (vs : List Nat), (L2.wipe (σ.set i y) vs).set i none = (L2.wipe σ vs).set i none
  | σ, [] => by
    show (σ.set i y).set i none = σ.set i none
    rw [List.set_set]
  | σ, j :: vs => by
    unfold L2.wipe
    by_cases e : j = i
    · subst e
      rw [List.set_set, List.set_set]
      exact wipe_none j y vs
    · rw [List.set_comm _ _ e, wipe_none i y vs, List.set_comm _ _ (Ne.symm e)]
theorem gTg_run {n : Nat} {r : Nat → Addr} {H : Hp} {Q : St → Hp → Prop} {tg : Tg} {w : W} {x : V} {v v' : Env} {σ : St} (rx : RV X.K n r H w x) (E : RE X.K n r H v σ) (e : setTg tg w v = some v') (h : ∀ σ', RE X.K n r H v' σ' → (∀ vs : List Nat, (∀ i ∈ tg.sl, i ∈ vs) → L2.wipe σ' vs = L2.wipe σ vs) → Q σ' H) :
    gTg X.K tg x σ H Q := by
  cases tg with
  | nm i =>
    cases e
    exact h _ (E.set rx i) fun vs hv => gNms_run.wipe_set (hv i List.mem_cons_self)
  | tp is =>
    cases w <;> first
      | cases e
      | skip
    rename_i ws
    unfold RV at rx
    obtain ⟨a, vs, rfl, q, l⟩ := rx
    obtain ⟨h1, h2⟩ := gNms_run (Q := Q) l E e h
    exact ⟨a, vs, rfl, q, h2, h1⟩
end
end BL
set_option Elab.async false
set_option linter.all false
set_option maxRecDepth 100000
set_option maxHeartbeats 1000000
/-! BL16: comprehensions; the block's context. -/
namespace BL
open PySem L2
abbrev WxF : WX := fun _ _ _ _ => False
section
variable {X : Cx} {G : Sg} {cf : Cf} {L : Nat} {Wx : WX} {pos p apos : Pos}
theorem Gd.blk (D : Gd X G cf L Wx) (s : Shared) (H : Hp) (scope : Scope) (cenv : PySem.Env) (fp : List Addr) : Gd (X.blk s H scope cenv fp) G cf L WxF where
  calm := D.calm
  nd := D.nd
  room := D.room
  tk := fun u s' ⟨a, B, sI, pins, σ, H, cls, d, e, I, nb, up, sky, na, os, ag, w⟩ => w.elim
  fns := ⟨fun k fd e => by
    obtain ⟨dat, S⟩ := D.fns.at_ k fd e
    exact ⟨dat, ⟨S.fn, S.pl, S.df, S.kp, S.lt⟩⟩⟩
  st := D.st
/-! ### targets, written -/
/-- a name that may be stored: its slot, its kind -/
def mtN (N : List Str) (sc : Scope) (fn : Str → Bool) (i : Nat) (y : Expr) : Bool := match y with
  | .Name x _ => decide (N[i]? = some x) && (match sc.names.lookup x with
    | some .local => true
    | some .cell => fn x
    | _ => false)
  | _ => false
def mtNs (N : List Str) (sc : Scope) (fn : Str → Bool) : List Nat → List Expr → Bool
  | [], [] => true
  | i :: is, y :: ys => mtN N sc fn i y && mtNs N sc fn is ys
  | _, _ => false
def mtTg (N : List Str) (sc : Scope) (fn : Str → Bool) (tg : Tg) (y : Expr) : Bool := match tg with
  | .nm i => mtN N sc fn i y
  | .tp is => (match y with
    | .Tuple ys _ _ => mtNs N sc fn is ys
    | _ => false)
theorem r_name {i : Nat} {y : Expr} (nd : X.N.Nodup) (h : mtN X.N X.env.scope X.fn i y = true) : PG X y (gName i) := by
  unfold mtN at h
  split at h
  · rw [Bool.and_eq_true, decide_eq_true_eq] at h
    obtain ⟨h1, h2⟩ := h
    split at h2
    · rename_i e
      exact pg_name nd h1 (.inl e) (.inr e)
    · rename_i e
      exact pg_name nd h1 (.inr e) (.inl h2)
    · cases h2
  · cases h
theorem mtN_name {N : List Str} {sc : Scope} {fn : Str → Bool} {i : Nat} {y : Expr} (h : mtN N sc fn i y = true) : ∃ x p, y = .Name x p := by
  unfold mtN at h
  split at h
  · exact ⟨_, _, rfl⟩
  · cases h
theorem r_names (nd : X.N.Nodup) : ∀ {is : List Nat} {ys : List Expr}, mtNs X.N X.env.scope X.fn is ys = true → PGs X ys (gNms is) ∧ (assignEach ys X.env).length = is.length ∧ (assignEach ys X.env).findIdx? (·.1) = none
  | [], [], _ => ⟨pgs_nil, rfl, rfl⟩
  | [], _ :: _, h => by cases h
  | _ :: _, [], h => by cases h
  | i :: is, y :: ys, h => by
    unfold mtNs at h
    rw [Bool.and_eq_true] at h
    obtain ⟨x, p, rfl⟩ := mtN_name h.1
    obtain ⟨h1, h2, h3⟩ := r_names nd h.2
    refine ⟨pgs_cons (r_name nd h.1) h1 rfl, ?_, ?_⟩
    · show (assignEach ys X.env).length + 1 = _
      rw [h2]; rfl
    · show ((false, assign (.Name x p) X.env) :: assignEach ys X.env).findIdx? (·.1) = none
      rw [List.findIdx?_cons, h3]
      rfl
theorem r_tg {tg : Tg} {y : Expr} (hc : X.calm = true) (nd : X.N.Nodup) (h : mtTg X.N X.env.scope X.fn tg y = true) : PG X y (gTg X.K tg) := by
  cases tg with
  | nm i => exact r_name nd h
  | tp is =>
    unfold mtTg at h
    dsimp only at h
    split at h
    · obtain ⟨h1, h2, h3⟩ := r_names nd h
      exact pg_tup hc h1 h2 h3
    · cases h
/-! ### the tests of a comprehension -/
def SdT (X : Cx) (G : Sg) (qs : S3s) (xs : List Expr) : Prop := (qs = [] ∧ xs = []) ∨ ∃ b q x, qs = [(b, q)] ∧ xs = [x] ∧ PT X x (tB' X G WxF q.tst)
theorem SdT.pts {qs : S3s} {xs : List Expr} (h : SdT X G qs xs) : PTs X xs (tB' X G WxF fun v => evTs qs v) := by
  rcases h with ⟨rfl, rfl⟩ | ⟨b, q, x, rfl, rfl, h⟩
  · refine ⟨fun pins s σ H Q I hq => pts_nil.run pins s σ H Q I ?_⟩
    obtain ⟨C, r, v, R, E, hw⟩ := hq
    exact Post.here (RA := RelB) R rfl hw
  · refine ⟨fun pins s σ H Q I hq => (pts_one h).run pins s σ H Q I ?_⟩
    obtain ⟨C, r, v, R, E, hw⟩ := hq
    have hw : (((q.tst v).bind fun b => bif b then M.pure true else M.pure false) C).wp (Post X.K G RelB WxF σ C r H Q) := hw
    have := tl_intro (Q1 := Q) (RA := RelB) R E hw fun C1 r1 H1 a b R1 X1 ra q => by
      cases (show a = b from ra)
      cases a with
      | true => exact Post.here (RA := RelB) R1 rfl q
      | false => exact Post.here (RA := RelB) R1 rfl q
    exact this
/-- what the logical heap doesn't know may change -/
theorem Rep.foreign {K : PySem.W.Frag} {C : Hc} {r : Nat → Addr} {H : Hp} {p : Addr} {u u' : HO} (R : Rep K G r C H) (hn : ∀ i, i < C.next → r i ≠ p) (hp : H p = some u) (hi : immO u = false) : Rep K G r C (upd H p u') := by
  have tp : Imm H (upd H p u') := imm_upd (fun z e => by rw [hp] at e; cases e; exact hi)
  refine ⟨R.inj, fun i hi => ?_⟩
  obtain ⟨o, e, q⟩ := R.obj i hi
  exact ⟨o, e, RO.mono (Nat.le_refl _) (fun _ _ => rfl) tp (upd_ne (hn i hi)) o q⟩
/-- a list that the logical heap takes over -/
theorem Rep.adopt {K : PySem.W.Frag} {C : Hc} {r : Nat → Addr} {H : Hp} {p : Addr} {ws : List W} {vs : List V} (R : Rep K G r C H) (hn : ∀ i, i < C.next → r i ≠ p) (hp : H p = some (.lst vs)) (rv : RVs K C.next r H ws vs) : Rep K G (at1 r C.next p) (C.new (.lst ws)) H := by
  refine ⟨fun i j hi hj e => ?_, fun i hi => ?_⟩
  · have hi : i < C.next + 1 := hi
    have hj : j < C.next + 1 := hj
    by_cases i1 : i = C.next
    · by_cases j1 : j = C.next
      · omega
      · rw [i1, at1_self, at1_lt (show j < C.next by omega)] at e
        exact absurd e.symm (hn j (by omega))
    · by_cases j1 : j = C.next
      · rw [j1, at1_self, at1_lt (show i < C.next by omega)] at e
        exact absurd e (hn i (by omega))
      · rw [at1_lt (show i < C.next by omega), at1_lt (show j < C.next by omega)] at e
        exact R.inj i j (by omega) (by omega) e
  · have hi : i < C.next + 1 := hi
    rw [Hc.get_new]
    by_cases i1 : i = C.next
    · subst i1
      refine ⟨_, if_pos rfl, vs, ?_, ?_⟩
      · rw [at1_self]; exact hp
      · exact RVs.mono (Nat.le_succ _) (fun j hj => at1_lt hj) (fun _ _ e _ => e) ws vs rv
    · have hi' : i < C.next := by omega
      obtain ⟨o', e, h⟩ := R.obj i hi'
      refine ⟨o', by rw [if_neg i1]; exact e, ?_⟩
      rw [at1_lt hi']
      exact RO.mono (Nat.le_succ _) (fun j hj => at1_lt hj) (fun _ _ e _ => e) rfl o' h
theorem wipe_wipe {σ : St} {vs : List Nat} : ∀ {us : List Nat}, (∀ i ∈ us, i ∈ vs) → L2.wipe (L2.wipe σ us) vs = L2.wipe σ vs
  | [], _ => rfl
  | i :: us, h => by
    show L2.wipe ((L2.wipe σ us).set i none) vs = _
    rw [gNms_run.wipe_set (h i List.mem_cons_self)]
    exact wipe_wipe fun j hj => h j (List.mem_cons_of_mem _ hj)
/-- [elt for tg in iter if ..] -/
theorem comp_t {tg : Tg} {own : List Nat} {fi : Env → M It'} {fc : Env → M Bool} {fe : Env → M W} (hown : ∀ i ∈ tg.sl, i ∈ own) : ∀ σ H Q, tV X G Wx (fun v => (fi v).bind fun J => ((compL fc fe tg J (wipeE v own) FUEL 0).nox).bind fun ys => M.new (.lst ys)) σ H Q →
    tLc (tI' X G Wx fi) (gTg X.K tg) (tB' X G WxF fc) (tV X G WxF fe) own σ H Q := fun σ H Q hq => by
  obtain ⟨C, r, v, R, E, hw⟩ := hq
  refine tl_intro R E hw fun C1 r1 H1 J' J R1 X1 rJ q => ?_
  intro Da hDa
  have E1 := E.ext R X1
  have q := wp_nox.mp q
  obtain ⟨R2, X2⟩ := R1.fresh (u := .lst []) hDa
  have nD : ∀ i, i < C1.next → r1 i ≠ Da := fun i hi e => by
    obtain ⟨u, eu, _⟩ := R1.at hi
    rw [e, hDa] at eu; cases eu
  let Pq : List W → XR (List W) → Prop := fun acc x => match x with
    | .ok ys C' => ∀ r' H' vs', Rep X.K G r' C' H' → Ext C1 C' r1 r' H1 H' → H' Da = some (.lst vs') → (∀ j, j < C'.next → r' j ≠ Da) → RVs X.K C'.next r' H' (acc ++ ys) vs' → Q (.ref Da) H'
    | .exc _ _ => False
  refine ⟨fun i m H3 => ∃ C3 r3 acc vacc, Rep X.K G r3 C3 H3 ∧ Ext C1 C3 r1 r3 H1 H3 ∧ H3 Da = some (.lst vacc) ∧ (∀ j, j < C3.next → r3 j ≠ Da) ∧ RVs X.K C3.next r3 H3 acc vacc ∧ acc.length + m ≤ FUEL ∧ (compL fc fe tg J' (wipeE v own) m i C3).wp (Pq acc),
    ⟨FUEL, C1, r1, [], [], R2, X2, upd_same, nD, .nil, by simp, Tr.wp_mono (fun x hx => ?_) q⟩, ?_⟩
  · cases x with
    | exc _ _ => exact hx
    | ok ys C4 =>
      intro r4 H4 vs4 R4 X4 h4 n4 rv4
      rw [List.nil_append] at rv4
      have hx : Post X.K G (RelW X.K) Wx σ C1 r1 H1 Q (.ok (.ref C4.next) (C4.new (.lst ys))) := hx
      have R5 := R4.adopt n4 h4 rv4
      refine hx _ H4 _ R5 ⟨Nat.le_trans X4.nx (Nat.le_succ _), fun i hi => (at1_lt (Nat.lt_of_lt_of_le hi X4.nx)).trans (X4.rho i hi), X4.frm, fun i hi1 hi2 => ?_⟩ ?_
      · have hi2 : i < C4.next + 1 := hi2
        by_cases e : i = C4.next
        · subst e
          rw [at1_self]; exact hDa
        · rw [at1_lt (by omega)]
          exact X4.new i hi1 (by omega)
      · show RV X.K (C4.next + 1) _ H4 (.ref C4.next) (.ref Da)
        unfold RV
        exact ⟨Nat.lt_succ_self _, by rw [at1_self]⟩
  rintro i m H3 ⟨C3, r3, acc, vacc, R3, X3, h3, n3, rv3, hm, hw3⟩
  cases m with
  | zero => exact hw3.elim
  | succ m =>
    unfold compL at hw3
    have hw3 := wp_bindM.mp hw3
    obtain ⟨o, hp, hit⟩ := rJ C3 r3 H3 X3.nx X3.rho (X3.imm R1) R3 i _ hw3
    cases o with
    | none => exact .inl ⟨hit, hp r3 H3 vacc R3 X3 h3 n3 (by rw [List.append_nil]; exact rv3)⟩
    | some w =>
      refine .inr ⟨hit.1, fun H' => ∃ C' r' acc' vacc', Rep X.K G r' C' H' ∧ Ext C1 C' r1 r' H1 H' ∧ H' Da = some (.lst vacc') ∧ (∀ j, j < C'.next → r' j ≠ Da) ∧ RVs X.K C'.next r' H' acc' vacc' ∧ acc'.length + m ≤ FUEL ∧ (compL fc fe tg J' (wipeE v own) m (i + 1) C').wp (Pq acc'), fun H' h => ⟨m, Nat.lt_succ_self _, h⟩, fun x H4 hy => ?_⟩
      obtain ⟨R4, X4, rx⟩ := hit.2 x H4 hy
      -- what a step keeps of the list that grows
      have keep : ∀ {C5 r5 H5 H0 C0 r0}, Rep X.K G r5 C5 H5 → Ext C0 C5 r0 r5 H0 H5 → H0 Da = some (.lst vacc) → (∀ j, j < C0.next → r0 j ≠ Da) → H5 Da = some (.lst vacc) ∧ ∀ j, j < C5.next → r5 j ≠ Da := fun {C5 r5 H5 H0 C0 r0} R5 X5 h0 n0 => by
        refine ⟨X5.frm _ _ h0 n0, fun j hj e => ?_⟩
        by_cases hj0 : j < C0.next
        · rw [X5.rho j hj0] at e
          exact n0 j hj0 e
        · have := X5.new j (Nat.not_lt.mp hj0) hj
          rw [e, h0] at this
          cases this
      have X14 := X3.trans X4 R4.inj
      obtain ⟨h4, n4⟩ := keep R4 X4 h3 n3
      obtain ⟨v', ev, hp⟩ := wp_opt.mp hp
      have E4 : RE X.K C3.next r3 H4 (wipeE v own) (L2.wipe σ own) := (E1.ext R1 X14).wipe own
      refine gTg_run rx E4 ev fun σ' E' hwp => ⟨(hwp own hown).trans (wipe_wipe fun _ h => h), ?_⟩
      refine ⟨C3, r3, v', R4, E', Tr.wp_mono (fun y hy => ?_) (wp_bindM.mp hp)⟩
      cases y with
      | exc _ _ => exact hy.elim
      | ok b C5 =>
        intro r5 H5 b' R5 X5 eb
        cases (show b = b' from eb)
        have X15 := X14.trans X5 R5.inj
        obtain ⟨h5, n5⟩ := keep R5 X5 h4 n4
        have X35 := X4.trans X5 R5.inj
        cases b with
        | false =>
          rw [if_neg Bool.false_ne_true]
          exact ⟨C5, r5, acc, vacc, R5, X15, h5, n5, RVs.ext R3 X35 rv3, by omega, hy⟩
        | true =>
          rw [if_pos rfl]
          refine ⟨C5, r5, v', R5, E'.ext R4 X5, Tr.wp_mono (fun y hy => ?_) (wp_bindM.mp hy)⟩
          cases y with
          | exc _ _ => exact hy.elim
          | ok w2 C6 =>
            intro r6 H6 z R6 X6 rz
            obtain ⟨h6, n6⟩ := keep R6 X6 h5 n5
            have X16 := X15.trans X6 R6.inj
            have rv6 := RVs.ext R3 (X35.trans X6 R6.inj) rv3
            have hlen := rv6.length
            refine ⟨vacc, h6, ?_, C6, r6, acc ++ [w2], vacc ++ [z], R6.foreign n6 h6 rfl, ⟨X16.nx, X16.rho, fun a o e hf => ?_, X16.new⟩, upd_same, n6, ?_, ?_, ?_⟩
            · rw [sizeLine_eq, ← hlen]
              have : FUEL = 1000000 := rfl
              omega
            · rw [upd_ne (ne_of_none e hDa)]
              exact X16.frm a o e hf
            · have tp : Imm H6 (upd H6 Da (.lst (vacc ++ [z]))) := imm_upd (fun u e => by rw [h6] at e; cases e; rfl)
              exact (RVs.mono (Nat.le_refl _) (fun _ _ => rfl) tp _ _ rv6).append (.cons (RV.mono (Nat.le_refl _) (fun _ _ => rfl) tp _ _ rz) .nil)
            · rw [List.length_append, List.length_singleton]
              omega
            · refine Tr.wp_mono (fun y hy => ?_) (wp_bindM.mp hy)
              cases y with
              | exc _ _ => exact hy
              | ok ys C7 =>
                intro r7 H7 vs7 R7 X7 h7 n7 rv7
                rw [List.append_assoc] at rv7
                have hy : Pq acc (.ok (w2 :: ys) C7) := hy
                exact hy r7 H7 vs7 R7 X7 h7 n7 rv7
end
end BL
set_option Elab.async false
set_option linter.all false
set_option maxRecDepth 100000
set_option maxHeartbeats 1000000
/-! BL17: statements. -/
namespace BL
open PySem L2
section
variable (K : PySem.W.Frag) (G : Sg)
def PostS (Wx : WX) (D : Ends) (C : Hc) (r : Nat → Addr) (H : Hp) : XF → Prop
  | .nx v' C' => ∀ r' H' σ', Rep K G r' C' H' → Ext C C' r r' H H' → RE K C'.next r' H' v' σ' → D.nx σ' H'
  | .rt w C' => ∀ r' H' x, Rep K G r' C' H' → Ext C C' r r' H H' → RV K C'.next r' H' w x → D.rt x H'
  | .br v' C' => ∀ r' H' σ', Rep K G r' C' H' → Ext C C' r r' H H' → RE K C'.next r' H' v' σ' → D.bk σ' H'
  | .ct v' C' => ∀ r' H' σ', Rep K G r' C' H' → Ext C C' r r' H H' → RE K C'.next r' H' v' σ' → D.ct σ' H'
  | .exc x v' C' => ∀ r' H' σ' d l, Rep K G r' C' H' → Ext C C' r r' H H' → RE K C'.next r' H' v' σ' → H' d = some (.xd l) → RFs K G C'.next r' H' x.fs l → Wx (.ref (cAd K G x.cls)) (some d) σ' H'
def tls (Wx : WX) (m : Env → Hc → Tr XF) : TS := fun D σ H => ∃ C r v, Rep K G r C H ∧ RE K C.next r H v σ ∧ (m v C).wp (PostS K G Wx D C r H)
end
section
variable {K : PySem.W.Frag} {G : Sg} {Wx : WX} {D : Ends} {σ : St} {C C1 : Hc} {r r1 : Nat → Addr} {H H1 : Hp}
theorem PostS.shift (X : Ext C C1 r r1 H H1) : ∀ {x : XF}, PostS K G Wx D C r H x → PostS K G Wx D C1 r1 H1 x
  | .nx v' C', h => fun r' H' σ' R' X' E' => h r' H' σ' R' (X.trans X' R'.inj) E'
  | .rt w C', h => fun r' H' x R' X' E' => h r' H' x R' (X.trans X' R'.inj) E'
  | .br v' C', h => fun r' H' σ' R' X' E' => h r' H' σ' R' (X.trans X' R'.inj) E'
  | .ct v' C', h => fun r' H' σ' R' X' E' => h r' H' σ' R' (X.trans X' R'.inj) E'
  | .exc x v' C', h => fun r' H' σ' d l R' X' E' => h r' H' σ' d l R' (X.trans X' R'.inj) E'
/-- a term ahead of a statement's rest -/
theorem tls_intro {α β : Type} {RA : Rl α β} {m : Env → M α} {k : α → Hc → Tr XF} {v : Env} {Q1 : β → Hp → Prop} (R : Rep K G r C H) (E : RE K C.next r H v σ) (hw : (upS (m v) v k C).wp (PostS K G Wx D C r H))
    (h : ∀ C1 r1 H1 a b, Rep K G r1 C1 H1 → Ext C C1 r r1 H H1 → RA C1.next r1 H1 a b → (k a C1).wp (PostS K G Wx D C1 r1 H1) → Q1 b H1) : tl K G RA Wx m σ H Q1 := by
  unfold upS at hw
  refine ⟨C, r, v, R, E, Tr.wp_mono (fun x hx => ?_) (Tr.wp_bind.mp hw)⟩
  cases x with
  | ok a C1 => exact fun r1 H1 b R1 X1 ra => h C1 r1 H1 a b R1 X1 ra (Tr.wp_mono (fun _ z => PostS.shift X1 z) hx)
  | exc x C1 =>
    have hx : PostS K G Wx D C r H (.exc x v C1) := hx
    exact fun r' H' d l R' X' hd hf => hx r' H' σ d l R' X' (E.ext R X') hd hf
theorem PostS.here {v : Env} (R : Rep K G r C H) (E : RE K C.next r H v σ) (h : PostS K G Wx D C r H (.nx v C)) : D.nx σ H := h r H σ R .refl E
end
section
variable {X : Cx} {G : Sg} {cf : Cf} {L : Nat} {Wx : WX} {pos p apos : Pos}
abbrev tS' (X : Cx) (G : Sg) (Wx : WX) (m : Env → Hc → Tr XF) : TS := tls X.K G Wx m
theorem s_asg {tg : Tg} {f : Env → M W} : ∀ D σ H, tS' X G Wx (fun v C => upS (f v) v (fun w C1 => match setTg tg w v with
    | some v' => .ret (.nx v' C1)
    | none => .no) C) D σ H → tAsg (tV X G Wx f) (gTg X.K tg) D σ H := fun D σ H hq => by
  obtain ⟨C, r, v, R, E, hw⟩ := hq
  refine tls_intro R E hw fun C1 r1 H1 a b R1 X1 ra q => ?_
  cases e : setTg tg a v with
  | none => simp only [e] at q; exact q.elim
  | some v' =>
    simp only [e] at q
    exact gTg_run ra (E.ext R X1) e fun σ' E' _ => PostS.here R1 E' q
/-- what is no comprehension -/
def noComp : Expr → Bool
  | .ListComp .. => false
  | .SetComp .. => false
  | .DictComp .. => false
  | _ => true
theorem noComp_sw {e : Expr} {t : Option Expr} {l : Nat} {env : PySem.Env} (h : noComp e = true) : swapsWith e t l env = pure false := by
  cases e <;> first
    | rfl
    | cases h
def isTupE : Expr → Bool
  | .Tuple .. => true
  | _ => false
theorem noTup_sw {tg e : Expr} {env : PySem.Env} (h : isTupE e = false) : swappedStores [tg] e env = pure none := by
  cases e <;> first
    | (cases tg <;> rfl)
    | cases h
theorem assign1 {tg : Expr} {N : List Str} {sc : Scope} {fn : Str → Bool} {t : Tg} {env : PySem.Env} (h : mtTg N sc fn t tg = true) : (assignEach [tg] env).map (·.2) = [assign tg env] := by
  cases t with
  | nm i => obtain ⟨x, p, rfl⟩ := mtN_name h; rfl
  | tp is =>
    unfold mtTg at h
    dsimp only at h
    split at h
    · rfl
    · cases h
/-- target = value, neither a comprehension nor a pair -/
theorem r_asg {tg : Tg} {t x : Expr} {f : Env → M W} (hc : X.calm = true) (nd : X.N.Nodup) (ht : mtTg X.N X.env.scope X.fn tg t = true) (hx : PE X x (tV X G Wx f)) (h1 : noComp x = true) (h2 : isTupE x = false) :
    PS X (.Assign [t] x pos) (tS' X G Wx fun v C => upS (f v) v (fun w C1 => match setTg tg w v with
    | some v' => .ret (.nx v' C1)
    | none => .no) C) :=
  (ps_asg hx (r_tg hc nd ht) (noComp_sw h1) (noTup_sw h2) (assign1 ht)).imp s_asg
/-- name = a tuple -/
theorem r_asgT {i : Nat} {t x : Expr} {f : Env → M W} (hc : X.calm = true) (nd : X.N.Nodup) (ht : mtN X.N X.env.scope X.fn i t = true) (hx : PE X x (tV X G Wx f)) (h1 : noComp x = true) :
    PS X (.Assign [t] x pos) (tS' X G Wx fun v C => upS (f v) v (fun w C1 => match setTg (.nm i) w v with
    | some v' => .ret (.nx v' C1)
    | none => .no) C) := by
  refine (ps_asg hx (r_tg (tg := .nm i) hc nd ht) (noComp_sw h1) ?_ (assign1 (t := .nm i) ht)).imp (s_asg (tg := .nm i) (f := f))
  obtain ⟨y, p, rfl⟩ := mtN_name ht
  rfl
theorem s_expr {f : Env → M W} : ∀ D σ H, tS' X G Wx (fun v C => upS (f v) v (fun _ C1 => .ret (.nx v C1)) C) D σ H → tDrop (tV X G Wx f) D σ H := fun D σ H hq => by
  obtain ⟨C, r, v, R, E, hw⟩ := hq
  exact tls_intro R E hw fun C1 r1 H1 a b R1 X1 ra q => PostS.here R1 (E.ext R X1) q
theorem r_expr {x : Expr} {f : Env → M W} (hx : PE X x (tV X G Wx f)) (h1 : noComp x = true) : PS X (.Expr x pos) (tS' X G Wx fun v C => upS (f v) v (fun _ C1 => .ret (.nx v C1)) C) :=
  (ps_expr hx (noComp_sw h1)).imp s_expr
theorem r_ret {x : Expr} {f : Env → M W} (hx : PE X x (tV X G Wx f)) : PS X (.Return (some x) pos) (tS' X G Wx fun v C => upS (f v) v (fun w C1 => .ret (.rt w C1)) C) := by
  refine (ps_ret hx).imp fun D σ H hq => ?_
  obtain ⟨C, r, v, R, E, hw⟩ := hq
  exact tls_intro R E hw fun C1 r1 H1 a b R1 X1 ra q => q r1 H1 b R1 .refl ra
theorem r_retN : PS X (.Return none pos) (tS' X G Wx fun _ C => .ret (.rt .non C)) := by
  refine ps_retN.imp fun D σ H hq => ?_
  obtain ⟨C, r, v, R, E, hw⟩ := hq
  exact hw r H _ R .refl (by unfold RV; rfl)
theorem r_pass : PS X (.Pass pos) (tS' X G Wx fun v C => .ret (.nx v C)) := by
  refine ps_pass.imp fun D σ H hq => ?_
  obtain ⟨C, r, v, R, E, hw⟩ := hq
  exact hw r H _ R .refl E
theorem r_brk : PS X (.Break pos) (tS' X G Wx fun v C => .ret (.br v C)) := by
  refine ps_break.imp fun D σ H hq => ?_
  obtain ⟨C, r, v, R, E, hw⟩ := hq
  exact hw r H _ R .refl E
theorem r_cont : PS X (.Continue pos) (tS' X G Wx fun v C => .ret (.ct v C)) := by
  refine ps_continue.imp fun D σ H hq => ?_
  obtain ⟨C, r, v, R, E, hw⟩ := hq
  exact hw r H _ R .refl E
theorem r_never {st : Stmt} : PS X st (tS' X G Wx fun _ _ => .no) := by
  refine ps_never.imp fun D σ H hq => ?_
  obtain ⟨C, r, v, R, E, hw⟩ := hq
  exact hw
theorem r_snil : PSs X [] (tS' X G Wx fun v C => .ret (.nx v C)) := by
  refine pss_nil.imp fun D σ H hq => ?_
  obtain ⟨C, r, v, R, E, hw⟩ := hq
  exact hw r H _ R .refl E
theorem s_seq {a b : Env → Hc → Tr XF} : ∀ D σ H, tS' X G Wx (fun v C => (a v C).bind fun q => match q with
    | .nx v' C' => b v' C'
    | q => .ret q) D σ H → tSeq (tS' X G Wx a) (tS' X G Wx b) D σ H := fun D σ H hq => by
  obtain ⟨C, r, v, R, E, hw⟩ := hq
  refine ⟨C, r, v, R, E, Tr.wp_mono (fun x hx => ?_) (Tr.wp_bind.mp hw)⟩
  cases x with
  | nx v' C' => exact fun r' H' σ' R' X' E' => ⟨C', r', v', R', E', Tr.wp_mono (fun _ z => PostS.shift X' z) hx⟩
  | rt w C' => exact hx
  | br v' C' => exact hx
  | ct v' C' => exact hx
  | exc x v' C' => exact hx
theorem r_scons {st : Stmt} {sts : List Stmt} {a b : Env → Hc → Tr XF} (h1 : PS X st (tS' X G Wx a)) (h2 : PSs X sts (tS' X G Wx b)) : PSs X (st :: sts) (tS' X G Wx fun v C => (a v C).bind fun q => match q with
    | .nx v' C' => b v' C'
    | q => .ret q) := (pss_cons h1 h2).imp s_seq
theorem r_ife {c : Expr} {as bs : List Stmt} {k : Env → M Bool} {a b : Env → Hc → Tr XF} (hc : PT X c (tB' X G Wx k)) (h1 : PSs X as (tS' X G Wx a)) (h2 : PSs X bs (tS' X G Wx b)) :
    PS X (.If c as bs pos) (tS' X G Wx fun v C => upS (k v) v (fun r C1 => bif r then a v C1 else b v C1) C) := by
  refine (ps_if hc h1 h2).imp fun D σ H hq => ?_
  obtain ⟨C, r, v, R, E, hw⟩ := hq
  refine tls_intro R E hw fun C1 r1 H1 a b R1 X1 ra q => ?_
  cases (show a = b from ra)
  cases a with
  | true => rw [if_pos rfl]; exact ⟨C1, r1, v, R1, E.ext R X1, q⟩
  | false => rw [if_neg Bool.false_ne_true]; exact ⟨C1, r1, v, R1, E.ext R X1, q⟩
theorem r_whl {c : Expr} {as : List Stmt} {k : Env → M Bool} {a : Env → Hc → Tr XF} (hp : PassesOwn (model X.prog X.w) X.A X.env X.xe) (hc : PT X c (tB' X G Wx k)) (h1 : PSs X as (tS' X G Wx a)) : PS X (.While c as [] pos) (tS' X G Wx fun v C => whileL k a FUEL v C) := by
  refine (ps_while hp hc h1).imp fun D σ H hq => ?_
  obtain ⟨C, r, v, R, E, hw⟩ := hq
  refine ⟨fun m σ H => ∃ C r v, Rep X.K G r C H ∧ RE X.K C.next r H v σ ∧ (whileL k a m v C).wp (PostS X.K G Wx D C r H), ⟨FUEL, C, r, v, R, E, hw⟩, ?_⟩
  rintro m σ1 H1 ⟨C1, r1, v1, R1, E1, hw1⟩
  cases m with
  | zero => exact hw1.elim
  | succ m =>
    refine ⟨C1, r1, v1, R1, E1, Tr.wp_mono (fun x hx => ?_) (Tr.wp_bind.mp hw1)⟩
    cases x with
    | exc x C2 =>
      have hx : PostS X.K G Wx D C1 r1 H1 (.exc x v1 C2) := hx
      exact fun r' H' d l R' X' hd hf => hx r' H' σ1 d l R' X' (E1.ext R1 X') hd hf
    | ok b C2 =>
      intro r2 H2 b' R2 X2 eb
      cases (show b = b' from eb)
      have hx := Tr.wp_mono (fun _ z => PostS.shift X2 z) hx
      cases b with
      | false => 
        rw [if_neg Bool.false_ne_true]
        exact PostS.here (Wx := Wx) R2 (E1.ext R1 X2) hx
      | true =>
        rw [if_pos rfl]
        refine ⟨fun σ' H' => ∃ C' r' v', Rep X.K G r' C' H' ∧ RE X.K C'.next r' H' v' σ' ∧ (whileL k a m v' C').wp (PostS X.K G Wx D C' r' H'), fun σ' H' h => ⟨m, Nat.lt_succ_self _, h⟩, ⟨C2, r2, v1, R2, E1.ext R1 X2, Tr.wp_mono (fun y hy => ?_) (Tr.wp_bind.mp hx)⟩⟩
        cases y with
        | nx v' C' => exact fun r' H' σ' R' X' E' => ⟨C', r', v', R', E', Tr.wp_mono (fun _ z => PostS.shift X' z) hy⟩
        | ct v' C' => exact fun r' H' σ' R' X' E' => ⟨C', r', v', R', E', Tr.wp_mono (fun _ z => PostS.shift X' z) hy⟩
        | br v' C' => exact hy
        | rt w C' => exact hy
        | exc x v' C' => exact hy
theorem r_for {tg : Tg} {t it : Expr} {as : List Stmt} {fi : Env → M It'} {a : Env → Hc → Tr XF} (hp : PassesOwn (model X.prog X.w) X.A X.env X.xe) (hc : X.calm = true) (nd : X.N.Nodup) (ht : mtTg X.N X.env.scope X.fn tg t = true) (hi : PI X t it (tI' X G Wx fi)) (h1 : PSs X as (tS' X G Wx a))
    (hs : ∀ x, foldedSetIterable it X.env x = pure x) : PS X (.For t it as [] pos) (tS' X G Wx fun v C => upS (fi v) v (fun J C1 => forL tg J a FUEL 0 v C1) C) := by
  refine (ps_for hp hc hi (r_tg hc nd ht) h1 hs).imp fun D σ H hq => ?_
  obtain ⟨C, r, v, R, E, hw⟩ := hq
  refine tls_intro R E hw fun C1 r1 H1 J' J R1 X1 rJ q => ?_
  refine ⟨fun i m σ H => ∃ C r v, Rep X.K G r C H ∧ RE X.K C.next r H v σ ∧ Ext C1 C r1 r H1 H ∧ (forL tg J' a m i v C).wp (PostS X.K G Wx D C r H), ⟨FUEL, C1, r1, v, R1, E.ext R X1, .refl, q⟩, ?_⟩
  rintro i m σ2 H2 ⟨C2, r2, v2, R2, E2, X2, hw2⟩
  cases m with
  | zero => exact hw2.elim
  | succ m =>
    obtain ⟨o, hp, hit⟩ := rJ C2 r2 H2 X2.nx X2.rho (X2.imm R1) R2 i _ (Tr.wp_bind.mp hw2)
    cases o with
    | none => exact .inl ⟨hit, PostS.here R2 E2 hp⟩
    | some w =>
      refine .inr ⟨hit.1, fun σ' H' => ∃ C' r' v', Rep X.K G r' C' H' ∧ RE X.K C'.next r' H' v' σ' ∧ Ext C1 C' r1 r' H1 H' ∧ (forL tg J' a m (i + 1) v' C').wp (PostS X.K G Wx D C' r' H'), fun σ' H' h => ⟨m, Nat.lt_succ_self _, h⟩, fun x H3 hy => ?_⟩
      obtain ⟨R3, X3, rx⟩ := hit.2 x H3 hy
      cases ev : setTg tg w v2 with
      | none => simp only [ev] at hp; exact hp.elim
      | some v3 =>
        simp only [ev] at hp
        refine gTg_run rx (E2.ext R2 X3) ev fun σ3 E3 _ => ?_
        have hp := Tr.wp_bind.mp hp
        refine ⟨C2, r2, v3, R3, E3, Tr.wp_mono (fun y hy => ?_) hp⟩
        have X13 := X2.trans X3 R3.inj
        cases y with
        | nx v' C' => exact fun r' H' σ' R' X' E' => ⟨C', r', v', R', E', X13.trans X' R'.inj, Tr.wp_mono (fun _ z => PostS.shift (X3.trans X' R'.inj) z) hy⟩
        | ct v' C' => exact fun r' H' σ' R' X' E' => ⟨C', r', v', R', E', X13.trans X' R'.inj, Tr.wp_mono (fun _ z => PostS.shift (X3.trans X' R'.inj) z) hy⟩
        | br v' C' => exact PostS.shift (D := D) (Wx := Wx) X3 (x := .nx v' C') hy
        | rt w C' => exact PostS.shift (D := D) (Wx := Wx) X3 (x := .rt w C') hy
        | exc x v' C' => exact PostS.shift (D := D) (Wx := Wx) X3 (x := .exc x v' C') hy
end
end BL
set_option Elab.async false
set_option linter.all false
set_option maxRecDepth 100000
set_option maxHeartbeats 1000000
/-! BL18: statements (on). -/
namespace BL
open PySem L2
section
variable {X : Cx} {G : Sg} {cf : Cf} {L : Nat} {Wx : WX} {pos p apos : Pos}
theorem swAtt {e o : Expr} {a : Str} {q : Pos} {l : Nat} {env : PySem.Env} : swapsWith e (some (.Attribute o a q)) l env = pure false := by
  cases e <;> rfl
theorem r_fld {o x : Expr} {f : Nat} {fo fx : Env → M W} (D : Gd X G cf L Wx) (ho : PE X o (tV X G Wx fo)) (hx : PE X x (tV X G Wx fx)) :
    PS X (.Assign [.Attribute o (nmS G f) apos] x pos) (tS' X G Wx fun v C => upS ((fx v).bind fun w => (fo v).bind fun y => setF G y f w) v (fun _ C1 => .ret (.nx v C1)) C) := by
  refine (ps_fld ho hx swAtt).imp fun Z σ H hq => ?_
  obtain ⟨C, r, v, R, E, hw⟩ := hq
  unfold upS at hw
  have hw := Tr.wp_bind.mp hw
  have hw : (((fx v).bind fun w => (fo v).bind fun y => setF G y f w) C).wp (Post X.K G (fun _ _ _ (_ : Unit) (_ : Unit) => True) Wx σ C r H fun _ H' => Z.nx σ H') := by
    refine Tr.wp_mono (fun y hy => ?_) hw
    cases y with
    | exc y C1 =>
      have hy : PostS X.K G Wx Z C r H (.exc y v C1) := hy
      exact fun r' H' d l R' X' hd hf => hy r' H' σ d l R' X' (E.ext R X') hd hf
    | ok u C1 => exact fun r' H' _ R' X' _ => hy r' H' σ R' X' (E.ext R X')
  refine tl_intro R E hw fun C1 r1 H1 a b R1 X1 ra q => ?_
  refine tl_intro R1 (E.ext R X1) q fun C2 r2 H2 a2 b2 R2 X2 ra2 q2 => ?_
  have ra := ra.ext R1 X2
  unfold setF at q2
  split at q2
  · obtain ⟨ob, e0, q2⟩ := wp_get.mp q2
    split at q2
    · rename_i c fs
      obtain ⟨hc, q2⟩ := wp_chk.mp q2
      rw [Bool.and_eq_true] at hc
      obtain ⟨hlt, d, hd, hmt⟩ := fldOk_of (D := D) hc.1
      have hl : fs.length < 900 := Nat.le_of_ble_eq_true (show Nat.ble (fs.length + 1) 900 = true from hc.2)
      have S := D.st.cls _ d hd
      have hlt2 := RV.lt ra2
      obtain ⟨dx, l, rfl, hH, rf⟩ := R2.ins ra2 e0
      have rl := rf.length
      refine ⟨_, _, dx, l, rfl, hH, S.cl, S.na f hlt hmt, by omega, ?_⟩
      have rf2 := rf.put D.st.nmd hlt ra
      obtain ⟨R3, X3⟩ := R2.write (ho := .ins (cAd X.K G c) dx (putF (nmS G f) b l)) (o := .ins c (putW f a fs)) hlt2 ⟨dx, _, upd_same, RFs.mono (Nat.le_refl _) (fun _ _ => rfl) (R2.immW hlt2) _ _ rf2⟩
      exact q2 _ _ () R3 X3 trivial
    · exact q2.elim
  · exact q2.elim
/-! ### name = [..] -/
theorem lc_sw {elt : Expr} {gs : List Comprehension} {scope : Scope} {ps py : Pos} {y : Str} {l : Nat} {env : PySem.Env} (hk : env.scope.kind = .function) :
    swapsWith (.ListComp elt gs scope ps) (some (.Name y py)) l env = pure (decide (env.scope.names.lookup y = some .local) && (py.line == ps.line) && !(scope.names.any fun (n, k) => n == y && (k == .local || k == .cell))) := by
  have hb : env.blockKind = .function := by unfold Env.blockKind; rw [hk]; rfl
  have hq : (env.kindOf y == some .local) = decide (env.scope.names.lookup y = some .local) := by
    show (env.scope.names.lookup y == some .local) = _
    rw [Bool.beq_eq_decide_eq]
  unfold swapsWith
  simp only [hb, hq, Expr.pos]
  rfl
theorem r_setLc {i : Nat} {y : Str} {py ps : Pos} {elt tg iter : Expr} {ifs : List Expr} {scope : Scope} {own : List (Str × Nat)} {wi : TI} {g : TG} {tt : TT} {te : TE} (hc : X.calm = true) (hN : X.N.Nodup) (hy : mtN X.N X.env.scope X.fn i (.Name y py) = true)
    (hi : PI X tg iter wi) (ok : BlkOk X.N X.env.scope scope own)
    (hg : ∀ (s : Shared) (H : Hp) (C : Addr) (cl : List (Str × Addr)) (fp : List Addr), PG (X.blk s H scope (compEnvC scope cl C X.env) fp) tg g) (ht : ∀ (s : Shared) (H : Hp) (C : Addr) (cl : List (Str × Addr)) (fp : List Addr), PTs (X.blk s H scope (compEnvC scope cl C X.env) fp) ifs tt)
    (he : ∀ (s : Shared) (H : Hp) (C : Addr) (cl : List (Str × Addr)) (fp : List Addr), PE (X.blk s H scope (compEnvC scope cl C X.env) fp) elt te) (hs : ∀ x, foldedSetIterable iter X.env x = pure x) :
    PS X (.Assign [.Name y py] (.ListComp elt [⟨tg, iter, ifs, 0⟩] scope ps) pos) (tAsg (tLc wi g tt te (own.map (·.2))) (gName i)) := by
  refine ⟨fun pins s σ H D I h => ?_⟩
  have sw := lc_sw (elt := elt) (gs := [⟨tg, iter, ifs, 0⟩]) (scope := scope) (ps := ps) (py := py) (y := y) (l := pos.line) I.ok.kind
  have hy0 := hy
  unfold mtN at hy
  simp only [Bool.and_eq_true, decide_eq_true_eq] at hy
  cases hb : (decide (X.env.scope.names.lookup y = some .local) && (py.line == ps.line) && !(scope.names.any fun (n, k) => n == y && (k == .local || k == .cell))) with
  | true =>
    rw [hb] at sw
    rw [Bool.and_eq_true, Bool.and_eq_true, decide_eq_true_eq] at hb
    exact (ps_setLc hc hN hy.1 hb.1.1 sw hi ok hg ht he hs).run pins s σ H D I h
  | false =>
    rw [hb] at sw
    exact (ps_asg (pe_lc hc hN hi ok hg ht he hs) (r_name hN hy0) sw rfl rfl).run pins s σ H D I h
/-! ### a, b = x, y -/
def swN (kindOf : Str → Option NameKind) (ts vs : List Expr) : Option (Option (List Str)) :=
  if (!(ts.length == 2 || ts.length == 3) || vs.length != ts.length) = true then some none
  else if (vs.any fun | .Starred .. => true | _ => false) = true then some none
  else
    if ((ts.filterMap fun
      | .Name id pos => if (kindOf id == some .local && pos.line == (ts.head?.map (·.pos.line)).getD 0) = true then some id else none
      | _ => none).length != ts.length || (ts.filterMap fun
      | .Name id pos => if (kindOf id == some .local && pos.line == (ts.head?.map (·.pos.line)).getD 0) = true then some id else none
      | _ => none).eraseDups.length != (ts.filterMap fun
      | .Name id pos => if (kindOf id == some .local && pos.line == (ts.head?.map (·.pos.line)).getD 0) = true then some id else none
      | _ => none).length) = true then some none
    else if vs.all (foldedForSure 8) = true then some none
    else if vs.all (constantsAlone 8) = true then none
    else some (some (ts.filterMap fun
      | .Name id pos => if (kindOf id == some .local && pos.line == (ts.head?.map (·.pos.line)).getD 0) = true then some id else none
      | _ => none))
theorem swN_ok {ts vs : List Expr} {k k2 : Nat} {pt pt2 : Pos} {env : PySem.Env} {o : Option (List Str)} (hk : env.scope.kind = .function) (h : swN env.kindOf ts vs = some o) : swappedStores [.Tuple ts k pt] (.Tuple vs k2 pt2) env = pure o := by
  have hb : env.blockKind = .function := by unfold Env.blockKind; rw [hk]; rfl
  unfold swappedStores
  unfold swN at h
  simp only [hb, bne_self_eq_false, Bool.or_false]
  split at h
  · rename_i e
    cases h
    simp only [e, if_true]
  · rename_i e
    simp only [e, if_false]
    split at h
    · rename_i e1
      cases h
      exact if_pos e1
    · rename_i e1
      refine (if_neg e1).trans ?_
      split at h
      · rename_i e2
        cases h
        exact if_pos e2
      · rename_i e2
        refine (if_neg e2).trans ?_
        split at h
        · rename_i e3
          cases h
          exact if_pos e3
        · rename_i e3
          refine (if_neg e3).trans ?_
          split at h
          · cases h
          · rename_i e4
            cases h
            exact if_neg e4
abbrev sPar (is : List Nat) (g : Env → M (List W)) : Env → Hc → Tr XF := fun v C => upS (g v) v (fun ws C1 => match setEs v is ws with
    | some v' => .ret (.nx v' C1)
    | none => .no) C
theorem setEs_len : ∀ {is : List Nat} {ws : List W} {v v' : Env}, setEs v is ws = some v' → is.length = ws.length
  | [], [], _, _, _ => rfl
  | [], _ :: _, _, _, h => by cases h
  | _ :: _, [], _, _, h => by cases h
  | i :: is, w :: ws, v, v', h => congrArg Nat.succ (setEs_len (v := v.set i (some w)) h)
theorem r_par0 {is : List Nat} {ts xs : List Expr} {k k2 : Nat} {pt pt2 : Pos} {g : Env → M (List W)} (hc : X.calm = true) (nd : X.N.Nodup) (ht : mtNs X.N X.env.scope X.fn is ts = true) (ha : PA X xs (tA' X G Wx g)) (hl : Nat.ble is.length 100 = true) (sw : swN (fun n => X.env.scope.names.lookup n) ts xs = some none) :
    PS X (.Assign [.Tuple ts k pt] (.Tuple xs k2 pt2) pos) (tS' X G Wx (sPar is g)) := by
  refine ⟨fun pins s σ H D I h => ?_⟩
  refine (ps_asg (pe_tup ha) (r_tg (tg := .tp is) (y := .Tuple ts k pt) hc nd ht) rfl (swN_ok I.ok.kind sw) rfl).run pins s σ H D I ?_
  obtain ⟨C, r, v, R, E, hw⟩ := h
  refine tls_intro R E hw fun C1 r1 H1 a b R1 X1 ra q => ?_
  cases e : setEs v is a with
  | none => simp only [e] at q; exact q.elim
  | some v' =>
    simp only [e] at q
    have l1 := setEs_len e
    have l2 := RVs.length ra
    refine ⟨?_, fun T hT => ?_⟩
    · rw [sizeLine_eq]
      have := Nat.le_of_ble_eq_true hl
      omega
    · obtain ⟨R2, X2⟩ := R1.fresh (u := .tup b) hT
      obtain ⟨h1, h2⟩ := gNms_run (Q := D.nx) (RVs.ext R1 X2 ra) ((E.ext R X1).ext R1 X2) e fun σ' E' _ => q r1 _ σ' R2 X2 E'
      exact ⟨T, b, rfl, SqT.of upd_same, h2, h1⟩
theorem r_par2 {i j : Nat} {x y : Str} {a b : Expr} {px py pt pt2 : Pos} {k k2 : Nat} {g : Env → M (List W)} (hc : X.calm = true) (nd : X.N.Nodup) (hi : X.N[i]? = some x) (hj : X.N[j]? = some y) (hij : i ≠ j) (hx : X.env.scope.names.lookup x = some .local) (hy : X.env.scope.names.lookup y = some .local)
    (ha : PA X [a, b] (tA' X G Wx g)) (sw : swN (fun n => X.env.scope.names.lookup n) [.Name x px, .Name y py] [a, b] = some (some [x, y])) :
    PS X (.Assign [.Tuple [.Name x px, .Name y py] k pt] (.Tuple [a, b] k2 pt2) pos) (tS' X G Wx (sPar [i, j] g)) := by
  refine ⟨fun pins s σ H D I h => ?_⟩
  refine (ps_par hc nd hi hj hij hx hy ha (swN_ok I.ok.kind sw) rfl).run pins s σ H D I ?_
  obtain ⟨C, r, v, R, E, hw⟩ := h
  refine tls_intro R E hw fun C1 r1 H1 a b R1 X1 ra q => ?_
  match a, q with
  | [], q => exact q.elim
  | [w1], q => exact q.elim
  | [w1, w2], q =>
    obtain ⟨v1, vs1, rfl, r1', t1⟩ := RVs.cons_iff ra
    obtain ⟨v2, rfl, r2'⟩ := RVs.one t1
    exact ⟨v1, v2, rfl, q r1 H1 _ R1 .refl (((E.ext R X1).set r1' i).set r2' j)⟩
  | w1 :: w2 :: w3 :: ws, q => exact q.elim
theorem r_par3 {i j l : Nat} {x y z : Str} {a b c : Expr} {px py pz pt pt2 : Pos} {k k2 : Nat} {g : Env → M (List W)} (hc : X.calm = true) (nd : X.N.Nodup) (hi : X.N[i]? = some x) (hj : X.N[j]? = some y) (hl : X.N[l]? = some z) (hij : i ≠ j) (hil : i ≠ l) (hjl : j ≠ l) (hx : X.env.scope.names.lookup x = some .local) (hy : X.env.scope.names.lookup y = some .local)
    (hz : X.env.scope.names.lookup z = some .local) (ha : PA X [a, b, c] (tA' X G Wx g)) (sw : swN (fun n => X.env.scope.names.lookup n) [.Name x px, .Name y py, .Name z pz] [a, b, c] = some (some [x, y, z])) :
    PS X (.Assign [.Tuple [.Name x px, .Name y py, .Name z pz] k pt] (.Tuple [a, b, c] k2 pt2) pos) (tS' X G Wx (sPar [i, j, l] g)) := by
  refine ⟨fun pins s σ H D I h => ?_⟩
  refine (ps_par3 hc nd hi hj hl hij hil hjl hx hy hz ha (swN_ok I.ok.kind sw) rfl).run pins s σ H D I ?_
  obtain ⟨C, r, v, R, E, hw⟩ := h
  refine tls_intro R E hw fun C1 r1 H1 a b R1 X1 ra q => ?_
  match a, q with
  | [], q => exact q.elim
  | [w1], q => exact q.elim
  | [w1, w2], q => exact q.elim
  | [w1, w2, w3], q =>
    obtain ⟨v1, vs1, rfl, r1', t1⟩ := RVs.cons_iff ra
    obtain ⟨v2, vs2, rfl, r2', t2⟩ := RVs.cons_iff t1
    obtain ⟨v3, rfl, r3'⟩ := RVs.one t2
    exact ⟨v1, v2, v3, rfl, q r1 H1 _ R1 .refl ((((E.ext R X1).set r1' i).set r2' j).set r3' l)⟩
  | w1 :: w2 :: w3 :: w4 :: ws, q => exact q.elim
end
end BL
set_option Elab.async false
set_option linter.all false
set_option maxRecDepth 100000
set_option maxHeartbeats 1000000
/-! BL19: terms held against the text. -/
namespace BL
open PySem L2
/-- what is walked alone by a pair of names -/
def needT : E → Bool
  | .enm _ => true
  | .zip _ _ => true
  | .star e => needT e
  | _ => false
structure Sd3 (X : Cx) (G : Sg) (Wx : WX) (q : S3) (k : Bool) (x : Expr) : Prop where
  val : PE X x (tV X G Wx q.val)
  tst : PT X x (tB' X G Wx q.tst)
  itr : ∀ tg, (k = true → isTupE tg = true) → PI X tg x (tI' X G Wx q.itr)
section
variable {X : Cx} {G : Sg} {cf : Cf} {L : Nat} {Wx : WX} {pos p apos : Pos}
theorem no_val {x : Expr} : PE X x (tV X G Wx fun _ => M.no) := ⟨fun pins s σ H Q I h => by obtain ⟨C, r, v, R, E, hw⟩ := h; exact hw.elim⟩
theorem no_tst {x : Expr} : PT X x (tB' X G Wx fun _ => M.no) := ⟨fun pins s σ H Q I h => by obtain ⟨C, r, v, R, E, hw⟩ := h; exact hw.elim⟩
theorem no_itr {tg x : Expr} : PI X tg x (tI' X G Wx fun _ => M.no) := ⟨fun pins s σ H Q I h => by obtain ⟨C, r, v, R, E, hw⟩ := h; exact hw.elim⟩
theorem Sd3.no {k : Bool} {x : Expr} : Sd3 X G Wx .no k x := ⟨no_val, no_tst, fun _ _ => no_itr⟩
theorem Sd3.only {k : Bool} {x : Expr} {f : Env → M It'} (h : ∀ tg, (k = true → isTupE tg = true) → PI X tg x (tI' X G Wx f)) : Sd3 X G Wx ⟨fun _ => M.no, fun _ => M.no, f⟩ k x := ⟨no_val, no_tst, h⟩
/-- told true or false by its value -/
def plainT : Expr → Bool
  | .UnaryOp .Not _ _ => false
  | .BoolOp .. => false
  | .IfExp .. => false
  | .Compare .. => false
  | _ => true
theorem plainT_eq {x : Expr} {env : PySem.Env} (h : plainT x = true) : ∀ whole, isTrue x env whole = (do let v ← whole; standAt x.pos; holding [v] (truthy v)) := by
  intro whole
  cases x <;> first
    | rfl
    | cases h
    | skip
  rename_i op o ps
  cases op <;> first
    | rfl
    | cases h
theorem Sd3.of {x : Expr} {f : Env → M W} {k : Bool} (h : PE X x (tV X G Wx f)) (hp : plainT x = true) : Sd3 X G Wx (.of f) k x := ⟨h, of_tst h (plainT_eq hp), fun tg _ => r_itr h⟩
theorem Sd3.ofT {x : Expr} {f : Env → M W} {k : Bool} (h : PE X x (tV X G Wx f)) (ht : PT X x (tB' X G Wx fun v => (f v).bind truW)) : Sd3 X G Wx (.of f) k x := ⟨h, ht, fun tg _ => r_itr h⟩
theorem Sd3.sd {q : S3} {k : Bool} {x : Expr} (h : Sd3 X G Wx q k x) : Sd X G Wx q x := ⟨h.val, h.tst⟩
end
/-! ### the text -/
def visB (sc : Scope) (y : Str) : Bool := match sc.names.lookup y with
  | some .local => true
  | some .cell => true
  | some .free => true
  | _ => false
theorem visB_ok {sc : Scope} {y : Str} (h : visB sc y = true) : Vis sc y := by
  unfold visB at h
  split at h
  · exact .inl (by assumption)
  · exact .inr (.inl (by assumption))
  · exact .inr (.inr (by assumption))
  · cases h
def glB (sc : Scope) (y : Str) : Bool := match sc.names.lookup y with
  | some .globalImplicit => true
  | _ => false
theorem glB_ok {X : Cx} {sc : Scope} {y : Str} (hs : X.env.scope = sc) (h : glB sc y = true) : Gl X y := by
  unfold glB at h
  split at h
  · show X.env.scope.names.lookup y = _
    rw [hs]; assumption
  · cases h
def dbg (y : Str) : Bool := !(y == ("__debug__" : Str))
theorem dbg_ok {y : Str} (h : dbg y = true) : (y == ("__debug__" : Str)) = false := by
  unfold dbg at h
  rw [Bool.not_eq_true'] at h
  exact h
def cstB : W → Const → Bool
  | .non, .none => true
  | .bl b, .bool c => b == c
  | .int i, .int j => decide (i = j)
  | .str x, .str y => decide (x = y)
  | _, _ => false
def noSet : Expr → Bool
  | .Set .. => false
  | _ => true
theorem noSet_fold {e : Expr} {env : PySem.Env} (h : noSet e = true) : ∀ x, foldedSetIterable e env x = pure x := by
  intro x
  cases e <;> first
    | rfl
    | cases h
theorem noSet_mark {e : Expr} {op : CmpOp} (h : noSet e = true) : behindInMarks op e = false := by
  cases e <;> first
    | rfl
    | cases h
def plainIx : Expr → Bool
  | .Slice .. => false
  | .Tuple .. => false
  | _ => true
theorem plainIx_ok {e : Expr} (h : plainIx e = true) : PlainIx e := by
  intro o i
  cases e <;> first
    | rfl
    | cases h
theorem r_cst {X : Cx} {G : Sg} {Wx : WX} {w : W} {c : Const} {j : Nat} {p : Pos} (h : cstB w c = true) : PE X (.Constant c j p) (tV X G Wx fun _ => M.pure w) := by
  unfold cstB at h
  split at h
  · exact r_tC pe_non fun _ _ _ => by unfold RV; rfl
  · rename_i b c
    have e : b = c := eq_of_beq h
    subst e
    exact r_tC pe_bl fun _ _ _ => by unfold RV; rfl
  · have e := of_decide_eq_true h
    subst e
    exact r_tC pe_int fun _ _ _ => by unfold RV; rfl
  · have e := of_decide_eq_true h
    subst e
    exact r_tC pe_str fun _ _ _ => by unfold RV; rfl
  · cases h
def fnOf' (scope : Scope) : Str → Bool := fun x => scope.names.lookup x == some .cell
/-- the names of a block within a def's body -/
def relS (sc scope : Scope) : Scope := { scope with names := scope.names.map fun (n, k) => if (k == .free && sc.kind == .function && sc.names.lookup n == some .cell) then (n, .cell) else (n, k) }
def slIn (tg : Tg) (own : List (Str × Nat)) : Bool := tg.sl.all fun i => (own.map (·.2)).contains i
theorem slIn_ok {tg : Tg} {own : List (Str × Nat)} (h : slIn tg own = true) : ∀ i ∈ tg.sl, i ∈ own.map (·.2) := fun i hi => List.contains_iff_mem.mp (List.all_eq_true.mp h i hi)
def isOne : Expr → Bool
  | .UnaryOp .USub (.Constant (.int i) _ _) _ => decide (i = 1)
  | _ => false
def fnKey (G : Sg) (k : Nat) (x : Str) : Bool := match G.fns[k]? with
  | some fd => decide (fd.key = (x, none))
  | none => false
theorem fnKey_ok {G : Sg} {k : Nat} {x : Str} (h : fnKey G k x = true) : ∃ fd, G.fns[k]? = some fd ∧ fd.key = (x, none) := by
  unfold fnKey at h
  split at h
  · rename_i fd e
    exact ⟨fd, e, of_decide_eq_true h⟩
  · cases h
def clKey (G : Sg) (c : Nat) (x : Str) : Bool := match clsP G.cls c with
  | some d => decide (d.name = x) && (match G.fns[d.init]? with
    | some _ => true
    | none => false)
  | none => false
theorem clKey_ok {G : Sg} {c : Nat} {x : Str} (h : clKey G c x = true) : ∃ d fd, clsP G.cls c = some d ∧ d.name = x ∧ G.fns[d.init]? = some fd := by
  unfold clKey at h
  split at h
  · rename_i d e
    rw [Bool.and_eq_true, decide_eq_true_eq] at h
    obtain ⟨h1, h2⟩ := h
    split at h2
    · rename_i fd e2
      exact ⟨d, fd, e, h1, e2⟩
    · cases h2
  · cases h
def cstKey (G : Sg) (k : Nat) (y : Str) : Bool := match G.cst[k]? with
  | some p => decide (p.1 = y)
  | none => false
abbrev Mt := Expr → Bool
def mVar (N : List Str) (sc : Scope) (i : Nat) : Mt
  | .Name y _ => decide (N[i]? = some y) && (visB sc y && (dbg y && !(y == ("__classdict__" : Str))))
  | _ => false
def mCst (w : W) : Mt
  | .Constant c _ _ => cstB w c
  | _ => false
def mGlo (G : Sg) (sc : Scope) (k : Nat) : Mt
  | .Name y _ => cstKey G k y && (glB sc y && dbg y)
  | _ => false
def mTup (f : List Expr → Bool) : Mt
  | .Tuple xs _ _ => f xs
  | _ => false
def mLst (f : List Expr → Bool) : Mt
  | .List xs _ => f xs
  | _ => false
def mBin (op : Operator) (f g : Mt) : Mt
  | .BinOp x o y _ => decide (op = o) && (f x && g y)
  | _ => false
def mCmp (op : CmpOp) (f g : Mt) : Mt
  | .Compare x [o] [y] _ => decide (op = o) && (noSet y && (f x && g y))
  | _ => false
def mCmp2 (o1 o2 : CmpOp) (f g h : Mt) : Mt
  | .Compare x [p1, p2] [y, z] _ => decide (o1 = p1) && (decide (o2 = p2) && (noSet z && (f x && (g y && h z))))
  | _ => false
def mIsN (neg : Bool) (f : Mt) : Mt
  | .Compare x [.Is] [.Constant .none _ _] _ => !neg && f x
  | .Compare x [.IsNot] [.Constant .none _ _] _ => neg && f x
  | _ => false
def mNot (f : Mt) : Mt
  | .UnaryOp .Not x _ => f x
  | _ => false
def mNeg (f : Mt) : Mt
  | .UnaryOp .USub x _ => f x
  | _ => false
def mBoo (op : BoolOp) (es : List E) (f : List Expr → Bool) : Mt
  | .BoolOp o (x :: xs) _ => decide (op = o) && ((es.all fun e => !isStar e) && f (x :: xs))
  | _ => false
def mIte (f g h : Mt) : Mt
  | .IfExp x y z _ => f x && (g y && h z)
  | _ => false
def mCall (G : Sg) (sc : Scope) (k : Nat) (f : List Expr → Bool) : Mt
  | .Call (.Name x _) xs [] _ => fnKey G k x && (glB sc x && (dbg x && (noStar xs && f xs)))
  | _ => false
def mCallk (G : Sg) (sc : Scope) (k : Nat) (ks : List Str) (f : List Expr → Bool) (g : List Keyword → Bool) : Mt
  | .Call (.Name x _) xs kws _ => fnKey G k x && (glB sc x && (dbg x && (noStar xs && (f xs && (kwN kws ks && g kws)))))
  | _ => false
def mMk (G : Sg) (sc : Scope) (c : Nat) (f : List Expr → Bool) : Mt
  | .Call (.Name x _) xs [] _ => clKey G c x && (glB sc x && (dbg x && (noStar xs && f xs)))
  | _ => false
def mMkk (G : Sg) (sc : Scope) (c : Nat) (ks : List Str) (f : List Expr → Bool) (g : List Keyword → Bool) : Mt
  | .Call (.Name x _) xs kws _ => clKey G c x && (glB sc x && (dbg x && (noStar xs && (f xs && (kwN kws ks && g kws)))))
  | _ => false
def mBlt (sc : Scope) (b : Bl) (f : List Expr → Bool) : Mt
  | .Call (.Name x _) (y :: ys) [] _ => decide (x = bltName b) && (glB sc x && (noStar (y :: ys) && f (y :: ys)))
  | _ => false
def mIsiT (G : Sg) (sc : Scope) (cs : List CT) (f : Mt) : Mt
  | .Call (.Name g _) [x, .Tuple ys _ _] [] _ => decide (g = ("isinstance" : Str)) && (glB sc g && (noStar [x] && (f x && (mtCs G sc cs ys && Nat.ble cs.length 100))))
  | _ => false
def mIsi (G : Sg) (sc : Scope) (c : CT) (f : Mt) : Mt
  | .Call (.Name g _) [x, y] [] _ => decide (g = ("isinstance" : Str)) && (glB sc g && (noStar [x] && (f x && mtC G sc c y)))
  | _ => false
def mMeth (G : Sg) (m : Nat) (f : Mt) (g : List Expr → Bool) : Mt
  | .Call (.Attribute x a apos) xs [] pos => decide (a = nmS G m) && (abOk x && (f x && (noStar xs && (Nat.blt xs.length 29 && ((apos.endLine == pos.line) && g xs)))))
  | _ => false
def mBm (b : Bm) (f : Mt) (g : List Expr → Bool) : Mt
  | .Call (.Attribute x a apos) (y :: ys) [] pos => decide (a = bmName b) && (abOk x && (f x && (noStar (y :: ys) && (Nat.blt (y :: ys).length 29 && ((apos.endLine == pos.line) && g (y :: ys))))))
  | _ => false
def mBm0 (b : Bm0) (f : Mt) : Mt
  | .Call (.Attribute x a apos) [] [] pos => decide (a = bm0Name b) && (abOk x && ((apos.endLine == pos.line) && f x))
  | _ => false
def mAtt (G : Sg) (k : Nat) (f : Mt) : Mt
  | .Attribute x a _ => decide (a = nmS G k) && (abOk x && f x)
  | _ => false
def mSub (f g : Mt) : Mt
  | .Subscript x y _ => plainIx y && (f x && g y)
  | _ => false
def mPart (b : Bool) (f : Mt) : Option Expr → Bool
  | none => b
  | some x => !b && f x
def mSlc (f : Mt) (g h : Option Expr → Bool) : Mt
  | .Subscript x (.Slice a b none _) _ => f x && (g a && h b)
  | _ => false
def mRev (f : Mt) : Mt
  | .Subscript x (.Slice none none (some (.UnaryOp .USub (.Constant (.int i) _ _) _)) _) _ => decide (i = 1) && f x
  | _ => false
def mTs (es : List E) (f : List Expr → Bool) (xs : List Expr) : Bool := Nat.ble es.length 1 && ((es.all fun e => !isStar e) && f xs)
def mComp (N : List Str) (sc : Scope) (tg : Tg) (own : List (Str × Nat)) (nt : Bool) (f : Mt) (g : Scope → List Expr → Bool) (h : Scope → Mt) : Mt
  | .ListComp elt [⟨t, i, ifs, 0⟩] scope _ => f i && ((!nt || isTupE t) && (noSet i && (blkC N sc scope own && (slIn tg own && (mtTg N (relS sc scope) (fnOf' scope) tg t && (g scope ifs && h scope elt))))))
  | _ => false
def mFst (es : List E) (f : List Expr → Bool) : Mt
  | .JoinedStr (x :: xs) _ => (es.all fun e => !isStar e) && f (x :: xs)
  | _ => false
def mFmt (f : Mt) : Mt
  | .FormattedValue x c none _ => decide (c = -1) && f x
  | _ => false
def mIt1 (sc : Scope) (n : Str) (f : Mt) : Mt
  | .Call (.Name g _) [x] [] _ => decide (g = n) && (glB sc g && (noStar [x] && f x))
  | _ => false
def mIt2 (sc : Scope) (n : Str) (f g : Mt) : Mt
  | .Call (.Name k _) [x, y] [] _ => decide (k = n) && (glB sc k && (noStar [x, y] && (f x && g y)))
  | _ => false
def mItem (b : Bool) (f : Mt) (x : Expr) : Bool := match b with
  | true => (match x with
    | .Starred y _ => f y
    | _ => false)
  | false => noStar [x] && f x
mutual
def mtE (G : Sg) (N : List Str) : E → Scope → (Str → Bool) → Mt
  | .var i, sc, _ => mVar N sc i
  | .cst w, _, _ => mCst w
  | .glo k, sc, _ => mGlo G sc k
  | .abs, _, _ => fun _ => false
  | .tup es, sc, fn => mTup (mtEs G N es sc fn)
  | .lst es, sc, fn => mLst (mtEs G N es sc fn)
  | .star e, sc, fn => mtE G N e sc fn
  | .bin op a b, sc, fn => mBin op (mtE G N a sc fn) (mtE G N b sc fn)
  | .cmp op a b, sc, fn => mCmp op (mtE G N a sc fn) (mtE G N b sc fn)
  | .cmp2 o p a b c, sc, fn => mCmp2 o p (mtE G N a sc fn) (mtE G N b sc fn) (mtE G N c sc fn)
  | .isN neg a, sc, fn => mIsN neg (mtE G N a sc fn)
  | .not a, sc, fn => mNot (mtE G N a sc fn)
  | .boo op es, sc, fn => mBoo op es (mtEs G N es sc fn)
  | .neg a, sc, fn => mNeg (mtE G N a sc fn)
  | .ite c a b, sc, fn => mIte (mtE G N c sc fn) (mtE G N a sc fn) (mtE G N b sc fn)
  | .call k es, sc, fn => mCall G sc k (mtEs G N es sc fn)
  | .callk k es ks kes, sc, fn => mCallk G sc k ks (mtEs G N es sc fn) (mtKs G N kes sc fn)
  | .mk c es, sc, fn => mMk G sc c (mtEs G N es sc fn)
  | .mkk c es ks kes, sc, fn => mMkk G sc c ks (mtEs G N es sc fn) (mtKs G N kes sc fn)
  | .blt b es, sc, fn => mBlt sc b (mtEs G N es sc fn)
  | .isi e b cs, sc, fn => match b, cs with
    | true, cs => mIsiT G sc cs (mtE G N e sc fn)
    | false, [c] => mIsi G sc c (mtE G N e sc fn)
    | false, _ => fun _ => false
  | .meth o m es, sc, fn => mMeth G m (mtE G N o sc fn) (mtEs G N es sc fn)
  | .bm o b es, sc, fn => mBm b (mtE G N o sc fn) (mtEs G N es sc fn)
  | .bm0 o b, sc, fn => mBm0 b (mtE G N o sc fn)
  | .att o f, sc, fn => mAtt G f (mtE G N o sc fn)
  | .sub o i, sc, fn => mSub (mtE G N o sc fn) (mtE G N i sc fn)
  | .slc o lo hi, sc, fn => mSlc (mtE G N o sc fn) (mPart (isAbs lo) (mtE G N lo sc fn)) (mPart (isAbs hi) (mtE G N hi sc fn))
  | .rev o, sc, fn => mRev (mtE G N o sc fn)
  | .comp e tg it cs own, sc, fn => mComp N sc tg own (needT it) (mtE G N it sc fn) (fun scope => mTs cs (mtEs G N cs (relS sc scope) (fnOf' scope))) (fun scope => mtE G N e (relS sc scope) (fnOf' scope))
  | .fst es, sc, fn => mFst es (mtEs G N es sc fn)
  | .fmt e, sc, fn => mFmt (mtE G N e sc fn)
  | .rng1 a, sc, fn => mIt1 sc "range" (mtE G N a sc fn)
  | .rng2 a b, sc, fn => mIt2 sc "range" (mtE G N a sc fn) (mtE G N b sc fn)
  | .enm a, sc, fn => mIt1 sc "enumerate" (mtE G N a sc fn)
  | .zip a b, sc, fn => mIt2 sc "zip" (mtE G N a sc fn) (mtE G N b sc fn)
  | .never, _, _ => fun _ => true
def mtEs (G : Sg) (N : List Str) : List E → Scope → (Str → Bool) → List Expr → Bool
  | [], _, _ => fun xs => xs.isEmpty
  | e :: es, sc, fn => fun xs => match xs with
    | [] => false
    | x :: ys => mItem (isStar e) (mtE G N e sc fn) x && mtEs G N es sc fn ys
def mtKs (G : Sg) (N : List Str) : List E → Scope → (Str → Bool) → List Keyword → Bool
  | [], _, _ => fun xs => xs.isEmpty
  | e :: es, sc, fn => fun xs => match xs with
    | [] => false
    | ⟨_, x, _⟩ :: ys => (!isStar e && mtE G N e sc fn x) && mtKs G N es sc fn ys
end
end BL
set_option Elab.async false
set_option linter.all false
set_option maxRecDepth 100000
set_option maxHeartbeats 1000000
/-! BL20: terms that are held against the text run as told. -/
namespace BL
open PySem L2
theorem b2 {a b : Bool} (h : (a && b) = true) : a = true ∧ b = true := Bool.and_eq_true_iff.mp h
structure Ctx (X : Cx) (G : Sg) (cf : Cf) (L : Nat) (Wx : WX) (N : List Str) (sc : Scope) (fn : Str → Bool) : Prop where
  D : Gd X G cf L Wx
  hN : X.N = N
  hs : X.env.scope = sc
  hf : X.fn = fn
section
variable {X : Cx} {G : Sg} {cf : Cf} {L : Nat} {Wx : WX} {N : List Str} {sc : Scope} {fn : Str → Bool} {x : Expr} {f g h : Mt} {p q r : S3} {k : Bool} {fl : List Expr → Bool} {qs : S3s}
abbrev Ok (X : Cx) (G : Sg) (Wx : WX) (f : Mt) (q : S3) (k : Bool) : Prop := ∀ x, f x = true → Sd3 X G Wx q k x
abbrev OkL (X : Cx) (G : Sg) (Wx : WX) (f : List Expr → Bool) (qs : S3s) : Prop := ∀ xs, f xs = true → SdA X G Wx qs xs
theorem o_var (c : Ctx X G cf L Wx N sc fn) {i : Nat} (hm : mVar N sc i x = true) : Sd3 X G Wx (.of fun v => varW i v) k x := by
  unfold mVar at hm
  split at hm
  · obtain ⟨h1, hm⟩ := b2 hm
    obtain ⟨h2, hm⟩ := b2 hm
    obtain ⟨h3, h4⟩ := b2 hm
    refine .of (r_var (by rw [c.hN]; exact of_decide_eq_true h1) (by rw [c.hs]; exact visB_ok h2) (dbg_ok h3) (by rw [Bool.not_eq_true'] at h4; exact h4)) rfl
  · cases hm
theorem o_cst {w : W} (hm : mCst w x = true) : Sd3 X G Wx (.of fun _ => M.pure w) k x := by
  unfold mCst at hm
  split at hm
  · exact .of (r_cst hm) rfl
  · cases hm
theorem o_glo (c : Ctx X G cf L Wx N sc fn) {i : Nat} (hm : mGlo G sc i x = true) : Sd3 X G Wx (.of fun _ => M.opt ((G.cst[i]?).map (·.2))) k x := by
  unfold mGlo at hm
  split at hm
  · rename_i y ps
    obtain ⟨h1, hm⟩ := b2 hm
    obtain ⟨h2, h3⟩ := b2 hm
    unfold cstKey at h1
    cases e : G.cst[i]? with
    | none => rw [e] at h1; cases h1
    | some pr =>
      rw [e] at h1
      have e1 : pr.1 = y := of_decide_eq_true h1
      obtain ⟨u, v, hu, rv, hr⟩ := c.D.st.cst i pr e
      subst e1
      exact .of (r_tC (pe_glob (glB_ok c.hs h2) hu rv (dbg_ok h3)) hr) rfl
  · cases hm
theorem o_tup (hl : OkL X G Wx fl qs) (hm : mTup fl x = true) : Sd3 X G Wx (.of fun v => (evEs qs v).bind fun ws => (M.chk (fitB ws.length)).bind fun _ => M.pure (.tup ws)) k x := by
  unfold mTup at hm
  split at hm
  · exact .of (r_tup (hl _ hm).pa) rfl
  · cases hm
theorem o_lst (hl : OkL X G Wx fl qs) (hm : mLst fl x = true) : Sd3 X G Wx (.of fun v => (evEs qs v).bind fun ws => (M.chk (fitB ws.length)).bind fun _ => M.new (.lst ws)) k x := by
  unfold mLst at hm
  split at hm
  · exact .of (r_lst (hl _ hm).pa) rfl
  · cases hm
theorem o_bin {op : Operator} {k1 k2 : Bool} (hf : Ok X G Wx f p k1) (hg : Ok X G Wx g q k2) (hm : mBin op f g x = true) : Sd3 X G Wx (.of fun v => (p.val v).bind fun x => (q.val v).bind fun y => binW op x y) k x := by
  unfold mBin at hm
  split at hm
  · obtain ⟨h1, hm⟩ := b2 hm
    obtain ⟨h2, h3⟩ := b2 hm
    have e := of_decide_eq_true h1
    subst e
    exact .of (r_bin (hf _ h2).val (hg _ h3).val) rfl
  · cases hm
theorem o_cmp (c : Ctx X G cf L Wx N sc fn) {op : CmpOp} {k1 k2 : Bool} (hf : Ok X G Wx f p k1) (hg : Ok X G Wx g q k2) (hm : mCmp op f g x = true) : Sd3 X G Wx (.of fun v => (p.val v).bind fun x => (q.val v).bind fun y => (cmpW G cf op x y).bind fun b => M.pure (.bl b)) k x := by
  unfold mCmp at hm
  split at hm
  · obtain ⟨h1, hm⟩ := b2 hm
    obtain ⟨h0, hm⟩ := b2 hm
    obtain ⟨h2, h3⟩ := b2 hm
    have e := of_decide_eq_true h1
    subst e
    exact .ofT (r_cmp (cmpW_ok c.D op) (hf _ h2).val (hg _ h3).val (noSet_mark h0)) (r_cmpT (cmpW_ok c.D op) (hf _ h2).val (hg _ h3).val (noSet_mark h0))
  · cases hm
theorem o_cmp2 (c : Ctx X G cf L Wx N sc fn) {o1 o2 : CmpOp} {k1 k2 k3 : Bool} (hf : Ok X G Wx f p k1) (hg : Ok X G Wx g q k2) (hh : Ok X G Wx h r k3) (hm : mCmp2 o1 o2 f g h x = true) :
    Sd3 X G Wx (.of fun v => (p.val v).bind fun x => (q.val v).bind fun y => (cmpW G cf o1 x y).bind fun b => bif b then (r.val v).bind fun z => (cmpW G cf o2 y z).bind fun b => M.pure (.bl b) else M.pure (.bl false)) k x := by
  unfold mCmp2 at hm
  split at hm
  · obtain ⟨h1, hm⟩ := b2 hm
    obtain ⟨h1', hm⟩ := b2 hm
    obtain ⟨h0, hm⟩ := b2 hm
    obtain ⟨h2, hm⟩ := b2 hm
    obtain ⟨h3, h4⟩ := b2 hm
    have e := of_decide_eq_true h1
    subst e
    have e := of_decide_eq_true h1'
    subst e
    exact .ofT (r_cmp2 (cmpW_ok c.D o1) (cmpW_ok c.D o2) (hf _ h2).val (hg _ h3).val (hh _ h4).val (noSet_mark h0)) (r_cmp2T (cmpW_ok c.D o1) (cmpW_ok c.D o2) (hf _ h2).val (hg _ h3).val (hh _ h4).val (noSet_mark h0))
  · cases hm
theorem o_isN {neg : Bool} {k1 : Bool} (hf : Ok X G Wx f p k1) (hm : mIsN neg f x = true) : Sd3 X G Wx (.of fun v => (p.val v).bind fun x => M.pure (.bl (isN x != neg))) k x := by
  unfold mIsN at hm
  split at hm
  · obtain ⟨h1, h2⟩ := b2 hm
    rw [Bool.not_eq_true'] at h1
    subst h1
    exact .ofT (r_isN (hf _ h2).val) (r_isNT (hf _ h2).val)
  · obtain ⟨h1, h2⟩ := b2 hm
    subst h1
    exact .ofT (r_notN (hf _ h2).val) (r_notNT (hf _ h2).val)
  · cases hm
theorem o_not {k1 : Bool} (hf : Ok X G Wx f p k1) (hm : mNot f x = true) : Sd3 X G Wx ⟨fun v => (p.val v).bind fun x => (truW x).bind fun b => M.pure (.bl (!b)), fun v => (p.tst v).bind fun b => M.pure (!b), fun _ => M.no⟩ k x := by
  unfold mNot at hm
  split at hm
  · exact ⟨r_not (hf _ hm).val, r_notT (hf _ hm).tst, fun _ _ => no_itr⟩
  · cases hm
theorem o_neg {k1 : Bool} (hf : Ok X G Wx f p k1) (hm : mNeg f x = true) : Sd3 X G Wx (.of fun v => (p.val v).bind fun x => match x with
    | .int i => M.pure (.int (-i))
    | _ => M.no) k x := by
  unfold mNeg at hm
  split at hm
  · exact .of (r_neg (hf _ hm).val) rfl
  · cases hm
theorem evl_noStar {G : Sg} {cf : Cf} : ∀ {es : List E}, (es.all fun e => !isStar e) = true → ∀ p ∈ evl G cf es, p.1 = false
  | [], _, p, hp => by unfold evl at hp; cases hp
  | e :: es, h, p, hp => by
    rw [List.all_cons] at h
    obtain ⟨h1, h2⟩ := b2 h
    rw [Bool.not_eq_true'] at h1
    unfold evl at hp
    rcases List.mem_cons.mp hp with rfl | hp
    · exact h1
    · exact evl_noStar h2 p hp
theorem o_boo {op : BoolOp} {es : List E} (hl : OkL X G Wx fl (evl G cf es)) (hm : mBoo op es fl x = true) : Sd3 X G Wx ⟨fun v => evB op (evl G cf es) v, fun v => evBT op (evl G cf es) v, fun _ => M.no⟩ k x := by
  unfold mBoo at hm
  split at hm
  · obtain ⟨h1, hm⟩ := b2 hm
    obtain ⟨h2, h3⟩ := b2 hm
    have e := of_decide_eq_true h1
    subst e
    exact ⟨SdA.boo (evl_noStar h2) (hl _ h3), (SdA.booT (evl_noStar h2) (hl _ h3)).pt, fun _ _ => no_itr⟩
  · cases hm
theorem o_ite {k1 k2 k3 : Bool} (hf : Ok X G Wx f p k1) (hg : Ok X G Wx g q k2) (hh : Ok X G Wx h r k3) (hm : mIte f g h x = true) :
    Sd3 X G Wx ⟨fun v => (p.tst v).bind fun b => bif b then q.val v else r.val v, fun v => (p.tst v).bind fun b => bif b then q.tst v else r.tst v, fun _ => M.no⟩ k x := by
  unfold mIte at hm
  split at hm
  · obtain ⟨h1, hm⟩ := b2 hm
    obtain ⟨h2, h3⟩ := b2 hm
    exact ⟨r_ite (hf _ h1).tst (hg _ h2).val (hh _ h3).val, r_iteT (hf _ h1).tst (hg _ h2).tst (hh _ h3).tst, fun _ _ => no_itr⟩
  · cases hm
theorem o_call (c : Ctx X G cf L Wx N sc fn) {i : Nat} (hl : OkL X G Wx fl qs) (hm : mCall G sc i fl x = true) : Sd3 X G Wx (.of fun v => (evEs qs v).bind fun ws => callK G cf i ws) k x := by
  unfold mCall at hm
  split at hm
  · obtain ⟨h1, hm⟩ := b2 hm
    obtain ⟨h2, hm⟩ := b2 hm
    obtain ⟨h3, hm⟩ := b2 hm
    obtain ⟨h4, h5⟩ := b2 hm
    obtain ⟨fd, e1, e2⟩ := fnKey_ok h1
    exact .of (r_call c.D e1 e2 (glB_ok c.hs h2) (dbg_ok h3) (hl _ h5).pa (hl _ h5).nil0 h4) rfl
  · cases hm
abbrev OkK (X : Cx) (G : Sg) (Wx : WX) (f : List Keyword → Bool) (qs : S3s) : Prop := ∀ xs, f xs = true → PK X xs (tA' X G Wx fun v => evEs qs v)
theorem o_callk (c : Ctx X G cf L Wx N sc fn) {i : Nat} {ks : List Str} {fk : List Keyword → Bool} {qk : S3s} (hl : OkL X G Wx fl qs) (hk : OkK X G Wx fk qk) (hm : mCallk G sc i ks fl fk x = true) :
    Sd3 X G Wx (.of fun v => (evEs qs v).bind fun ws => (evEs qk v).bind fun us => callKw G cf i ws ks us) k x := by
  unfold mCallk at hm
  split at hm
  · obtain ⟨h1, hm⟩ := b2 hm
    obtain ⟨h2, hm⟩ := b2 hm
    obtain ⟨h3, hm⟩ := b2 hm
    obtain ⟨h4, hm⟩ := b2 hm
    obtain ⟨h5, hm⟩ := b2 hm
    obtain ⟨h6, h7⟩ := b2 hm
    obtain ⟨fd, e1, e2⟩ := fnKey_ok h1
    exact .of (r_callk c.D e1 e2 (glB_ok c.hs h2) (dbg_ok h3) (hl _ h5).pa (hl _ h5).nil0 h4 (hk _ h7) h6) rfl
  · cases hm
theorem o_mk (c : Ctx X G cf L Wx N sc fn) {i : Nat} (hl : OkL X G Wx fl qs) (hm : mMk G sc i fl x = true) : Sd3 X G Wx (.of fun v => (evEs qs v).bind fun ws => mkI G i fun k x => callK G cf k (x :: ws)) k x := by
  unfold mMk at hm
  split at hm
  · obtain ⟨h1, hm⟩ := b2 hm
    obtain ⟨h2, hm⟩ := b2 hm
    obtain ⟨h3, hm⟩ := b2 hm
    obtain ⟨h4, h5⟩ := b2 hm
    obtain ⟨d, fd, e1, e2, e3⟩ := clKey_ok h1
    exact .of (r_mk c.D e1 e2 e3 (glB_ok c.hs h2) (dbg_ok h3) (hl _ h5).pa (hl _ h5).nil0 h4) rfl
  · cases hm
theorem o_mkk (c : Ctx X G cf L Wx N sc fn) {i : Nat} {ks : List Str} {fk : List Keyword → Bool} {qk : S3s} (hl : OkL X G Wx fl qs) (hk : OkK X G Wx fk qk) (hm : mMkk G sc i ks fl fk x = true) :
    Sd3 X G Wx (.of fun v => (evEs qs v).bind fun ws => (evEs qk v).bind fun us => mkI G i fun k x => callKw G cf k (x :: ws) ks us) k x := by
  unfold mMkk at hm
  split at hm
  · obtain ⟨h1, hm⟩ := b2 hm
    obtain ⟨h2, hm⟩ := b2 hm
    obtain ⟨h3, hm⟩ := b2 hm
    obtain ⟨h4, hm⟩ := b2 hm
    obtain ⟨h5, hm⟩ := b2 hm
    obtain ⟨h6, h7⟩ := b2 hm
    obtain ⟨d, fd, e1, e2, e3⟩ := clKey_ok h1
    exact .of (r_mkk c.D e1 e2 e3 (glB_ok c.hs h2) (dbg_ok h3) (hl _ h5).pa (hl _ h5).nil0 h4 (hk _ h7) h6) rfl
  · cases hm
theorem o_blt (c : Ctx X G cf L Wx N sc fn) {b : Bl} (hl : OkL X G Wx fl qs) (hm : mBlt sc b fl x = true) : Sd3 X G Wx (.of fun v => (evEs qs v).bind fun ws => bltC G cf b ws) k x := by
  unfold mBlt at hm
  split at hm
  · obtain ⟨h1, hm⟩ := b2 hm
    obtain ⟨h2, hm⟩ := b2 hm
    obtain ⟨h3, h4⟩ := b2 hm
    have e := of_decide_eq_true h1
    subst e
    exact .of (r_blt c.D (glB_ok c.hs h2) (hl _ h4).pa h3) rfl
  · cases hm
theorem o_isiT (c : Ctx X G cf L Wx N sc fn) {cs : List CT} {k1 : Bool} (hf : Ok X G Wx f p k1) (hm : mIsiT G sc cs f x = true) : Sd3 X G Wx (.of fun v => (p.val v).bind fun x => isiW G.cls x cs) k x := by
  unfold mIsiT at hm
  split at hm
  · obtain ⟨h1, hm⟩ := b2 hm
    obtain ⟨h2, hm⟩ := b2 hm
    obtain ⟨h3, hm⟩ := b2 hm
    obtain ⟨h4, hm⟩ := b2 hm
    obtain ⟨h5, h6⟩ := b2 hm
    have e := of_decide_eq_true h1
    subst e
    exact .of (r_isiT c.D c.hs (glB_ok c.hs h2) (hf _ h4).val h3 h5 h6) rfl
  · cases hm
theorem o_isi (c : Ctx X G cf L Wx N sc fn) {ct : CT} {k1 : Bool} (hf : Ok X G Wx f p k1) (hm : mIsi G sc ct f x = true) : Sd3 X G Wx (.of fun v => (p.val v).bind fun x => isiW G.cls x [ct]) k x := by
  unfold mIsi at hm
  split at hm
  · obtain ⟨h1, hm⟩ := b2 hm
    obtain ⟨h2, hm⟩ := b2 hm
    obtain ⟨h3, hm⟩ := b2 hm
    obtain ⟨h4, h5⟩ := b2 hm
    have e := of_decide_eq_true h1
    subst e
    exact .of (r_isi c.D c.hs (glB_ok c.hs h2) (hf _ h4).val h3 h5) rfl
  · cases hm
theorem o_meth (c : Ctx X G cf L Wx N sc fn) {m : Nat} {k1 : Bool} (hf : Ok X G Wx f p k1) (hl : OkL X G Wx fl qs) (hm : mMeth G m f fl x = true) : Sd3 X G Wx (.of fun v => (p.val v).bind fun x => (metO G x m).bind fun k => (evEs qs v).bind fun ws => callK G cf k (x :: ws)) k x := by
  unfold mMeth at hm
  split at hm
  · obtain ⟨h1, hm⟩ := b2 hm
    obtain ⟨h2, hm⟩ := b2 hm
    obtain ⟨h3, hm⟩ := b2 hm
    obtain ⟨h4, hm⟩ := b2 hm
    obtain ⟨h5, hm⟩ := b2 hm
    obtain ⟨h6, h7⟩ := b2 hm
    have e := of_decide_eq_true h1
    subst e
    exact .of (r_meth c.D (hf _ h3).val h2 (hl _ h7).pa (hl _ h7).nil0 h4 h5 h6) rfl
  · cases hm
theorem o_bm {b : Bm} {k1 : Bool} (hf : Ok X G Wx f p k1) (hl : OkL X G Wx fl qs) (hm : mBm b f fl x = true) : Sd3 X G Wx (.of fun v => (p.val v).bind fun x => (bmOk b x).bind fun _ => (evEs qs v).bind fun ws => metW x b ws) k x := by
  unfold mBm at hm
  split at hm
  · obtain ⟨h1, hm⟩ := b2 hm
    obtain ⟨h2, hm⟩ := b2 hm
    obtain ⟨h3, hm⟩ := b2 hm
    obtain ⟨h4, hm⟩ := b2 hm
    obtain ⟨h5, hm⟩ := b2 hm
    obtain ⟨h6, h7⟩ := b2 hm
    have e := of_decide_eq_true h1
    subst e
    exact .of (r_bm (hf _ h3).val h2 (hl _ h7).pa h4 h5 h6) rfl
  · cases hm
theorem o_bm0 {b : Bm0} {k1 : Bool} (hf : Ok X G Wx f p k1) (hm : mBm0 b f x = true) : Sd3 X G Wx (.of fun v => (p.val v).bind fun x => (bm0Ok b x).bind fun _ => met0W x b) k x := by
  unfold mBm0 at hm
  split at hm
  · obtain ⟨h1, hm⟩ := b2 hm
    obtain ⟨h2, hm⟩ := b2 hm
    obtain ⟨h3, h4⟩ := b2 hm
    have e := of_decide_eq_true h1
    subst e
    exact .of (r_bm0 (hf _ h4).val h2 h3) rfl
  · cases hm
theorem o_att (c : Ctx X G cf L Wx N sc fn) {i : Nat} {k1 : Bool} (hf : Ok X G Wx f p k1) (hm : mAtt G i f x = true) : Sd3 X G Wx (.of fun v => (p.val v).bind fun x => attW G x i) k x := by
  unfold mAtt at hm
  split at hm
  · obtain ⟨h1, hm⟩ := b2 hm
    obtain ⟨h2, h3⟩ := b2 hm
    have e := of_decide_eq_true h1
    subst e
    exact .of (r_att c.D (hf _ h3).val h2) rfl
  · cases hm
theorem o_sub {k1 k2 : Bool} (hf : Ok X G Wx f p k1) (hg : Ok X G Wx g q k2) (hm : mSub f g x = true) : Sd3 X G Wx (.of fun v => (p.val v).bind fun x => (q.val v).bind fun y => subW x y) k x := by
  unfold mSub at hm
  split at hm
  · obtain ⟨h1, hm⟩ := b2 hm
    obtain ⟨h2, h3⟩ := b2 hm
    exact .of (r_sub (hf _ h2).val (hg _ h3).val (plainIx_ok h1)) rfl
  · cases hm
theorem o_part {b : Bool} {k1 : Bool} {o : Option Expr} (hf : Ok X G Wx f p k1) (hm : mPart b f o = true) : PO X o (tl X.K G RelO' Wx fun v => partW b (p.val v)) := by
  unfold mPart at hm
  split at hm
  · subst hm
    exact r_noPart
  · obtain ⟨h1, h2⟩ := b2 hm
    rw [Bool.not_eq_true'] at h1
    subst h1
    exact r_part (hf _ h2).val
theorem o_slc {b b' : Bool} {k1 k2 k3 : Bool} (hf : Ok X G Wx f p k1) (hg : Ok X G Wx g q k2) (hh : Ok X G Wx h r k3) (hm : mSlc f (mPart b g) (mPart b' h) x = true) :
    Sd3 X G Wx (.of fun v => (p.val v).bind fun x => (partW b (q.val v)).bind fun l => (partW b' (r.val v)).bind fun h => slcW x l h) k x := by
  unfold mSlc at hm
  split at hm
  · obtain ⟨h1, hm⟩ := b2 hm
    obtain ⟨h2, h3⟩ := b2 hm
    exact .of (r_slc (hf _ h1).val (o_part hg h2) (o_part hh h3)) rfl
  · cases hm
theorem o_rev {k1 : Bool} (hf : Ok X G Wx f p k1) (hm : mRev f x = true) : Sd3 X G Wx (.of fun v => (p.val v).bind fun x => revW x) k x := by
  unfold mRev at hm
  split at hm
  · obtain ⟨h1, h2⟩ := b2 hm
    have e := of_decide_eq_true h1
    subst e
    exact .of (r_rev (hf _ h2).val) rfl
  · cases hm
theorem o_fst {es : List E} (hl : OkL X G Wx fl (evl G cf es)) (hm : mFst es fl x = true) : Sd3 X G Wx (.of fun v => evJ (evl G cf es) v Str.empty) k x := by
  unfold mFst at hm
  split at hm
  · rename_i x xs ps
    obtain ⟨h1, h2⟩ := b2 hm
    have hs := evl_noStar (G := G) (cf := cf) h1
    have hl := hl _ h2
    cases xs with
    | cons y ys => exact .of (r_fst hs hl) rfl
    | nil =>
      cases hq : evl G cf es with
      | nil => rw [hq] at hl; cases (show _ = [] from hl)
      | cons p ps =>
        cases ps with
        | nil =>
          rw [hq] at hl hs
          exact .of (r_fst1 (hs p List.mem_cons_self) hl) rfl
        | cons p2 ps =>
          rw [hq] at hl
          obtain ⟨_, ys, e, _, h2⟩ := hl
          cases e
          obtain ⟨_, _, e, _⟩ := h2
          cases e
  · cases hm
theorem o_fmt {k1 : Bool} (hf : Ok X G Wx f p k1) (hm : mFmt f x = true) : Sd3 X G Wx (.of fun v => (p.val v).bind fun x => fmtW x) k x := by
  unfold mFmt at hm
  split at hm
  · obtain ⟨h1, h2⟩ := b2 hm
    have e := of_decide_eq_true h1
    subst e
    exact .of (r_fmt (hf _ h2).val) rfl
  · cases hm
theorem o_rng1 (c : Ctx X G cf L Wx N sc fn) {k1 : Bool} (hf : Ok X G Wx f p k1) (hm : mIt1 sc "range" f x = true) : Sd3 X G Wx ⟨fun _ => M.no, fun _ => M.no, fun v => (p.val v).bind fun x => match x with
    | .int j => (M.chk (decide (-(2 ^ 62) ≤ j) && decide (j < 2 ^ 62))).bind fun _ => M.pure (.rng 0 j.toNat)
    | _ => M.no⟩ k x := by
  unfold mIt1 at hm
  split at hm
  · obtain ⟨h1, hm⟩ := b2 hm
    obtain ⟨h2, hm⟩ := b2 hm
    obtain ⟨h3, h4⟩ := b2 hm
    have e := of_decide_eq_true h1
    subst e
    exact .only fun tg _ => r_rng1 (glB_ok c.hs h2) (c.D.st.blt _ (by decide)) (hf _ h4).val h3
  · cases hm
theorem o_rng2 (c : Ctx X G cf L Wx N sc fn) {k1 k2 : Bool} (hf : Ok X G Wx f p k1) (hg : Ok X G Wx g q k2) (hm : mIt2 sc "range" f g x = true) : Sd3 X G Wx ⟨fun _ => M.no, fun _ => M.no, fun v => (p.val v).bind fun x => (q.val v).bind fun y => match x, y with
    | .int i, .int j => (M.chk (decide (-(2 ^ 62) ≤ i) && decide (i < 2 ^ 62) && decide (-(2 ^ 62) ≤ j) && decide (j < 2 ^ 62))).bind fun _ => M.pure (.rng i (j - i).toNat)
    | _, _ => M.no⟩ k x := by
  unfold mIt2 at hm
  split at hm
  · obtain ⟨h1, hm⟩ := b2 hm
    obtain ⟨h2, hm⟩ := b2 hm
    obtain ⟨h3, hm⟩ := b2 hm
    obtain ⟨h4, h5⟩ := b2 hm
    have e := of_decide_eq_true h1
    subst e
    exact .only fun tg _ => r_rng2 (glB_ok c.hs h2) (c.D.st.blt _ (by decide)) (hf _ h4).val (hg _ h5).val h3
  · cases hm
theorem tupE {t : Expr} (h : isTupE t = true) : ∃ es k p, t = .Tuple es k p := by
  cases t <;> first
    | exact ⟨_, _, _, rfl⟩
    | cases h
theorem o_enm (c : Ctx X G cf L Wx N sc fn) {k1 : Bool} (hf : Ok X G Wx f p k1) (hm : mIt1 sc "enumerate" f x = true) : Sd3 X G Wx ⟨fun _ => M.no, fun _ => M.no, fun v => (p.val v).bind fun x => enmW x⟩ true x := by
  unfold mIt1 at hm
  split at hm
  · obtain ⟨h1, hm⟩ := b2 hm
    obtain ⟨h2, hm⟩ := b2 hm
    obtain ⟨h3, h4⟩ := b2 hm
    have e := of_decide_eq_true h1
    subst e
    refine .only fun tg ht => ?_
    obtain ⟨_, _, _, rfl⟩ := tupE (ht rfl)
    exact r_enm (glB_ok c.hs h2) (c.D.st.blt _ (by decide)) (hf _ h4).val h3
  · cases hm
theorem o_zip (c : Ctx X G cf L Wx N sc fn) {k1 k2 : Bool} (hf : Ok X G Wx f p k1) (hg : Ok X G Wx g q k2) (hm : mIt2 sc "zip" f g x = true) : Sd3 X G Wx ⟨fun _ => M.no, fun _ => M.no, fun v => (p.val v).bind fun x => (q.val v).bind fun y => zipW x y⟩ true x := by
  unfold mIt2 at hm
  split at hm
  · obtain ⟨h1, hm⟩ := b2 hm
    obtain ⟨h2, hm⟩ := b2 hm
    obtain ⟨h3, hm⟩ := b2 hm
    obtain ⟨h4, h5⟩ := b2 hm
    have e := of_decide_eq_true h1
    subst e
    refine .only fun tg ht => ?_
    obtain ⟨_, _, _, rfl⟩ := tupE (ht rfl)
    exact r_zip (glB_ok c.hs h2) (c.D.st.blt _ (by decide)) (hf _ h4).val (hg _ h5).val h3
  · cases hm
theorem o_comp (c : Ctx X G cf L Wx N sc fn) {tg : Tg} {own : List (Str × Nat)} {nt : Bool} {cs : List E} {fc : Scope → List Expr → Bool} {fe : Scope → Mt} (hf : Ok X G Wx f p nt)
    (hc : ∀ scope X', Ctx X' G cf L WxF N (relS sc scope) (fnOf' scope) → OkL X' G WxF (fc scope) (evl G cf cs)) {k1 : Bool} (he : ∀ scope X', Ctx X' G cf L WxF N (relS sc scope) (fnOf' scope) → Ok X' G WxF (fe scope) q k1)
    (hm : mComp N sc tg own nt f (fun s => mTs cs (fc s)) fe x = true) :
    Sd3 X G Wx (.of fun v => (p.itr v).bind fun J => ((compL (fun v' => evTs (evl G cf cs) v') (fun v' => q.val v') tg J (wipeE v (own.map (·.2))) FUEL 0).nox).bind fun ys => M.new (.lst ys)) k x := by
  unfold mComp at hm
  split at hm
  · rename_i elt t i ifs scope ps
    obtain ⟨h1, hm⟩ := b2 hm
    obtain ⟨h2, hm⟩ := b2 hm
    obtain ⟨h3, hm⟩ := b2 hm
    obtain ⟨h4, hm⟩ := b2 hm
    obtain ⟨h5, hm⟩ := b2 hm
    obtain ⟨h6, hm⟩ := b2 hm
    obtain ⟨h7, h8⟩ := b2 hm
    have hnt : nt = true → isTupE t = true := fun e => by
      subst e
      simpa using h2
    have bc : ∀ (s : Shared) (H : Hp) (C : Addr) (cl : List (Str × Addr)) (fp : List Addr), Ctx (X.blk s H scope (compEnvC scope cl C X.env) fp) G cf L WxF N (relS sc scope) (fnOf' scope) := fun s H C cl fp => ⟨c.D.blk _ _ _ _ _, c.hN, by rw [← c.hs]; rfl, rfl⟩
    refine .of ((pe_lc c.D.calm c.D.nd ((hf _ h1).itr t hnt) (by rw [c.hN, c.hs]; exact blkOk_by h4) (g := gTg X.K tg) (tt := tB' X G WxF fun v => evTs (evl G cf cs) v) (te := tV X G WxF q.val) (fun s H C cl fp => ?_) (fun s H C cl fp => ?_) (fun s H C cl fp => ?_) (noSet_fold h3)).imp (comp_t (slIn_ok h5))) rfl
    · refine r_tg (X := X.blk s H scope (compEnvC scope cl C X.env) fp) c.D.calm c.D.nd ?_
      have e : (X.blk s H scope (compEnvC scope cl C X.env) fp).env.scope = relS sc scope := by rw [← c.hs]; rfl
      rw [e]
      show mtTg X.N (relS sc scope) (fnOf' scope) tg t = true
      rw [c.hN]
      exact h6
    · have b := bc s H C cl fp
      unfold mTs at h7
      obtain ⟨l1, h7⟩ := b2 h7
      obtain ⟨l2, l3⟩ := b2 h7
      have z := hc scope _ b _ l3
      have hs := evl_noStar (G := G) (cf := cf) l2
      refine SdT.pts (X := X.blk s H scope (compEnvC scope cl C X.env) fp) ?_
      match cs, l1, z, hs with
      | [], _, z, _ =>
        refine .inl ⟨by unfold evl; rfl, ?_⟩
        unfold evl at z
        exact z
      | [e], _, z, hs =>
        refine .inr ?_
        have e1 : evl G cf [e] = [(isStar e, ev G cf e)] := by unfold evl; unfold evl; rfl
        rw [e1] at z hs
        obtain ⟨y, ys, rfl, h1, h2⟩ := z
        have e3 : ys = [] := h2
        subst e3
        have e4 : isStar e = false := hs _ List.mem_cons_self
        rw [if_neg (by rw [e4]; exact Bool.false_ne_true)] at h1
        exact ⟨_, _, _, e1, rfl, h1.2.tst⟩
      | e :: e2 :: es, l1, _, _ => cases l1
    · exact (he scope _ (bc s H C cl fp) _ h8).val
  · cases hm
end
section
variable {G : Sg} {cf : Cf} {L : Nat} {N : List Str}
mutual
theorem mtE_ok : ∀ (e : E) (sc : Scope) (fn : Str → Bool) (X : Cx) (Wx : WX), Ctx X G cf L Wx N sc fn → Ok X G Wx (mtE G N e sc fn) (ev G cf e) (needT e)
  | .var i, sc, fn, X, Wx, c => fun x h => by unfold mtE at h; unfold ev; exact o_var c h
  | .cst w, sc, fn, X, Wx, c => fun x h => by unfold mtE at h; unfold ev; exact o_cst h
  | .glo i, sc, fn, X, Wx, c => fun x h => by unfold mtE at h; unfold ev; exact o_glo c h
  | .abs, sc, fn, X, Wx, c => fun x h => by unfold mtE at h; cases h
  | .tup es, sc, fn, X, Wx, c => fun x h => by unfold mtE at h; unfold ev; exact o_tup (mtEs_ok es sc fn X Wx c) h
  | .lst es, sc, fn, X, Wx, c => fun x h => by unfold mtE at h; unfold ev; exact o_lst (mtEs_ok es sc fn X Wx c) h
  | .star e, sc, fn, X, Wx, c => fun x h => by
    unfold mtE at h; unfold ev
    exact mtE_ok e sc fn X Wx c x h
  | .bin op a b, sc, fn, X, Wx, c => fun x h => by unfold mtE at h; unfold ev; exact o_bin (mtE_ok a sc fn X Wx c) (mtE_ok b sc fn X Wx c) h
  | .cmp op a b, sc, fn, X, Wx, c => fun x h => by unfold mtE at h; unfold ev; exact o_cmp c (mtE_ok a sc fn X Wx c) (mtE_ok b sc fn X Wx c) h
  | .cmp2 o1 o2 a b d, sc, fn, X, Wx, c => fun x h => by unfold mtE at h; unfold ev; exact o_cmp2 c (mtE_ok a sc fn X Wx c) (mtE_ok b sc fn X Wx c) (mtE_ok d sc fn X Wx c) h
  | .isN neg a, sc, fn, X, Wx, c => fun x h => by unfold mtE at h; unfold ev; exact o_isN (mtE_ok a sc fn X Wx c) h
  | .not a, sc, fn, X, Wx, c => fun x h => by unfold mtE at h; unfold ev; exact o_not (mtE_ok a sc fn X Wx c) h
  | .boo op es, sc, fn, X, Wx, c => fun x h => by unfold mtE at h; unfold ev; exact o_boo (mtEs_ok es sc fn X Wx c) h
  | .neg a, sc, fn, X, Wx, c => fun x h => by unfold mtE at h; unfold ev; exact o_neg (mtE_ok a sc fn X Wx c) h
  | .ite d a b, sc, fn, X, Wx, c => fun x h => by unfold mtE at h; unfold ev; exact o_ite (mtE_ok d sc fn X Wx c) (mtE_ok a sc fn X Wx c) (mtE_ok b sc fn X Wx c) h
  | .call k es, sc, fn, X, Wx, c => fun x h => by unfold mtE at h; unfold ev; exact o_call c (mtEs_ok es sc fn X Wx c) h
  | .callk k es ks kes, sc, fn, X, Wx, c => fun x h => by unfold mtE at h; unfold ev; exact o_callk c (mtEs_ok es sc fn X Wx c) (mtKs_ok kes sc fn X Wx c) h
  | .mk k es, sc, fn, X, Wx, c => fun x h => by unfold mtE at h; unfold ev; exact o_mk c (mtEs_ok es sc fn X Wx c) h
  | .mkk k es ks kes, sc, fn, X, Wx, c => fun x h => by unfold mtE at h; unfold ev; exact o_mkk c (mtEs_ok es sc fn X Wx c) (mtKs_ok kes sc fn X Wx c) h
  | .blt b es, sc, fn, X, Wx, c => fun x h => by unfold mtE at h; unfold ev; exact o_blt c (mtEs_ok es sc fn X Wx c) h
  | .isi e b cs, sc, fn, X, Wx, c => fun x h => by
    unfold mtE at h; unfold ev
    have ih := mtE_ok e sc fn X Wx c
    match b, cs, h with
    | true, cs, h => exact o_isiT c ih h
    | false, [ct], h => exact o_isi c ih h
    | false, [], h => cases h
    | false, _ :: _ :: _, h => cases h
  | .meth o m es, sc, fn, X, Wx, c => fun x h => by unfold mtE at h; unfold ev; exact o_meth c (mtE_ok o sc fn X Wx c) (mtEs_ok es sc fn X Wx c) h
  | .bm o b es, sc, fn, X, Wx, c => fun x h => by unfold mtE at h; unfold ev; exact o_bm (mtE_ok o sc fn X Wx c) (mtEs_ok es sc fn X Wx c) h
  | .bm0 o b, sc, fn, X, Wx, c => fun x h => by unfold mtE at h; unfold ev; exact o_bm0 (mtE_ok o sc fn X Wx c) h
  | .att o f, sc, fn, X, Wx, c => fun x h => by unfold mtE at h; unfold ev; exact o_att c (mtE_ok o sc fn X Wx c) h
  | .sub o i, sc, fn, X, Wx, c => fun x h => by unfold mtE at h; unfold ev; exact o_sub (mtE_ok o sc fn X Wx c) (mtE_ok i sc fn X Wx c) h
  | .slc o lo hi, sc, fn, X, Wx, c => fun x h => by unfold mtE at h; unfold ev; exact o_slc (mtE_ok o sc fn X Wx c) (mtE_ok lo sc fn X Wx c) (mtE_ok hi sc fn X Wx c) h
  | .rev o, sc, fn, X, Wx, c => fun x h => by unfold mtE at h; unfold ev; exact o_rev (mtE_ok o sc fn X Wx c) h
  | .comp e tg it cs own, sc, fn, X, Wx, c => fun x h => by
    unfold mtE at h; unfold ev
    exact o_comp c (mtE_ok it sc fn X Wx c) (fun scope X' c' => mtEs_ok cs _ _ X' WxF c') (fun scope X' c' => mtE_ok e _ _ X' WxF c') h
  | .fst es, sc, fn, X, Wx, c => fun x h => by unfold mtE at h; unfold ev; exact o_fst (mtEs_ok es sc fn X Wx c) h
  | .fmt e, sc, fn, X, Wx, c => fun x h => by unfold mtE at h; unfold ev; exact o_fmt (mtE_ok e sc fn X Wx c) h
  | .rng1 a, sc, fn, X, Wx, c => fun x h => by unfold mtE at h; unfold ev; exact o_rng1 c (mtE_ok a sc fn X Wx c) h
  | .rng2 a b, sc, fn, X, Wx, c => fun x h => by unfold mtE at h; unfold ev; exact o_rng2 c (mtE_ok a sc fn X Wx c) (mtE_ok b sc fn X Wx c) h
  | .enm a, sc, fn, X, Wx, c => fun x h => by unfold mtE at h; unfold ev; exact o_enm c (mtE_ok a sc fn X Wx c) h
  | .zip a b, sc, fn, X, Wx, c => fun x h => by unfold mtE at h; unfold ev; exact o_zip c (mtE_ok a sc fn X Wx c) (mtE_ok b sc fn X Wx c) h
  | .never, sc, fn, X, Wx, c => fun x h => by unfold ev; exact .no
theorem mtEs_ok : ∀ (es : List E) (sc : Scope) (fn : Str → Bool) (X : Cx) (Wx : WX), Ctx X G cf L Wx N sc fn → OkL X G Wx (mtEs G N es sc fn) (evl G cf es)
  | [], sc, fn, X, Wx, c => fun xs h => by
    unfold mtEs at h; unfold evl
    exact List.isEmpty_iff.mp h
  | e :: es, sc, fn, X, Wx, c => fun xs h => by
    unfold mtEs at h; unfold evl
    match xs, h with
    | [], h => cases h
    | x :: ys, h =>
      obtain ⟨h1, h2⟩ := b2 h
      refine ⟨x, ys, rfl, ?_, mtEs_ok es sc fn X Wx c ys h2⟩
      have ih := mtE_ok e sc fn X Wx c
      unfold mItem at h1
      cases hs : isStar e with
      | true =>
        rw [hs] at h1
        rw [if_pos rfl]
        dsimp only at h1
        split at h1
        · exact ⟨_, _, rfl, (ih _ h1).sd⟩
        · cases h1
      | false =>
        rw [hs] at h1
        rw [if_neg Bool.false_ne_true]
        obtain ⟨h3, h4⟩ := b2 h1
        exact ⟨h3, (ih _ h4).sd⟩
theorem mtKs_ok : ∀ (es : List E) (sc : Scope) (fn : Str → Bool) (X : Cx) (Wx : WX), Ctx X G cf L Wx N sc fn → OkK X G Wx (mtKs G N es sc fn) (evl G cf es)
  | [], sc, fn, X, Wx, c => fun xs h => by
    unfold mtKs at h; unfold evl
    have e := List.isEmpty_iff.mp h
    subst e
    exact r_knil
  | e :: es, sc, fn, X, Wx, c => fun xs h => by
    unfold mtKs at h; unfold evl
    match xs, h with
    | [], h => cases h
    | ⟨n, x, kp⟩ :: ys, h =>
      obtain ⟨h1, h2⟩ := b2 h
      obtain ⟨h0, h1⟩ := b2 h1
      rw [Bool.not_eq_true'] at h0
      have z := r_kcons (nm := n) (kp := kp) (mtE_ok e sc fn X Wx c _ h1).val (mtKs_ok es sc fn X Wx c ys h2)
      rw [h0]
      exact z
end
end
end BL
set_option Elab.async false
set_option linter.all false
set_option maxRecDepth 100000
set_option maxHeartbeats 1000000
/-! BL21: statements held against the text. -/
namespace BL
open PySem L2
section
variable {X : Cx} {G : Sg} {cf : Cf} {L : Nat} {Wx : WX} {pos p apos : Pos}
theorem swSub {e o i : Expr} {q : Pos} {l : Nat} {env : PySem.Env} : swapsWithSole [.Subscript o i q] e l env = pure false := by
  cases e <;> rfl
theorem swSub2 {e o i : Expr} {q : Pos} {env : PySem.Env} : swappedStores [.Subscript o i q] e env = pure none := by
  cases e <;> rfl
theorem r_setI {o i x : Expr} {fo fi fx : Env → M W} (ho : PE X o (tV X G Wx fo)) (hi : PE X i (tV X G Wx fi)) (hx : PE X x (tV X G Wx fx)) (hp : plainIx i = true) :
    PS X (.Assign [.Subscript o i apos] x pos) (tS' X G Wx fun v C => upS ((fx v).bind fun w => (fo v).bind fun y => (fi v).bind fun z => setWI y z w) v (fun _ C1 => .ret (.nx v C1)) C) := by
  refine (ps_asg hx (pg_sub ho hi set_list (by intro _; cases i <;> first | rfl | cases hp)) swSub swSub2 rfl).imp fun Z σ H hq => ?_
  obtain ⟨C, r, v, R, E, hw⟩ := hq
  unfold upS at hw
  have hw := Tr.wp_bind.mp hw
  have hw : (((fx v).bind fun w => (fo v).bind fun y => (fi v).bind fun z => setWI y z w) C).wp (Post X.K G (fun _ _ _ (_ : Unit) (_ : Unit) => True) Wx σ C r H fun _ H' => Z.nx σ H') := by
    refine Tr.wp_mono (fun y hy => ?_) hw
    cases y with
    | exc y C1 =>
      have hy : PostS X.K G Wx Z C r H (.exc y v C1) := hy
      exact fun r' H' d l R' X' hd hf => hy r' H' σ d l R' X' (E.ext R X') hd hf
    | ok u C1 => exact fun r' H' _ R' X' _ => hy r' H' σ R' X' (E.ext R X')
  refine tl_intro R E hw fun C1 r1 H1 a b R1 X1 ra q => ?_
  refine tl_intro R1 (E.ext R X1) q fun C2 r2 H2 a2 b2 R2 X2 ra2 q2 => ?_
  refine tl_intro R2 ((E.ext R X1).ext R1 X2) q2 fun C3 r3 H3 a3 b3 R3 X3 ra3 q3 => ?_
  have ra := (ra.ext R1 X2).ext R2 X3
  have ra2 := ra2.ext R2 X3
  unfold setWI at q3
  split at q3
  · obtain ⟨ob, e0, q3⟩ := wp_get.mp q3
    split at q3
    · rename_i ws
      cases hj : ixN ws.length _ with
      | none => rw [hj] at q3; exact q3.elim
      | some j =>
        rw [hj] at q3
        have hlt := RV.lt ra2
        obtain ⟨vs, rfl, hX, l⟩ := R3.lst ra2 e0
        unfold RelW RV at ra3
        have l2 := RVs.set ra j l
        obtain ⟨R4, X4⟩ := R3.write (ho := .lst (vs.set j b)) (o := .lst (ws.set j a)) hlt ⟨_, upd_same, RVs.mono (Nat.le_refl _) (fun _ _ => rfl) (R3.immW hlt) _ _ l2⟩
        exact ⟨_, vs, _, j, rfl, ra3, hX, by rw [← l.length]; exact hj, q3 _ _ () R4 X4 trivial⟩
    · exact q3.elim
  · exact q3.elim
end
/-! ### the text -/
abbrev Ms := Stmt → Bool
def isCompE : Expr → Bool
  | .ListComp .. => true
  | _ => false
def isNm : Tg → Bool
  | .nm _ => true
  | _ => false
def mAsg (N : List Str) (sc : Scope) (fn : Str → Bool) (tg : Tg) (f : Mt) : Ms
  | .Assign [t] x _ => f x && (mtTg N sc fn tg t && (noComp x && (isNm tg || !isTupE x)))
  | _ => false
def mAsgC (N : List Str) (sc : Scope) (fn : Str → Bool) (i : Nat) (f : Mt) : Ms
  | .Assign [.Name y py] x _ => mtN N sc fn i (.Name y py) && f x
  | _ => false
def locB (sc : Scope) (y : Str) : Bool := match sc.names.lookup y with
  | some .local => true
  | _ => false
def strsB : List Str → List Str → Bool
  | [], [] => true
  | a :: r, b :: s => decide (a = b) && strsB r s
  | _, _ => false
theorem strsB_ok : ∀ {a b : List Str}, strsB a b = true → a = b
  | [], [], _ => rfl
  | [], _ :: _, h => by cases h
  | _ :: _, [], h => by cases h
  | a :: r, b :: s, h => by
    obtain ⟨h1, h2⟩ := b2 h
    rw [of_decide_eq_true h1, strsB_ok h2]
def mPar (N : List Str) (sc : Scope) (fn : Str → Bool) (is : List Nat) (f : List Expr → Bool) : Ms
  | .Assign [.Tuple ts _ _] (.Tuple xs _ _) _ => f xs && (mtNs N sc fn is ts && (Nat.ble is.length 100 && (match swN (fun n => sc.names.lookup n) ts xs with
    | some none => true
    | some (some ns) => (match is, ts, xs with
      | [i, j], [.Name x _, .Name y _], [_, _] => strsB ns [x, y] && (locB sc x && (locB sc y && !(Nat.beq i j)))
      | [i, j, l], [.Name x _, .Name y _, .Name z _], [_, _, _] => strsB ns [x, y, z] && (locB sc x && (locB sc y && (locB sc z && (!(Nat.beq i j) && (!(Nat.beq i l) && !(Nat.beq j l))))))
      | _, _, _ => false)
    | none => false)))
  | _ => false
def mFld (G : Sg) (k : Nat) (f g : Mt) : Ms
  | .Assign [.Attribute o a _] x _ => decide (a = nmS G k) && (f o && g x)
  | _ => false
def mSetI (f g h : Mt) : Ms
  | .Assign [.Subscript o i _] x _ => plainIx i && (f o && (g i && h x))
  | _ => false
def mExpr (f : Mt) : Ms
  | .Expr x _ => noComp x && f x
  | _ => false
def mIfe (f : Mt) (g h : List Stmt → Bool) : Ms
  | .If c as bs _ => f c && (g as && h bs)
  | _ => false
def mFor (N : List Str) (sc : Scope) (fn : Str → Bool) (tg : Tg) (nt : Bool) (f : Mt) (g : List Stmt → Bool) : Ms
  | .For t i as [] _ => f i && ((!nt || isTupE t) && (noSet i && (mtTg N sc fn tg t && g as)))
  | _ => false
def mWhl (f : Mt) (g : List Stmt → Bool) : Ms
  | .While c as [] _ => f c && g as
  | _ => false
def mRet (f : Mt) : Ms
  | .Return (some x) _ => f x
  | _ => false
def mRetN : Ms
  | .Return none _ => true
  | _ => false
def mCont : Ms
  | .Continue _ => true
  | _ => false
def mBrk : Ms
  | .Break _ => true
  | _ => false
def mPass : Ms
  | .Pass _ => true
  | _ => false
mutual
def mtS (G : Sg) (N : List Str) (sc : Scope) (fn : Str → Bool) : S → Ms
  | .asg tg e => match tg, e with
    | .nm i, .comp a b c d g => mAsgC N sc fn i (mtE G N (.comp a b c d g) sc fn)
    | tg, e => mAsg N sc fn tg (mtE G N e sc fn)
  | .par is es => mPar N sc fn is (mtEs G N es sc fn)
  | .fld o f e => mFld G f (mtE G N o sc fn) (mtE G N e sc fn)
  | .setI o i e => mSetI (mtE G N o sc fn) (mtE G N i sc fn) (mtE G N e sc fn)
  | .expr e => mExpr (mtE G N e sc fn)
  | .sup _ _ _ => fun _ => false
  | .ife c a b => mIfe (mtE G N c sc fn) (mtSs G N sc fn a) (mtSs G N sc fn b)
  | .for_ tg it body => mFor N sc fn tg (needT it) (mtE G N it sc fn) (mtSs G N sc fn body)
  | .whl c body => mWhl (mtE G N c sc fn) (mtSs G N sc fn body)
  | .ret e => mRet (mtE G N e sc fn)
  | .retN => mRetN
  | .cont => mCont
  | .brk => mBrk
  | .pass => mPass
  | .never => fun _ => true
def mtSs (G : Sg) (N : List Str) (sc : Scope) (fn : Str → Bool) : List S → List Stmt → Bool
  | [] => fun xs => xs.isEmpty
  | s :: ss => fun xs => match xs with
    | [] => false
    | x :: ys => mtS G N sc fn s x && mtSs G N sc fn ss ys
end
section
variable {X : Cx} {G : Sg} {cf : Cf} {L : Nat} {Wx : WX} {N : List Str} {sc : Scope} {fn : Str → Bool} {x : Stmt} {f g h : Mt} {p q r : S3} {k k1 k2 k3 : Bool} {fl gl : List Stmt → Bool} {a b : Env → Hc → Tr XF}
abbrev OkS' (X : Cx) (G : Sg) (Wx : WX) (f : Ms) (a : Env → Hc → Tr XF) : Prop := ∀ x, f x = true → PS X x (tS' X G Wx a)
abbrev OkSs (X : Cx) (G : Sg) (Wx : WX) (f : List Stmt → Bool) (a : Env → Hc → Tr XF) : Prop := ∀ x, f x = true → PSs X x (tS' X G Wx a)
theorem o_ret (hf : Ok X G Wx f p k) (hm : mRet f x = true) : PS X x (tS' X G Wx fun v C => upS (p.val v) v (fun w C1 => .ret (.rt w C1)) C) := by
  unfold mRet at hm
  split at hm
  · exact r_ret (hf _ hm).val
  · cases hm
theorem o_expr (hf : Ok X G Wx f p k) (hm : mExpr f x = true) : PS X x (tS' X G Wx fun v C => upS (p.val v) v (fun _ C1 => .ret (.nx v C1)) C) := by
  unfold mExpr at hm
  split at hm
  · obtain ⟨h1, h2⟩ := b2 hm
    exact r_expr (hf _ h2).val h1
  · cases hm
theorem o_fld (c : Ctx X G cf L Wx N sc fn) {i : Nat} (hf : Ok X G Wx f p k1) (hg : Ok X G Wx g q k2) (hm : mFld G i f g x = true) : PS X x (tS' X G Wx fun v C => upS ((q.val v).bind fun w => (p.val v).bind fun y => setF G y i w) v (fun _ C1 => .ret (.nx v C1)) C) := by
  unfold mFld at hm
  split at hm
  · obtain ⟨h1, hm⟩ := b2 hm
    obtain ⟨h2, h3⟩ := b2 hm
    have e := of_decide_eq_true h1
    subst e
    exact r_fld c.D (hf _ h2).val (hg _ h3).val
  · cases hm
theorem o_setI (hf : Ok X G Wx f p k1) (hg : Ok X G Wx g q k2) (hh : Ok X G Wx h r k3) (hm : mSetI f g h x = true) : PS X x (tS' X G Wx fun v C => upS ((r.val v).bind fun w => (p.val v).bind fun y => (q.val v).bind fun z => setWI y z w) v (fun _ C1 => .ret (.nx v C1)) C) := by
  unfold mSetI at hm
  split at hm
  · obtain ⟨h1, hm⟩ := b2 hm
    obtain ⟨h2, hm⟩ := b2 hm
    obtain ⟨h3, h4⟩ := b2 hm
    exact r_setI (hf _ h2).val (hg _ h3).val (hh _ h4).val h1
  · cases hm
theorem o_ife (hf : Ok X G Wx f p k1) (hg : OkSs X G Wx fl a) (hh : OkSs X G Wx gl b) (hm : mIfe f fl gl x = true) : PS X x (tS' X G Wx fun v C => upS (p.tst v) v (fun r C1 => bif r then a v C1 else b v C1) C) := by
  unfold mIfe at hm
  split at hm
  · obtain ⟨h1, hm⟩ := b2 hm
    obtain ⟨h2, h3⟩ := b2 hm
    exact r_ife (hf _ h1).tst (hg _ h2) (hh _ h3)
  · cases hm
theorem o_whl (hp : PassesOwn (model X.prog X.w) X.A X.env X.xe) (hf : Ok X G Wx f p k1) (hg : OkSs X G Wx fl a) (hm : mWhl f fl x = true) : PS X x (tS' X G Wx fun v C => whileL p.tst a FUEL v C) := by
  unfold mWhl at hm
  split at hm
  · obtain ⟨h1, h2⟩ := b2 hm
    exact r_whl hp (hf _ h1).tst (hg _ h2)
  · cases hm
theorem o_for (hp : PassesOwn (model X.prog X.w) X.A X.env X.xe) (c : Ctx X G cf L Wx N sc fn) {tg : Tg} {nt : Bool} (hf : Ok X G Wx f p nt) (hg : OkSs X G Wx fl a) (hm : mFor N sc fn tg nt f fl x = true) : PS X x (tS' X G Wx fun v C => upS (p.itr v) v (fun J C1 => forL tg J a FUEL 0 v C1) C) := by
  unfold mFor at hm
  split at hm
  · rename_i t i as ps
    obtain ⟨h1, hm⟩ := b2 hm
    obtain ⟨h2, hm⟩ := b2 hm
    obtain ⟨h3, hm⟩ := b2 hm
    obtain ⟨h4, h5⟩ := b2 hm
    have hnt : nt = true → isTupE t = true := fun e => by
      subst e
      simpa using h2
    exact r_for hp c.D.calm c.D.nd (by rw [c.hN, c.hs, c.hf]; exact h4) ((hf _ h1).itr t hnt) (hg _ h5) (noSet_fold h3)
  · cases hm
theorem locB_ok {y : Str} (h : locB sc y = true) : sc.names.lookup y = some .local := by
  unfold locB at h
  split at h
  · assumption
  · cases h
theorem nbeq {i j : Nat} (h : (!(Nat.beq i j)) = true) : i ≠ j := fun e => by
  subst e
  rw [Nat.beq_refl] at h
  cases h
theorem o_par (c : Ctx X G cf L Wx N sc fn) {is : List Nat} {fl : List Expr → Bool} {qs : S3s} (hl : OkL X G Wx fl qs) (hm : mPar N sc fn is fl x = true) : PS X x (tS' X G Wx (sPar is fun v => evEs qs v)) := by
  unfold mPar at hm
  split at hm
  · rename_i ts k1 p1 xs k2 p2 ps
    obtain ⟨h1, hm⟩ := b2 hm
    obtain ⟨h2, hm⟩ := b2 hm
    obtain ⟨h3, h4⟩ := b2 hm
    have ht : mtNs X.N X.env.scope X.fn is ts = true := by rw [c.hN, c.hs, c.hf]; exact h2
    split at h4
    · rename_i e
      exact r_par0 c.D.calm c.D.nd ht (hl _ h1).pa h3 (by rw [c.hs]; exact e)
    · rename_i ns e
      split at h4
      · obtain ⟨z1, h4⟩ := b2 h4
        obtain ⟨z2, h4⟩ := b2 h4
        obtain ⟨z3, z4⟩ := b2 h4
        have e1 := strsB_ok z1
        subst e1
        unfold mtNs at ht
        obtain ⟨t1, ht⟩ := b2 ht
        unfold mtNs at ht
        obtain ⟨t2, ht⟩ := b2 ht
        have n1 := of_decide_eq_true (b2 (show (_ && _) = true from t1)).1
        have n2 := of_decide_eq_true (b2 (show (_ && _) = true from t2)).1
        exact r_par2 c.D.calm c.D.nd n1 n2 (nbeq z4) (by rw [c.hs]; exact locB_ok z2) (by rw [c.hs]; exact locB_ok z3) (hl _ h1).pa (by rw [c.hs]; exact e)
      · obtain ⟨z1, h4⟩ := b2 h4
        obtain ⟨z2, h4⟩ := b2 h4
        obtain ⟨z3, h4⟩ := b2 h4
        obtain ⟨z4, h4⟩ := b2 h4
        obtain ⟨z5, h4⟩ := b2 h4
        obtain ⟨z6, z7⟩ := b2 h4
        have e1 := strsB_ok z1
        subst e1
        unfold mtNs at ht
        obtain ⟨t1, ht⟩ := b2 ht
        unfold mtNs at ht
        obtain ⟨t2, ht⟩ := b2 ht
        unfold mtNs at ht
        obtain ⟨t3, ht⟩ := b2 ht
        have n1 := of_decide_eq_true (b2 (show (_ && _) = true from t1)).1
        have n2 := of_decide_eq_true (b2 (show (_ && _) = true from t2)).1
        have n3 := of_decide_eq_true (b2 (show (_ && _) = true from t3)).1
        exact r_par3 c.D.calm c.D.nd n1 n2 n3 (nbeq z5) (nbeq z6) (nbeq z7) (by rw [c.hs]; exact locB_ok z2) (by rw [c.hs]; exact locB_ok z3) (by rw [c.hs]; exact locB_ok z4) (hl _ h1).pa (by rw [c.hs]; exact e)
      · cases h4
    · cases h4
  · cases hm
end
end BL
set_option Elab.async false
set_option linter.all false
set_option maxRecDepth 100000
set_option maxHeartbeats 1000000
/-! BL22: statements that are held against the text run as told. -/
namespace BL
open PySem L2
section
variable {X : Cx} {G : Sg} {cf : Cf} {L : Nat} {Wx : WX} {N : List Str} {sc : Scope} {fn : Str → Bool} {x : Stmt} {f g h : Mt} {p q r : S3} {k k1 k2 k3 : Bool}
abbrev sAsg (tg : Tg) (f : Env → M W) : Env → Hc → Tr XF := fun v C => upS (f v) v (fun w C1 => match setTg tg w v with
    | some v' => .ret (.nx v' C1)
    | none => .no) C
theorem o_asg (c : Ctx X G cf L Wx N sc fn) {tg : Tg} (hf : Ok X G Wx f p k) (hm : mAsg N sc fn tg f x = true) : PS X x (tS' X G Wx (sAsg tg p.val)) := by
  unfold mAsg at hm
  split at hm
  · obtain ⟨h1, hm⟩ := b2 hm
    obtain ⟨h2, hm⟩ := b2 hm
    obtain ⟨h3, h4⟩ := b2 hm
    have ht := h2
    rw [← c.hN, ← c.hs, ← c.hf] at ht
    cases tg with
    | nm i => exact r_asgT (i := i) c.D.calm c.D.nd ht (hf _ h1).val h3
    | tp is =>
      rw [show isNm (.tp is) = false from rfl, Bool.false_or, Bool.not_eq_true'] at h4
      exact r_asg (tg := .tp is) c.D.calm c.D.nd ht (hf _ h1).val h3 h4
  · cases hm
abbrev compV (G : Sg) (cf : Cf) (p q : S3) (cs : List E) (tg : Tg) (own : List (Str × Nat)) : Env → M W := fun v => (p.itr v).bind fun J => ((compL (fun v' => evTs (evl G cf cs) v') (fun v' => q.val v') tg J (wipeE v (own.map (·.2))) FUEL 0).nox).bind fun ys => M.new (.lst ys)
theorem o_asgC (c : Ctx X G cf L Wx N sc fn) {i : Nat} {tg : Tg} {own : List (Str × Nat)} {nt : Bool} {cs : List E} {fc : Scope → List Expr → Bool} {fe : Scope → Mt} (hf : Ok X G Wx f p nt)
    (hc : ∀ scope X', Ctx X' G cf L WxF N (relS sc scope) (fnOf' scope) → OkL X' G WxF (fc scope) (evl G cf cs)) {k1 : Bool} (he : ∀ scope X', Ctx X' G cf L WxF N (relS sc scope) (fnOf' scope) → Ok X' G WxF (fe scope) q k1)
    (hm : mAsgC N sc fn i (mComp N sc tg own nt f (fun s => mTs cs (fc s)) fe) x = true) : PS X x (tS' X G Wx (sAsg (.nm i) (compV G cf p q cs tg own))) := by
  unfold mAsgC at hm
  split at hm
  · rename_i y py xx ps0
    obtain ⟨hy, hm⟩ := b2 hm
    unfold mComp at hm
    split at hm
    · rename_i elt t it ifs scope ps _
      obtain ⟨h1, hm⟩ := b2 hm
      obtain ⟨h2, hm⟩ := b2 hm
      obtain ⟨h3, hm⟩ := b2 hm
      obtain ⟨h4, hm⟩ := b2 hm
      obtain ⟨h5, hm⟩ := b2 hm
      obtain ⟨h6, hm⟩ := b2 hm
      obtain ⟨h7, h8⟩ := b2 hm
      have hnt : nt = true → isTupE t = true := fun e => by
        subst e
        simpa using h2
      have bc : ∀ (s : Shared) (H : Hp) (C : Addr) (cl : List (Str × Addr)) (fp : List Addr), Ctx (X.blk s H scope (compEnvC scope cl C X.env) fp) G cf L WxF N (relS sc scope) (fnOf' scope) := fun s H C cl fp => ⟨c.D.blk _ _ _ _ _, c.hN, by rw [← c.hs]; rfl, rfl⟩
      have hy' : mtN X.N X.env.scope X.fn i (.Name y py) = true := by rw [c.hN, c.hs, c.hf]; exact hy
      refine (r_setLc c.D.calm c.D.nd hy' ((hf _ h1).itr t hnt) (by rw [c.hN, c.hs]; exact blkOk_by h4) (g := gTg X.K tg) (tt := tB' X G WxF fun v => evTs (evl G cf cs) v) (te := tV X G WxF q.val) (fun s H C cl fp => ?_) (fun s H C cl fp => ?_) (fun s H C cl fp => ?_) (noSet_fold h3)).imp fun D σ H hq => ?_
      · refine r_tg (X := X.blk s H scope (compEnvC scope cl C X.env) fp) c.D.calm c.D.nd ?_
        have e : (X.blk s H scope (compEnvC scope cl C X.env) fp).env.scope = relS sc scope := by rw [← c.hs]; rfl
        rw [e]
        show mtTg X.N (relS sc scope) (fnOf' scope) tg t = true
        rw [c.hN]
        exact h6
      · have b := bc s H C cl fp
        unfold mTs at h7
        obtain ⟨l1, h7⟩ := b2 h7
        obtain ⟨l2, l3⟩ := b2 h7
        have z := hc scope _ b _ l3
        have hs := evl_noStar (G := G) (cf := cf) l2
        refine SdT.pts (X := X.blk s H scope (compEnvC scope cl C X.env) fp) ?_
        match cs, l1, z, hs with
        | [], _, z, _ =>
          refine .inl ⟨by unfold evl; rfl, ?_⟩
          unfold evl at z
          exact z
        | [e], _, z, hs =>
          refine .inr ?_
          have e1 : evl G cf [e] = [(isStar e, ev G cf e)] := by unfold evl; unfold evl; rfl
          rw [e1] at z hs
          obtain ⟨y, ys, rfl, h1, h2⟩ := z
          have e3 : ys = [] := h2
          subst e3
          have e4 : isStar e = false := hs _ List.mem_cons_self
          rw [if_neg (by rw [e4]; exact Bool.false_ne_true)] at h1
          exact ⟨_, _, _, e1, rfl, h1.2.tst⟩
        | e :: e2 :: es, l1, _, _ => cases l1
      · exact (he scope _ (bc s H C cl fp) _ h8).val
      · exact comp_t (slIn_ok h5) σ H _ (s_asg (tg := .nm i) D σ H hq)
    · cases hm
  · cases hm
end
section
variable {G : Sg} {cf : Cf} {L : Nat} {N : List Str} {X : Cx} {Wx : WX} {sc : Scope} {fn : Str → Bool}
mutual
theorem mtS_ok (c : Ctx X G cf L Wx N sc fn) (hp : PassesOwn (model X.prog X.w) X.A X.env X.xe) : ∀ (s : S), OkS' X G Wx (mtS G N sc fn s) (evS G cf s)
  | .asg tg e => fun x h => by
    have gen : mAsg N sc fn tg (mtE G N e sc fn) x = true → PS X x (tS' X G Wx (evS G cf (.asg tg e))) := fun h => by
      refine (o_asg c (mtE_ok e sc fn X Wx c) h).imp fun D σ H hq => ?_
      obtain ⟨C, r, v, R, E, hw⟩ := hq
      refine ⟨C, r, v, R, E, ?_⟩
      unfold evS at hw
      exact hw
    unfold mtS at h
    cases tg with
    | tp is => exact gen h
    | nm i =>
      cases e <;> first
        | exact gen h
        | skip
      rename_i a b it cs own
      dsimp only at h
      unfold mtE at h
      refine (o_asgC c (mtE_ok it sc fn X Wx c) (fun scope X' c' => mtEs_ok cs _ _ X' WxF c') (fun scope X' c' => mtE_ok a _ _ X' WxF c') h).imp fun D σ H hq => ?_
      obtain ⟨C, r, v, R, E, hw⟩ := hq
      refine ⟨C, r, v, R, E, ?_⟩
      unfold evS ev at hw
      exact hw
  | .par is es => fun x h => by
    unfold mtS at h
    refine (o_par c (mtEs_ok es sc fn X Wx c) h).imp fun D σ H hq => ?_
    obtain ⟨C, r, v, R, E, hw⟩ := hq
    refine ⟨C, r, v, R, E, ?_⟩
    unfold evS at hw
    exact hw
  | .fld o f e => fun x h => by
    unfold mtS at h
    refine (o_fld c (mtE_ok o sc fn X Wx c) (mtE_ok e sc fn X Wx c) h).imp fun D σ H hq => ?_
    obtain ⟨C, r, v, R, E, hw⟩ := hq
    refine ⟨C, r, v, R, E, ?_⟩
    unfold evS at hw
    exact hw
  | .setI o i e => fun x h => by
    unfold mtS at h
    refine (o_setI (mtE_ok o sc fn X Wx c) (mtE_ok i sc fn X Wx c) (mtE_ok e sc fn X Wx c) h).imp fun D σ H hq => ?_
    obtain ⟨C, r, v, R, E, hw⟩ := hq
    refine ⟨C, r, v, R, E, ?_⟩
    unfold evS at hw
    exact hw
  | .expr e => fun x h => by
    unfold mtS at h
    refine (o_expr (mtE_ok e sc fn X Wx c) h).imp fun D σ H hq => ?_
    obtain ⟨C, r, v, R, E, hw⟩ := hq
    refine ⟨C, r, v, R, E, ?_⟩
    unfold evS at hw
    exact hw
  | .sup d f es => fun x h => by unfold mtS at h; cases h
  | .ife d a b => fun x h => by
    unfold mtS at h
    refine (o_ife (mtE_ok d sc fn X Wx c) (mtSs_ok c hp a) (mtSs_ok c hp b) h).imp fun D σ H hq => ?_
    obtain ⟨C, r, v, R, E, hw⟩ := hq
    refine ⟨C, r, v, R, E, ?_⟩
    unfold evS at hw
    exact hw
  | .for_ tg it body => fun x h => by
    unfold mtS at h
    refine (o_for hp c (mtE_ok it sc fn X Wx c) (mtSs_ok c hp body) h).imp fun D σ H hq => ?_
    obtain ⟨C, r, v, R, E, hw⟩ := hq
    refine ⟨C, r, v, R, E, ?_⟩
    unfold evS at hw
    exact hw
  | .whl d body => fun x h => by
    unfold mtS at h
    refine (o_whl hp (mtE_ok d sc fn X Wx c) (mtSs_ok c hp body) h).imp fun D σ H hq => ?_
    obtain ⟨C, r, v, R, E, hw⟩ := hq
    refine ⟨C, r, v, R, E, ?_⟩
    unfold evS at hw
    exact hw
  | .ret e => fun x h => by
    unfold mtS at h
    refine (o_ret (mtE_ok e sc fn X Wx c) h).imp fun D σ H hq => ?_
    obtain ⟨C, r, v, R, E, hw⟩ := hq
    refine ⟨C, r, v, R, E, ?_⟩
    unfold evS at hw
    exact hw
  | .retN => fun x h => by
    unfold mtS mRetN at h
    split at h
    · refine (r_retN (G := G) (Wx := Wx)).imp fun D σ H hq => ?_
      obtain ⟨C, r, v, R, E, hw⟩ := hq
      refine ⟨C, r, v, R, E, ?_⟩
      unfold evS at hw
      exact hw
    · cases h
  | .cont => fun x h => by
    unfold mtS mCont at h
    split at h
    · refine (r_cont (G := G) (Wx := Wx)).imp fun D σ H hq => ?_
      obtain ⟨C, r, v, R, E, hw⟩ := hq
      refine ⟨C, r, v, R, E, ?_⟩
      unfold evS at hw
      exact hw
    · cases h
  | .brk => fun x h => by
    unfold mtS mBrk at h
    split at h
    · refine (r_brk (G := G) (Wx := Wx)).imp fun D σ H hq => ?_
      obtain ⟨C, r, v, R, E, hw⟩ := hq
      refine ⟨C, r, v, R, E, ?_⟩
      unfold evS at hw
      exact hw
    · cases h
  | .pass => fun x h => by
    unfold mtS mPass at h
    split at h
    · refine (r_pass (G := G) (Wx := Wx)).imp fun D σ H hq => ?_
      obtain ⟨C, r, v, R, E, hw⟩ := hq
      refine ⟨C, r, v, R, E, ?_⟩
      unfold evS at hw
      exact hw
    · cases h
  | .never => fun x h => by
    refine (r_never (G := G) (Wx := Wx)).imp fun D σ H hq => ?_
    obtain ⟨C, r, v, R, E, hw⟩ := hq
    unfold evS at hw
    exact hw.elim
theorem mtSs_ok (c : Ctx X G cf L Wx N sc fn) (hp : PassesOwn (model X.prog X.w) X.A X.env X.xe) : ∀ (ss : List S), OkSs X G Wx (mtSs G N sc fn ss) (evSs G cf ss)
  | [] => fun xs h => by
    unfold mtSs at h
    have e := List.isEmpty_iff.mp h
    subst e
    refine (r_snil (G := G) (Wx := Wx)).imp fun D σ H hq => ?_
    obtain ⟨C, r, v, R, E, hw⟩ := hq
    refine ⟨C, r, v, R, E, ?_⟩
    unfold evSs at hw
    exact hw
  | s :: ss => fun xs h => by
    unfold mtSs at h
    match xs, h with
    | [], h => cases h
    | x :: ys, h =>
      obtain ⟨h1, h2⟩ := b2 h
      refine (r_scons (mtS_ok c hp s x h1) (mtSs_ok c hp ss ys h2)).imp fun D σ H hq => ?_
      obtain ⟨C, r, v, R, E, hw⟩ := hq
      refine ⟨C, r, v, R, E, ?_⟩
      unfold evSs at hw
      exact hw
end
end
end BL
set_option Elab.async false
set_option linter.all false
set_option maxRecDepth 100000
set_option maxHeartbeats 1000000
/-! BL23: methods that say super().__init__. -/
namespace BL
open PySem L2
section
variable {X : Cx} {G : Sg} {cf : Cf} {L : Nat} {Wx : WX} {N : List Str} {sc : Scope} {fn : Str → Bool}
theorem evl_len : ∀ {es : List E}, (evl G cf es).length = es.length
  | [] => by unfold evl; rfl
  | e :: es => by unfold evl; simp [evl_len (es := es)]
theorem SdA.len : ∀ {qs : S3s} {xs : List Expr}, SdA X G Wx qs xs → qs.length = xs.length
  | [], xs, h => by
    have e : xs = [] := h
    subst e
    rfl
  | p :: qs, xs, h => by
    obtain ⟨x, ys, rfl, _, h2⟩ := h
    simp [SdA.len h2]
theorem meth_form1 {x : Expr} {xs : List Expr} {p3 : Pos} (ns : noStar (x :: xs) = true) (hfew : Nat.blt (x :: xs).length 29 = true) : methodCallForm (x :: xs).length (backTo p3 (starEach (x :: xs) X.env)) [] = true := by
  unfold methodCallForm
  rw [star_all ns]
  have : (x :: xs).length < 29 := Nat.le_of_ble_eq_true (show Nat.ble ((x :: xs).length + 1) 29 = true from hfew)
  simp at this ⊢
  omega
/-- super().__init__(e, ..) within the class d -/
theorem r_sup {qual self : Str} {La f cda cc : Addr} {scope : Scope} {body : List Stmt} {d k : Nat} {fd : Fd} {e : Expr} {es : List Expr} {qs : S3s} {p0 p1 p2 p3 p4 : Pos} (D : Gd X G cf L Wx) (hX : X.env = PySem.W.envX qual scope La f (.ref cda) [("__class__", cc)])
    (S : SupS X.prog X.K X.mg scope f cda cc (cAd X.K G d) self) (hN : X.N[0]? = some self) (hc : SupC X.K (cAd X.K G d) (cAd X.K G d) (fA X.K G k)) (hk : G.fns[k]? = some fd) (ha : SdA X G Wx qs (e :: es)) (ns : noStar (e :: es) = true) (hfew : Nat.blt (e :: es).length 29 = true) (hline : (p2.endLine == p3.line) = true) :
    PSA X (.func body X.env) (.Expr (.Call (.Attribute (.Call (.Name "super" p0) [] [] p1) "__init__" p2) (e :: es) [] p3) p4)
      (tS' X G Wx fun v C => upS ((M.chk (supAr G k qs.length)).bind fun _ => (supW d v).bind fun x => (evEs qs v).bind fun ws => (M.chk (Nat.beq ws.length qs.length)).bind fun _ => callK G cf k (x :: ws)) v (fun _ C1 => .ret (.nx v C1)) C) := by
  obtain ⟨dat, FS⟩ := D.fns.at_ k fd hk
  obtain ⟨dvs, hD, hl, hR⟩ := FS.df
  have hlen := ha.len
  cases har : supAr G k qs.length with
  | false =>
    refine ⟨fun pins s σ H Z I h => ?_⟩
    obtain ⟨C, r, v, R, E, hw⟩ := h
    unfold upS at hw
    have hw := (wp_chk.mp (Tr.wp_bind.mp hw)).1
    cases hw
  | true =>
    have har0 := har
    unfold supAr at har
    rw [hk] at har
    obtain ⟨ar1, ar2⟩ := b2 har
    have ar1 := Nat.le_of_ble_eq_true ar1
    have ar2 := Nat.le_of_ble_eq_true ar2
    have hdl : fd.dfl.length = dvs.length := (hR 0 (fun _ => 0) (fun _ => none)).length
    obtain ⟨ds, rd, hbi⟩ := pos_binds FS.pl hD hl (1 + qs.length) ar1 (by omega)
    refine (ps_super (E := fun σ => WE Wx σ) hX S hN FS.fn (D.room.mono (by omega)) hbi rd (fun σ => passAt D.tk σ) ha.pa (star_cons ns) (star_none (noStar_tail ns)) (meth_form1 ns hfew) hline).imp fun Z σ H hq => ?_
    obtain ⟨C, r, v, R, E, hw⟩ := hq
    unfold upS at hw
    have hw := (wp_chk.mp (Tr.wp_bind.mp hw)).2
    have hw : (((supW d v).bind fun x => (evEs qs v).bind fun ws => (M.chk (Nat.beq ws.length qs.length)).bind fun _ => callK G cf k (x :: ws)) C).wp (Post X.K G (RelW X.K) Wx σ C r H fun _ H' => Z.nx σ H') := by
      refine Tr.wp_mono (fun y hy => ?_) hw
      cases y with
      | exc y C1 =>
        have hy : PostS X.K G Wx Z C r H (.exc y v C1) := hy
        exact fun r' H' d l R' X' hd hf => hy r' H' σ d l R' X' (E.ext R X') hd hf
      | ok u C1 => exact fun r' H' _ R' X' _ => hy r' H' σ R' X' (E.ext R X')
    have hw := wp_bindM.mp (wp_bindM.mp hw)
    unfold varW at hw
    cases e0 : v[0]? with
    | none => rw [e0] at hw; exact hw.elim
    | some o =>
      rw [e0] at hw
      cases o with
      | none => exact hw.elim
      | some w =>
        obtain ⟨a, rfl⟩ : ∃ a, w = .ref a := by
          cases w <;> first
            | exact ⟨_, rfl⟩
            | exact hw.elim
        obtain ⟨ob, e1, hw⟩ := wp_get.mp (wp_bindM.mp (wp_bindM.mpr hw))
        cases ob <;> first
          | exact hw.elim
          | skip
        rename_i c fs
        obtain ⟨hcd, hw2⟩ := wp_chk.mp hw
        have hcd := Nat.eq_of_beq_eq_true hcd
        subst hcd
        obtain ⟨x, ex, rx⟩ := E.get e0
        obtain ⟨dx, l, rfl, hH, _⟩ := R.ins rx e1
        refine ⟨_, _, dx, l, ex, hH, hc, ?_⟩
        refine tl_intro R E hw2 fun C1 r1 H1 ws vs R1 X1 rv q => ?_
        obtain ⟨hn, q⟩ := wp_chk.mp q
        have hn := Nat.eq_of_beq_eq_true hn
        unfold callK at q
        rw [hk] at q
        obtain ⟨us', ef, q⟩ := wp_opt.mp q
        unfold fill at ef
        have hwl : (W.ref a :: ws).length = 1 + qs.length := by rw [List.length_cons, hn]; omega
        cases hcc : (Nat.ble (W.ref a :: ws).length fd.ps.length && Nat.ble (fd.ps.length - (W.ref a :: ws).length) fd.dfl.length) with
        | false => rw [hcc] at ef; cases ef
        | true =>
          rw [hcc] at ef
          cases ef
          have rvl := RVs.length rv
          rw [hwl] at q
          refine ⟨?_, C1, r1, _, R1, ?_, Tr.wp_mono (fun _ z => Post.wx z) q⟩
          · simp only [List.length_cons, List.length_append, List.length_drop]
            omega
          · rw [List.cons_append, hdl]
            exact .cons (rx.ext R X1) (RVs.append rv ((hR _ _ _).drop _))
end
end BL
set_option Elab.async false
set_option linter.all false
set_option maxRecDepth 100000
set_option maxHeartbeats 1000000
/-! BL24: defs held against the text. -/
namespace BL
open PySem L2
def mSup (f : List Expr → Bool) : Ms
  | .Expr (.Call (.Attribute (.Call (.Name s _) [] [] _) i p2) (e :: es) [] p3) _ => decide (s = ("super" : Str)) && (decide (i = ("__init__" : Str)) && (noStar (e :: es) && (Nat.blt (e :: es).length 29 && ((p2.endLine == p3.line) && f (e :: es)))))
  | _ => false
def mtX (G : Sg) (N : List Str) (sc : Scope) (fn : Str → Bool) (s : S) (x : Stmt) : Bool := match s with
  | .sup _ _ es => mSup (mtEs G N es sc fn) x
  | s => mtS G N sc fn s x
def mtB (G : Sg) (N : List Str) (sc : Scope) (fn : Str → Bool) : List S → List Stmt → Bool
  | [], xs => xs.isEmpty
  | s :: ss, xs => match xs with
    | [] => false
    | x :: ys => mtX G N sc fn s x && mtB G N sc fn ss ys
/-- what a body says of super -/
def sups : List S → List (Nat × Nat)
  | [] => []
  | .sup d k _ :: ss => (d, k) :: sups ss
  | _ :: ss => sups ss
section
variable {G : Sg} {cf : Cf} {L : Nat} {N : List Str} {X : Cx} {Wx : WX} {sc : Scope} {fn : Str → Bool}
theorem mtX_plain {s : S} {x : Stmt} (h : mtX G N sc fn s x = true) : (∃ d k es, s = .sup d k es) ∨ mtS G N sc fn s x = true := by
  cases s <;> first
    | exact .inl ⟨_, _, _, rfl⟩
    | exact .inr h
theorem sups_tail {s : S} {ss : List S} {p : Nat × Nat} (h : p ∈ sups ss) : p ∈ sups (s :: ss) := by
  cases s <;> first
    | exact h
    | exact List.mem_cons_of_mem _ h
theorem mtB_ok {qual self : Str} {La f cda cc : Addr} {scope : Scope} {body : List Stmt} {dc : Nat} (c : Ctx X G cf L Wx N sc fn) (hp : PassesOwn (model X.prog X.w) X.A X.env X.xe) (hX : X.env = PySem.W.envX qual scope La f (.ref cda) [("__class__", cc)])
    (SS : SupS X.prog X.K X.mg scope f cda cc (cAd X.K G dc) self) (hN : X.N[0]? = some self) : ∀ (ss : List S) (xs : List Stmt), mtB G N sc fn ss xs = true → (∀ p ∈ sups ss, p.1 = dc ∧ SupC X.K (cAd X.K G dc) (cAd X.K G dc) (fA X.K G p.2) ∧ ∃ fd, G.fns[p.2]? = some fd) →
      PSsA X (.func body X.env) xs (tS' X G Wx (evSs G cf ss))
  | [], xs, h, _ => PSs.atC (mtSs_ok c hp [] xs (by unfold mtSs; unfold mtB at h; exact h))
  | s :: ss, xs, h, hs => by
    unfold mtB at h
    match xs, h with
    | [], h => cases h
    | x :: ys, h =>
      obtain ⟨h1, h2⟩ := b2 h
      have rest := mtB_ok (body := body) c hp hX SS hN ss ys h2 fun p hp => hs p (sups_tail hp)
      have one : PSA X (.func body X.env) x (tS' X G Wx (evS G cf s)) := by
        rcases mtX_plain h1 with ⟨d, k, es, rfl⟩ | h1
        · obtain ⟨e1, e2, fd, e3⟩ := hs (d, k) (by unfold sups; exact List.mem_cons_self)
          dsimp only at e1 e2 e3
          subst e1
          unfold mtX at h1
          dsimp only at h1
          unfold mSup at h1
          split at h1
          · obtain ⟨z1, h1⟩ := b2 h1
            obtain ⟨z2, h1⟩ := b2 h1
            obtain ⟨z3, h1⟩ := b2 h1
            obtain ⟨z4, h1⟩ := b2 h1
            obtain ⟨z5, z6⟩ := b2 h1
            have q1 := of_decide_eq_true z1
            have q2 := of_decide_eq_true z2
            subst q1 q2
            refine (r_sup c.D hX SS hN e2 e3 (mtEs_ok es sc fn X Wx c _ z6) z3 z4 z5).imp fun D σ H hq => ?_
            obtain ⟨C, r, v, R, E, hw⟩ := hq
            refine ⟨C, r, v, R, E, ?_⟩
            unfold evS at hw
            rw [evl_len]
            exact hw
          · cases h1
        · exact PS.atC (mtS_ok c hp s x h1)
      refine (psa_cons one rest).imp fun D σ H hq => s_seq D σ H ?_
      obtain ⟨C, r, v, R, E, hw⟩ := hq
      refine ⟨C, r, v, R, E, ?_⟩
      unfold evSs at hw
      exact hw
end
/-! ### written values -/
mutual
def vW (K : PySem.W.Frag) : W → Value → Bool
  | .non, u => (match u with
    | .none => true
    | _ => false)
  | .bl b, u => (match u with
    | .bool c => b == c
    | _ => false)
  | .int i, u => (match u with
    | .int j _ => decide (i = j)
    | _ => false)
  | .str x, u => (match u with
    | .str y _ => decide (x = y)
    | _ => false)
  | .tup ws, u => (match u with
    | .ref a => (match K.lookup a with
      | some ⟨.type c, _, .seq its _, _⟩ => decide (c = "tuple") && (decide (its.size ≤ sizeLine) && vWs K ws its.toList)
      | _ => false)
    | _ => false)
  | _, _ => false
def vWs (K : PySem.W.Frag) : List W → List Value → Bool
  | [], us => us.isEmpty
  | w :: ws, us => (match us with
    | [] => false
    | u :: r => vW K w u && vWs K ws r)
end
mutual
theorem vW_ok {K : PySem.W.Frag} : ∀ (w : W) (u : Value), vW K w u = true → ∃ v, RelV v u ∧ ∀ n r H, RV K n r H w v
  | .non, u, h => by
    unfold vW at h
    split at h
    · exact ⟨.non, rfl, fun n r H => by unfold RV; rfl⟩
    · cases h
  | .bl b, u, h => by
    unfold vW at h
    split at h
    · rename_i c
      have e : b = c := eq_of_beq h
      subst e
      exact ⟨.bl b, rfl, fun n r H => by unfold RV; rfl⟩
    · cases h
  | .int i, u, h => by
    unfold vW at h
    split at h
    · rename_i j t
      have e : i = j := of_decide_eq_true h
      subst e
      exact ⟨.int i, ⟨t, rfl⟩, fun n r H => by unfold RV; rfl⟩
    · cases h
  | .str x, u, h => by
    unfold vW at h
    split at h
    · rename_i y t
      have e : x = y := of_decide_eq_true h
      subst e
      exact ⟨.str x, ⟨t, rfl⟩, fun n r H => by unfold RV; rfl⟩
    · cases h
  | .tup ws, u, h => by
    unfold vW at h
    split at h
    · rename_i a
      split at h
      · rename_i c d its n sl q
        obtain ⟨h1, h2⟩ := b2 h
        obtain ⟨h3, h4⟩ := b2 h2
        obtain ⟨vs, rv, hr⟩ := vWs_ok ws its.toList h4
        refine ⟨.ref a, rfl, fun n r H => ?_⟩
        unfold RV
        exact ⟨a, vs, rfl, .inr ⟨_, its, _, q, congrArg Value.type (of_decide_eq_true h1), rfl, of_decide_eq_true h3, rv⟩, hr n r H⟩
      · cases h
    · cases h
  | .ref _, u, h => by unfold vW at h; cases h
  | .glo _, u, h => by unfold vW at h; cases h
  | .ty _, u, h => by unfold vW at h; cases h
  | .scr _, u, h => by unfold vW at h; cases h
theorem vWs_ok {K : PySem.W.Frag} : ∀ (ws : List W) (us : List Value), vWs K ws us = true → ∃ vs, Vals vs us ∧ ∀ n r H, RVs K n r H ws vs
  | [], us, h => by
    unfold vWs at h
    have e := List.isEmpty_iff.mp h
    subst e
    exact ⟨[], .nil, fun _ _ _ => .nil⟩
  | w :: ws, us, h => by
    unfold vWs at h
    match us, h with
    | [], h => cases h
    | u :: us, h =>
      obtain ⟨h1, h2⟩ := b2 h
      obtain ⟨v, rv, hr⟩ := vW_ok w u h1
      obtain ⟨vs, rvs, hrs⟩ := vWs_ok ws us h2
      exact ⟨v :: vs, .cons rv rvs, fun n r H => .cons (hr n r H) (hrs n r H)⟩
end
def dflWB (K : PySem.W.Frag) (ws : List W) (dV : Value) : Bool := match ws with
  | [] => (match dV with
    | .none => true
    | _ => false)
  | ws => (match dV with
    | .ref T => (match K.lookup T with
      | some ⟨_, _, .seq its _, _⟩ => vWs K ws its.toList
      | _ => false)
    | _ => false)
theorem dflWB_ok {K : PySem.W.Frag} {ws : List W} {dV : Value} (h : dflWB K ws dV = true) : ∃ dvs, DflV K dV dvs ∧ ∀ n r H, RVs K n r H ws dvs := by
  unfold dflWB at h
  split at h
  · split at h
    · exact ⟨[], .inl ⟨rfl, rfl⟩, fun _ _ _ => .nil⟩
    · cases h
  · rename_i hne
    split at h
    · rename_i T
      split at h
      · rename_i c d its n sl q
        obtain ⟨vs, rv, hr⟩ := vWs_ok _ _ h
        have hl := (hr 0 (fun _ => 0) (fun _ => none)).length
        refine ⟨vs, .inr ⟨fun e => ?_, T, _, its.toList, n, rfl, q, by simp, rv⟩, hr⟩
        subst e
        exact hne (List.eq_nil_of_length_eq_zero hl)
      · cases h
    · cases h
/-! ### a def -/
def paramsB (a : Arguments) (ps : List Str) : Bool := a.posonlyargs.isEmpty && (strsB (a.args.map (·.arg)) ps && (a.vararg.isNone && (a.kwonlyargs.isEmpty && (a.kwarg.isNone && decide ps.Nodup))))
theorem paramsB_ok {dat : FuncData} {ps : List Str} (h : paramsB dat.params ps = true) : PlainP dat ps := by
  obtain ⟨h1, h⟩ := b2 h
  obtain ⟨h2, h⟩ := b2 h
  obtain ⟨h3, h⟩ := b2 h
  obtain ⟨h4, h⟩ := b2 h
  obtain ⟨h5, h6⟩ := b2 h
  exact ⟨List.isEmpty_iff.mp h1, strsB_ok h2, Option.isNone_iff_eq_none.mp h3, List.isEmpty_iff.mp h4, Option.isNone_iff_eq_none.mp h5, of_decide_eq_true h6⟩
def fnK (sc : Scope) : Bool := match sc.kind with
  | .function => true
  | _ => false
theorem fnK_ok {sc : Scope} (h : fnK sc = true) : sc.kind = .function := by
  unfold fnK at h
  split at h
  · assumption
  · cases h
def scopeB (N ps : List Str) (sc : Scope) : Bool := fnK sc && (!sc.isCoroutine && (!sc.isGenerator && (decide N.Nodup && (strsB (N.take ps.length) ps && ((ps.all fun x => locB sc x || (match sc.names.lookup x with
  | some .cell => true
  | _ => false)) && sc.names.all fun y => match y.2 with
  | .free => false
  | _ => true)))))
theorem scopeB_ok {N ps : List Str} {sc : Scope} (h : scopeB N ps sc = true) : FnScope N ps sc := by
  obtain ⟨h1, h⟩ := b2 h
  obtain ⟨h2, h⟩ := b2 h
  obtain ⟨h3, h⟩ := b2 h
  obtain ⟨h4, h⟩ := b2 h
  obtain ⟨h5, h⟩ := b2 h
  obtain ⟨h6, h7⟩ := b2 h
  rw [Bool.not_eq_true'] at h2 h3
  refine ⟨fnK_ok h1, h2, h3, of_decide_eq_true h4, strsB_ok h5, fun x hx => ?_, fun y hy e => ?_⟩
  · have z := List.all_eq_true.mp h6 x hx
    rw [Bool.or_eq_true] at z
    rcases z with z | z
    · exact .inl (locB_ok z)
    · split at z
      · exact .inr (by assumption)
      · cases z
  · have z := List.all_eq_true.mp h7 y hy
    rw [e] at z
    cases z
def scopeSB (N ps : List Str) (sc : Scope) : Bool := fnK sc && (!sc.isCoroutine && (!sc.isGenerator && (decide N.Nodup && (strsB (N.take ps.length) ps && ((ps.all fun x => locB sc x) && ((sc.names.all fun y => match y.2 with
  | .cell => false
  | _ => true) && sc.names.all fun y => match y.2 with
  | .free => decide (y.1 = ("__class__" : Str))
  | _ => true))))))
theorem scopeSB_ok {N ps : List Str} {sc : Scope} (h : scopeSB N ps sc = true) : FnScopeS N ps sc := by
  obtain ⟨h1, h⟩ := b2 h
  obtain ⟨h2, h⟩ := b2 h
  obtain ⟨h3, h⟩ := b2 h
  obtain ⟨h4, h⟩ := b2 h
  obtain ⟨h5, h⟩ := b2 h
  obtain ⟨h6, h⟩ := b2 h
  obtain ⟨h7, h8⟩ := b2 h
  rw [Bool.not_eq_true'] at h2 h3
  refine ⟨fnK_ok h1, h2, h3, of_decide_eq_true h4, strsB_ok h5, fun x hx => locB_ok (List.all_eq_true.mp h6 x hx), fun y hy e => ?_, fun y hy e => ?_⟩
  · have z := List.all_eq_true.mp h7 y hy
    rw [e] at z
    cases z
  · have z := List.all_eq_true.mp h8 y hy
    rw [e] at z
    exact of_decide_eq_true z
end BL
set_option Elab.async false
set_option linter.all false
set_option maxRecDepth 100000
set_option maxHeartbeats 1000000
/-! BL25: what is written, read by a Bool. -/
namespace BL
open PySem L2
/-! ### super -/
def ownCls (G : Sg) (k : Nat) : Option Nat := match sups ((G.fns[k]?).elim [] (·.body)) with
  | [] => none
  | p :: _ => some p.1
def supCB (K : PySem.W.Frag) (C D g : Addr) : Bool := decide (PySem.W.mroIn K C (.ref D) = some true) && (He.eqO (PySem.W.ks_superIn K C D "__init__") (some (some (.ref g))) && (decide (PySem.W.typeIn K (.ref g) = some (.type "function")) && PySem.W.fnIn K g))
theorem supCB_ok {K : PySem.W.Frag} {C D g : Addr} (h : supCB K C D g = true) : SupC K C D g := by
  obtain ⟨h1, h⟩ := b2 h
  obtain ⟨h2, h⟩ := b2 h
  obtain ⟨h3, h4⟩ := b2 h
  exact ⟨of_decide_eq_true h1, He.eqO_ok h2, of_decide_eq_true h3, h4⟩
def supSB (P : Program) (K : PySem.W.Frag) (dat : FuncData) (cc D : Addr) (sf : Str) : Bool :=
  (match dat.params.posonlyargs ++ dat.params.args with
    | ar :: _ => decide (ar.arg = sf)
    | [] => false) && ((match dat.code with
    | .ref cda => (match K.lookup cda with
      | some ⟨_, _, .fields vs, _⟩ => (match vs[2]? with
        | some (Value.str file _) => ((P.main.file : Str) == file)
        | _ => false)
      | _ => false)
    | _ => false) && ((match K.lookup cc with
    | some ⟨_, _, .cell (some (.ref a)), _⟩ => decide (a = D)
    | _ => false) && ((PySem.W.clsIn K D).isSome && (He.eqO (PySem.W.nsIn K mainGlobals "super") (some none) && (glB dat.scope "super" && ((match dat.scope.names.lookup ("__class__" : Str) with
    | some .free => true
    | _ => false) && (locB dat.scope sf && ((!(P.main.scope.names.lookup ("super" : Str)).isSome) && He.eqO (PySem.W.nsIn K cStatics "thirdparty.any") (some none)))))))))
theorem supSB_ok {P : Program} {K : PySem.W.Frag} {h : Heap} {mg : Str → Option Value} {dat : FuncData} {f cc D : Addr} {sf : Str} {oc : Value} {od : Option Addr} {osl : Array (Option Value)} (X : K.In h) (Gn : h.Ns mainGlobals mg) (lk : K.lookup f = some ⟨oc, od, .func dat, osl⟩)
    (hh : supSB P K dat cc D sf = true) : ∃ cda, dat.code = .ref cda ∧ SupS P K mg dat.scope f cda cc D sf := by
  unfold supSB at hh
  obtain ⟨h1, hh⟩ := b2 hh
  obtain ⟨h2, hh⟩ := b2 hh
  obtain ⟨h3, hh⟩ := b2 hh
  obtain ⟨h4, hh⟩ := b2 hh
  obtain ⟨h5, hh⟩ := b2 hh
  obtain ⟨h6, hh⟩ := b2 hh
  obtain ⟨h7, hh⟩ := b2 hh
  obtain ⟨h8, hh⟩ := b2 hh
  obtain ⟨h9, h10⟩ := b2 hh
  cases ec : dat.code with
  | ref cda =>
    rw [ec] at h2
    refine ⟨cda, rfl, ?_, ?_, ?_, ?_, PySem.W.mg_none_of X Gn (He.eqO_ok h5), ?_, ?_, locB_ok h8, ?_, He.eqO_ok h10⟩
    · split at h1
      · rename_i ar r e
        exact ⟨oc, od, dat, osl, ar, lk, by rw [e]; rfl, of_decide_eq_true h1⟩
      · cases h1
    · dsimp only at h2
      split at h2
      · rename_i c d vs sl e
        split at h2
        · rename_i file t e2
          exact ⟨_, _, vs, _, file, t, e, e2, h2⟩
        · cases h2
      · cases h2
    · split at h3
      · rename_i c d a sl e
        have := of_decide_eq_true h3
        subst this
        exact ⟨_, _, _, e⟩
      · cases h3
    · exact Option.isSome_iff_exists.mp h4
    · unfold glB at h6
      split at h6
      · assumption
      · cases h6
    · split at h7
      · assumption
      · cases h7
    · rw [Bool.not_eq_true'] at h9
      exact h9
  | _ => rw [ec] at h2; cases h2
/-! ### a def -/
def bodyB (P : Program) (K : PySem.W.Frag) (G : Sg) (fd : Fd) (dat : FuncData) (b : List Stmt) : Bool := match dat.closure with
  | [] => scopeB fd.N fd.ps dat.scope && mtSs G fd.N dat.scope (fun _ => true) fd.body b
  | [(n, cc)] => decide (n = ("__class__" : Str)) && (scopeSB fd.N fd.ps dat.scope && (mtB G fd.N dat.scope (fun _ => false) fd.body b && (match sups fd.body, fd.N with
    | (d, k) :: r, sf :: _ => supSB P K dat cc (cAd K G d) sf && (((d, k) :: r).all fun p => Nat.beq p.1 d && (supCB K (cAd K G d) (cAd K G d) (fA K G p.2) && Nat.blt p.2 G.fns.length))
    | _, _ => false)))
  | _ => false
def fnB (P : Program) (K : PySem.W.Frag) (G : Sg) (fd : Fd) : Bool := match K.lookup (He.fAd K fd.key) with
  | some ⟨_, _, .func dat, _⟩ => PySem.W.keepIn K (.ref (He.fAd K fd.key)) && (PySem.W.codeIn K dat.code dat.qualname && (decide (dat.globals = mainGlobals) && (decide (dat.builtins = builtinsNs) && (paramsB dat.params fd.ps && (dflWB K fd.dfl dat.defaults && (Nat.ble fd.dfl.length fd.ps.length && (match dat.body with
    | .stmts b => Nat.ble 3 fd.kind || bodyB P K G fd dat b
    | _ => false)))))))
  | _ => false
/-- what is known of a def's object -/
structure FnF (P : Program) (K : PySem.W.Frag) (G : Sg) (f : Addr) (fd : Fd) (dat : FuncData) : Prop where
  lk : ∃ oc od osl, K.lookup f = some ⟨oc, od, .func dat, osl⟩
  kp : PySem.W.keepIn K (.ref f) = true
  cd : PySem.W.codeIn K dat.code dat.qualname = true
  gl : dat.globals = mainGlobals
  bl : dat.builtins = builtinsNs
  pl : PlainP dat fd.ps
  df : ∃ dvs, DflV K dat.defaults dvs ∧ dvs.length ≤ fd.ps.length ∧ ∀ n r H, RVs K n r H fd.dfl dvs
  bd : ∃ b, dat.body = .stmts b ∧ (fd.kind < 3 → bodyB P K G fd dat b = true)
theorem fnB_ok {P : Program} {K : PySem.W.Frag} {G : Sg} {fd : Fd} (h : fnB P K G fd = true) : ∃ dat, FnF P K G (He.fAd K fd.key) fd dat := by
  unfold fnB at h
  split at h
  · rename_i oc od dat osl e
    obtain ⟨h1, h⟩ := b2 h
    obtain ⟨h2, h⟩ := b2 h
    obtain ⟨h3, h⟩ := b2 h
    obtain ⟨h4, h⟩ := b2 h
    obtain ⟨h5, h⟩ := b2 h
    obtain ⟨h6, h⟩ := b2 h
    obtain ⟨h7, h8⟩ := b2 h
    obtain ⟨dvs, hD, hR⟩ := dflWB_ok h6
    refine ⟨dat, ⟨oc, od, osl, e⟩, h1, h2, of_decide_eq_true h3, of_decide_eq_true h4, paramsB_ok h5, ⟨dvs, hD, ?_, hR⟩, ?_⟩
    · rw [← (hR 0 (fun _ => 0) (fun _ => none)).length]
      exact Nat.le_of_ble_eq_true h7
    · split at h8
      · rename_i b eb
        refine ⟨b, eb, fun hk => ?_⟩
        rw [Bool.or_eq_true] at h8
        rcases h8 with h8 | h8
        · have := Nat.le_of_ble_eq_true h8
          omega
        · exact h8
      · cases h8
  · cases h
/-! ### classes -/
def tys : List Ty0 := [.none, .bool, .int, .str, .tuple, .list]
theorem tys_all (t : Ty0) : t ∈ tys := by cases t <;> decide
def clsPB (K : PySem.W.Frag) (G : Sg) (c : Nat) (d : Cd) : Bool :=
  (PySem.W.plainGet K (cAd K G c) Str.empty && (PySem.W.hasDictIn K (cAd K G c) && (PySem.W.plainOver K (cAd K G c) && He.eqO (PySem.W.findIn K (.ref (cAd K G c)) "__setattr__") (some (some (.builtin "object.__setattr__")))))) &&
  ((match G.fns[d.init]? with
    | some _ => PySem.W.makesIn K (cAd K G c) && (He.eqO (PySem.W.findIn K (.ref (cAd K G c)) "__init__") (some (some (.ref (fA K G d.init)))) && (PySem.W.isFn K (.ref (fA K G d.init)) && PySem.W.keepIn K (.ref (cAd K G c))))
    | none => true) &&
  (He.eqO (PySem.W.findIn K (.ref (cAd K G c)) "__class__") (some (some (.builtin "object.__class__"))) &&
  (decide (PySem.W.mroIn K (cAd K G c) (.type "object") = some true) &&
  (((List.range G.nms.length).all fun i => match lk i d.mth with
    | none => He.eqO (PySem.W.findIn K (.ref (cAd K G c)) (nmS G i)) (some none)
    | some k => He.eqO (PySem.W.findIn K (.ref (cAd K G c)) (nmS G i)) (some (some (.ref (fA K G k)))) && (PySem.W.isFn K (.ref (fA K G k)) && PySem.W.keepIn K (.ref (fA K G k)))) &&
  ((d.mth.all fun p => Nat.blt p.1 G.nms.length) &&
  ((match G.fns[d.eq]? with
    | some _ => He.eqO (PySem.W.findIn K (.ref (cAd K G c)) "__eq__") (some (some (.ref (fA K G d.eq)))) && (PySem.W.isFn K (.ref (fA K G d.eq)) && He.eqO (PySem.W.findIn K (.ref (cAd K G c)) "__ne__") (some (some (.builtin "object.__ne__"))))
    | none => true) &&
  ((match G.fns[d.str]? with
    | some _ => He.eqO (PySem.W.findIn K (.ref (cAd K G c)) "__str__") (some (some (.ref (fA K G d.str)))) && PySem.W.isFn K (.ref (fA K G d.str))
    | none => true) &&
  ((tys.all fun n => PySem.W.notFirst K (cAd K G c) (.type n.nm)) &&
   ((List.range G.cls.length).all fun e => !(Nat.beq e c || isTag G.cls (.cls e) (.cls c) == some false) || PySem.W.notFirst K (cAd K G c) (.ref (cAd K G e)))))))))))
def globB (K : PySem.W.Frag) (x : Str) (a : Addr) : Bool := He.eqO (PySem.W.nsIn K mainGlobals x) (some (some (.ref a)))
def tags (G : Sg) : List CT := tys.map .ty ++ (List.range G.cls.length).map .cls
def statB (P : Program) (K : PySem.W.Frag) (G : Sg) : Bool :=
  decide G.nms.Nodup && (((List.range G.cls.length).all fun c => match G.cls[c]? with
    | some d => globB K d.name (cAd K G c) && (match clsP G.cls c with
      | some d => clsPB K G c d
      | none => true)
    | none => true) &&
  (((List.range G.fns.length).all fun k => match G.fns[k]? with
    | some fd => fnB P K G fd && (match fd.key.2 with
      | none => globB K fd.key.1 (fA K G k)
      | some _ => true)
    | none => true) &&
  ((G.cst.all fun p => match PySem.W.nsIn K mainGlobals p.1 with
    | some (some u) => vW K p.2 u
    | _ => false) &&
  ((bltNames.all fun x => He.eqO (PySem.W.nsIn K mainGlobals x) (some none)) &&
  (He.eqO (PySem.W.specialIn K (.builtin "object.__class__") "__get__") (some (some (.builtin "getset_descriptor.__get__"))) &&
  (decide (PySem.W.takesIn K (.builtin "object.__class__") = some true) &&
  ((tags G).all fun t => (tags G).all fun c => match isTag G.cls t c with
    | some b => decide (PySem.W.kitOne K (tyV0 K G t) (tyV0 K G c) = some b)
    | none => true)))))))
theorem lt_of_get {α : Type} {l : List α} {i : Nat} {a : α} (h : l[i]? = some a) : i < l.length := (List.getElem?_eq_some_iff.mp h).1
theorem isTag_mem {G : Sg} {t c : CT} {b : Bool} (h : isTag G.cls t c = some b) : t ∈ tags G ∧ c ∈ tags G := by
  have ty : ∀ n, CT.ty n ∈ tags G := fun n => List.mem_append_left _ (List.mem_map_of_mem (tys_all n))
  have cl : ∀ d, d < G.cls.length → CT.cls d ∈ tags G := fun d hd => List.mem_append_right _ (List.mem_map_of_mem (List.mem_range.mpr hd))
  cases t with
  | ty n =>
    cases c with
    | ty m => exact ⟨ty n, ty m⟩
    | cls x =>
      unfold isTag at h
      cases e : G.cls[x]? with
      | none => simp only [e] at h; cases h
      | some d => exact ⟨ty n, cl x (lt_of_get e)⟩
  | cls d =>
    cases c with
    | ty m =>
      unfold isTag at h
      cases e : G.cls[d]? with
      | none => simp only [e] at h; cases h
      | some _ => exact ⟨cl d (lt_of_get e), ty m⟩
    | cls x =>
      unfold isTag at h
      cases e : G.cls[d]? with
      | none => simp only [e] at h; cases h
      | some _ =>
        cases e2 : G.cls[x]? with
        | none => simp only [e, e2] at h; cases h
        | some _ => exact ⟨cl d (lt_of_get e), cl x (lt_of_get e2)⟩
theorem clsP_get {cls : List Cd} {c : Nat} {d : Cd} (h : clsP cls c = some d) : cls[c]? = some d := by
  unfold clsP at h
  split at h
  · rename_i d' e
    cases q : Nat.beq d'.kind 0 with
    | true => rw [q] at h; cases h; exact e
    | false => rw [q] at h; cases h
  · cases h
section
variable {P : Program} {K : PySem.W.Frag} {h : Heap} {mg : Str → Option Value} {G : Sg}
theorem clsPB_ok {c : Nat} {d : Cd} (hg : mg d.name = some (.ref (cAd K G c))) (hh : clsPB K G c d = true) : ClsS K mg G c d := by
  obtain ⟨h1, hh⟩ := b2 hh
  obtain ⟨h2, hh⟩ := b2 hh
  obtain ⟨h3, hh⟩ := b2 hh
  obtain ⟨h4, hh⟩ := b2 hh
  obtain ⟨h5, hh⟩ := b2 hh
  obtain ⟨h6, hh⟩ := b2 hh
  obtain ⟨h7, hh⟩ := b2 hh
  obtain ⟨h8, hh⟩ := b2 hh
  obtain ⟨a1, h1⟩ := b2 h1
  obtain ⟨a2, h1⟩ := b2 h1
  obtain ⟨a3, a4⟩ := b2 h1
  refine ⟨hg, ⟨a1, a2, a3, He.eqO_ok a4⟩, fun fd e => ?_, He.eqO_ok h3, of_decide_eq_true h4, fun i hi e => ?_, fun m k e => ?_, fun fd e => ?_, fun fd e => ?_⟩
  · rw [e] at h2
    obtain ⟨z1, h2⟩ := b2 h2
    obtain ⟨z2, h2⟩ := b2 h2
    obtain ⟨z3, z4⟩ := b2 h2
    exact ⟨z1, He.eqO_ok z2, z3, z4⟩
  · have z := List.all_eq_true.mp h5 i (List.mem_range.mpr hi)
    rw [e] at z
    exact He.eqO_ok z
  · have hm : ∃ p ∈ d.mth, p.1 = m := by
      clear h6 hh h5
      generalize d.mth = l at e
      induction l with
      | nil => cases e
      | cons p r ih =>
        unfold lk at e
        by_cases q : p.1 = m
        · exact ⟨p, List.mem_cons_self, q⟩
        · rw [beq_f q] at e
          obtain ⟨p', h1, h2⟩ := ih e
          exact ⟨p', List.mem_cons_of_mem _ h1, h2⟩
    obtain ⟨p, hp, rfl⟩ := hm
    have hlt : p.1 < G.nms.length := Nat.le_of_ble_eq_true (show Nat.ble (p.1 + 1) G.nms.length = true from List.all_eq_true.mp h6 p hp)
    refine ⟨hlt, ?_⟩
    have z := List.all_eq_true.mp h5 p.1 (List.mem_range.mpr hlt)
    rw [e] at z
    obtain ⟨z1, z⟩ := b2 z
    obtain ⟨z2, z3⟩ := b2 z
    exact ⟨He.eqO_ok z1, z2, z3⟩
  · rw [e] at h7
    obtain ⟨z1, z⟩ := b2 h7
    obtain ⟨z2, z3⟩ := b2 z
    exact ⟨He.eqO_ok z1, z2, He.eqO_ok z3⟩
  · rw [e] at h8
    obtain ⟨z1, z2⟩ := b2 h8
    exact ⟨He.eqO_ok z1, z2⟩
theorem statB_ok (X : K.In h) (Gn : h.Ns mainGlobals mg) (hh : statB P K G = true) : Stat K mg G ∧ ∀ k fd, G.fns[k]? = some fd → ∃ dat, FnF P K G (fA K G k) fd dat := by
  unfold statB at hh
  obtain ⟨h1, hh⟩ := b2 hh
  obtain ⟨h2, hh⟩ := b2 hh
  obtain ⟨h3, hh⟩ := b2 hh
  obtain ⟨h4, hh⟩ := b2 hh
  obtain ⟨h5, hh⟩ := b2 hh
  obtain ⟨h6, hh⟩ := b2 hh
  obtain ⟨h7, h8⟩ := b2 hh
  have glob : ∀ {x : Str} {a : Addr}, globB K x a = true → mg x = some (.ref a) := fun e => PySem.W.mg_of X Gn (He.eqO_ok e)
  have cl : ∀ c d, G.cls[c]? = some d → mg d.name = some (.ref (cAd K G c)) ∧ (∀ d', clsP G.cls c = some d' → clsPB K G c d' = true) := fun c d e => by
    have z := List.all_eq_true.mp h2 c (List.mem_range.mpr (lt_of_get e))
    rw [e] at z
    obtain ⟨z1, z2⟩ := b2 z
    refine ⟨glob z1, fun d' e' => ?_⟩
    rw [e'] at z2
    exact z2
  have fnk : ∀ k fd, G.fns[k]? = some fd → fnB P K G fd = true ∧ (fd.key.2 = none → mg fd.key.1 = some (.ref (fA K G k))) := fun k fd e => by
    have z := List.all_eq_true.mp h3 k (List.mem_range.mpr (lt_of_get e))
    rw [e] at z
    obtain ⟨z1, z2⟩ := b2 z
    refine ⟨z1, fun en => ?_⟩
    rw [en] at z2
    exact glob z2
  refine ⟨⟨of_decide_eq_true h1, fun c d e => ?_, fun k fd e en => (fnk k fd e).2 en, fun i p e => ?_, fun x hx => PySem.W.mg_none_of X Gn (He.eqO_ok (List.all_eq_true.mp h5 x hx)), He.eqO_ok h6, of_decide_eq_true h7, fun t c b e => ?_, fun c d e => (cl c d e).1, fun c d e t ht => ?_⟩, fun k fd e => ?_⟩
  · obtain ⟨z1, z2⟩ := cl c d (clsP_get e)
    exact clsPB_ok z1 (z2 d e)
  · have z := List.all_eq_true.mp h4 p (List.mem_of_getElem? e)
    split at z
    · rename_i u eu
      obtain ⟨v, rv, hr⟩ := vW_ok _ _ z
      exact ⟨u, v, PySem.W.mg_of X Gn eu, rv, hr⟩
    · cases z
  · obtain ⟨m1, m2⟩ := isTag_mem e
    have z := List.all_eq_true.mp (List.all_eq_true.mp h8 t m1) c m2
    rw [e] at z
    exact of_decide_eq_true z
  · have z := (cl c d (clsP_get e)).2 d e
    obtain ⟨_, z⟩ := b2 z
    obtain ⟨_, z⟩ := b2 z
    obtain ⟨_, z⟩ := b2 z
    obtain ⟨_, z⟩ := b2 z
    obtain ⟨_, z⟩ := b2 z
    obtain ⟨_, z⟩ := b2 z
    obtain ⟨_, z⟩ := b2 z
    obtain ⟨_, z⟩ := b2 z
    obtain ⟨z1, z2⟩ := b2 z
    cases t with
    | ty n => exact List.all_eq_true.mp z1 n (tys_all n)
    | cls e' =>
      have hlt : e' < G.cls.length := by
        rw [Bool.or_eq_true] at ht
        rcases ht with ht | ht
        · rw [Nat.eq_of_beq_eq_true ht]; exact lt_of_get (clsP_get e)
        · have := eq_of_beq ht
          obtain ⟨m1, _⟩ := isTag_mem this
          rcases List.mem_append.mp m1 with m | m
          · obtain ⟨_, _, q⟩ := List.mem_map.mp m; cases q
          · obtain ⟨j, hj, q⟩ := List.mem_map.mp m
            cases q
            exact List.mem_range.mp hj
      have z := List.all_eq_true.mp z2 e' (List.mem_range.mpr hlt)
      have ht : (Nat.beq e' c || isTag G.cls (.cls e') (.cls c) == some false) = true := ht
      rw [ht] at z
      exact z
  · obtain ⟨dat, F⟩ := fnB_ok (fnk k fd e).1
    refine ⟨dat, ?_⟩
    have : fA K G k = He.fAd K fd.key := by unfold fA; rw [e]
    rw [this]
    exact F
end
end BL
set_option Elab.async false
set_option linter.all false
set_option maxRecDepth 100000
set_option maxHeartbeats 1000000
/-! BL26: all defs keep what the evaluator says. -/
namespace BL
open PySem L2
section
variable {P : Program} {w : World} {K : PySem.W.Frag} {mg : Str → Option Value} {base : Heap} {G : Sg} {h : Heap}
/-- no X: Fns over the parts -/
def FnsP (P : Program) (w : World) (K : PySem.W.Frag) (mg : Str → Option Value) (base : Heap) (G : Sg) (cf : Cf) (L : Nat) : Prop := ∀ k fd dat, G.fns[k]? = some fd → FnF P K G (fA K G k) fd dat → FnOk P w K mg base (L2.CX P w) L (fA K G k) dat fd.ps (spF K G fd.ps (cf k))
theorem FnsP.at {cf : Cf} {L : Nat} (h : FnsP P w K mg base G cf L) (hF : ∀ k fd, G.fns[k]? = some fd → ∃ dat, FnF P K G (fA K G k) fd dat) (X : Cx) (e1 : X.prog = P) (e2 : X.w = w) (e3 : X.K = K) (e4 : X.mg = mg) (e5 : X.base = base) : Fns X G cf L := by
  subst e1 e2 e3 e4 e5
  refine ⟨fun k fd hk => ?_⟩
  obtain ⟨dat, F⟩ := hF k fd hk
  exact ⟨dat, h k fd dat hk F, F.pl, F.df, F.kp, .inr trivial⟩
theorem end_post {Q : VK} {E : XK} {C : Hc} {r : Nat → Addr} {H : Hp} {q : XF} (h : (endOf q).wp (Post K G (RelW K) (fun c d _ H => E c d H) [] C r H Q)) : PostS K G (fun c d _ H => E c d H) { nx := fun _ H' => Q .non H', rt := Q } C r H q := by
  cases q with
  | nx v C' => exact fun r' H' σ' R' X' E' => h r' H' .non R' X' (by unfold RelW RV; rfl)
  | rt w C' => exact fun r' H' x R' X' rx => h r' H' x R' X' rx
  | br v C' => exact h.elim
  | ct v C' => exact h.elim
  | exc x v C' => exact fun r' H' σ' d l R' X' E' hd hf => h r' H' d l R' X' hd hf
theorem body_reads {cf : Cf} {fd : Fd} {vs : List V} {H : Hp} {Q : VK} {E : XK} (hsp : spF K G fd.ps (runF G cf fd) vs H Q E) :
    tls K G (fun c d _ H => E c d H) (evSs G cf fd.body) { nx := fun _ H' => Q .non H', rt := Q } (L2.start fd.N vs) H := by
  obtain ⟨hl, C, r, ws, R, rv, hw⟩ := hsp
  unfold runF at hw
  have hwl := rv.length
  cases e : Nat.beq ws.length fd.ps.length with
  | false => rw [e] at hw; exact hw.elim
  | true =>
    rw [e] at hw
    refine ⟨C, r, _, R, ?_, Tr.wp_mono (fun q hq => end_post hq) (Tr.wp_bind.mp hw)⟩
    unfold L2.start
    rw [← hwl]
    exact RE.start _ rv
theorem fn_plain {cf : Cf} {k L : Nat} {fd : Fd} {dat : FuncData} (st : Stat K mg G) (hF : ∀ k fd, G.fns[k]? = some fd → ∃ dat, FnF P K G (fA K G k) fd dat) (ih : FnsP P w K mg base G cf L) (h0 : fd.kind < 3) (F : FnF P K G (fA K G k) fd dat) (X0 : K.In h) (Gn : h.Ns mainGlobals mg) :
    FnOk P w K mg base (L2.CX P w) (L + 3) (fA K G k) dat fd.ps (spF K G fd.ps (runF G cf fd)) := by
  obtain ⟨oc, od, osl, lk⟩ := F.lk
  obtain ⟨b, eb, hb⟩ := F.bd
  have hb := hb h0
  have gl := F.gl
  have bl := F.bl
  have cd := F.cd
  have len : ∀ vs H Q E, spF K G fd.ps (runF G cf fd) vs H Q E → vs.length = fd.ps.length := fun vs H Q E hsp => hsp.1
  obtain ⟨n1, n2, n3, n4, n5, n6, n7, n8, n9, n10, n11, n12, n13, n14, n15⟩ := dat
  dsimp only at eb gl bl cd
  subst eb gl bl
  unfold bodyB at hb
  dsimp only at hb
  split at hb
  · obtain ⟨s1, s2⟩ := b2 hb
    have S := scopeB_ok s1
    refine fn_of (k := L + 2) lk cd S len fun A outer s H vs Q E hr hsp => ?_
    refine ⟨tS' (cxOf (L2.CX P w) P w K mg base fd.N n2 n5 (fA K G k) n13 A outer s H E) G (fun c d _ H => E c d H) (evSs G cf fd.body), ?_, body_reads hsp⟩
    refine mtSs_ok (L := L) (N := fd.N) (sc := n5) (fn := fun _ => true) ⟨⟨rfl, S.nd, hr, takes_of rfl rfl rfl rfl, ih.at hF _ rfl rfl rfl rfl rfl, st⟩, rfl, rfl, rfl⟩ (passes_of rfl) fd.body b s2
  · rename_i nn cc _
    obtain ⟨c1, hb⟩ := b2 hb
    obtain ⟨c2, hb⟩ := b2 hb
    obtain ⟨c3, c4⟩ := b2 hb
    have e1 := of_decide_eq_true c1
    subst e1
    have S := scopeSB_ok c2
    split at c4
    · rename_i d k2 rr sf rN es eN
      obtain ⟨z1, z2⟩ := b2 c4
      obtain ⟨cda, ec, SS⟩ := supSB_ok X0 Gn lk z1
      dsimp only at ec
      subst ec
      obtain ⟨cl, cld, csl, lcell⟩ := SS.cell
      refine fn_ofS (k := L + 2) lk cd S lcell rfl len fun A outer s H vs Q E hr hsp => ?_
      refine ⟨tS' (cxS (L2.CX P w) P w K mg base fd.N n2 n5 (fA K G k) cc (.ref cda) A outer s H E) G (fun c d _ H => E c d H) (evSs G cf fd.body), ?_, body_reads hsp⟩
      refine mtB_ok (X := cxS (L2.CX P w) P w K mg base fd.N n2 n5 (fA K G k) cc (.ref cda) A outer s H E) (L := L) (N := fd.N) (sc := n5) (fn := fun _ => false) (dc := d) ⟨⟨rfl, S.nd, hr, takes_of rfl rfl rfl rfl, ih.at hF _ rfl rfl rfl rfl rfl, st⟩, rfl, rfl, rfl⟩ (passes_of rfl) rfl SS ?_ fd.body b c3 ?_
      · show fd.N[0]? = some sf
        rw [eN]
        rfl
      · intro p hp
        rw [es] at hp
        have z := List.all_eq_true.mp z2 p hp
        obtain ⟨y1, z⟩ := b2 z
        obtain ⟨y2, y3⟩ := b2 z
        have hlt : p.2 < G.fns.length := Nat.le_of_ble_eq_true (show Nat.ble (p.2 + 1) G.fns.length = true from y3)
        exact ⟨Nat.eq_of_beq_eq_true y1, supCB_ok y2, _, List.getElem?_eq_getElem hlt⟩
    · cases c4
  · cases hb
theorem FnOk.no {L : Nat} {f : Addr} {dat : FuncData} {ps : List Str} {m : List W → M W} (hm : ∀ ws, m ws = M.no) : FnOk P w K mg base (L2.CX P w) L f dat ps (spF K G ps m) := by
  refine ⟨fun vs H Q E hsp => hsp.1, fun A outer s H args us vs Q E hr e0 hb r hsp => ?_⟩
  obtain ⟨_, C, r, ws, R, rv, hw⟩ := hsp
  rw [hm] at hw
  exact hw.elim
/-- the two defs that draw -/
def Drawn (P : Program) (w : World) (K : PySem.W.Frag) (mg : Str → Option Value) (base : Heap) (G : Sg) : Prop := ∀ (k : Nat) (fd : Fd) (dat : FuncData), G.fns[k]? = some fd → fd.kind = 1 ∨ fd.kind = 2 →
  FnOk P w K mg base (L2.CX P w) 3 (fA K G k) dat fd.ps (spF K G fd.ps (runF G (callF G 0) fd)) → FnOk P w K mg base (L2.CX P w) 3 (fA K G k) dat fd.ps (spF K G fd.ps (match fd.kind with
    | 1 => drawW
    | _ => dealW))
theorem FnOk.lvl {L L' : Nat} {f : Addr} {dat : FuncData} {ps : List Str} {sp : Sp} (hl : L ≤ L') (F : FnOk P w K mg base (L2.CX P w) L f dat ps sp) : FnOk P w K mg base (L2.CX P w) L' f dat ps sp :=
  ⟨F.len, fun A outer s H args us vs Q E hr e0 hb r hsp => F.run A outer s H args us vs Q E (hr.mono hl) e0 hb r hsp⟩
theorem callF_at {n k : Nat} {fd : Fd} (hk : G.fns[k]? = some fd) : callF G (n + 1) k = (match fd.kind with
    | 0 => runF G (callF G n) fd
    | 1 => drawW
    | 2 => dealW
    | _ => fun _ => M.no) := by
  funext ws
  conv => lhs; unfold callF
  rw [hk]
  dsimp only
  generalize fd.kind = q
  match q with
  | 0 => rfl
  | 1 => rfl
  | 2 => rfl
  | m + 3 => rfl
theorem fns_ok (st : Stat K mg G) (hF : ∀ k fd, G.fns[k]? = some fd → ∃ dat, FnF P K G (fA K G k) fd dat) (dr : Drawn P w K mg base G) (X0 : K.In h) (Gn : h.Ns mainGlobals mg) : ∀ n, FnsP P w K mg base G (callF G n) (3 * n)
  | 0 => fun k fd dat hk F => FnOk.no (fun ws => by unfold callF; rfl)
  | n + 1 => fun k fd dat hk F => by
    have ih := fns_ok st hF dr X0 Gn n
    have ih0 := fns_ok st hF dr X0 Gn 0
    rw [callF_at hk]
    match hq : fd.kind with
    | 0 => exact fn_plain st hF ih (by omega) F X0 Gn
    | 1 =>
      have z := FnOk.lvl (L' := 3 * (n + 1)) (by omega) (dr k fd dat hk (.inl hq) (fn_plain st hF ih0 (by omega) F X0 Gn))
      rw [hq] at z
      exact z
    | 2 =>
      have z := FnOk.lvl (L' := 3 * (n + 1)) (by omega) (dr k fd dat hk (.inr hq) (fn_plain st hF ih0 (by omega) F X0 Gn))
      rw [hq] at z
      exact z
    | m + 3 => exact FnOk.no fun _ => rfl
end
end BL
set_option Elab.async false
set_option linter.all false
set_option maxRecDepth 100000
set_option maxHeartbeats 1000000
/-! BL28: the head, and a law's end. -/
namespace BL
open PySem L2
/-! ### the Hook -/
def asB (g : Addr → Option Obj) (n : Nat) : List Addr := cStatics :: He.asD g n
def obB (P : Program) (G : Sg) (n : Nat) (g : Addr → Option Obj) : Bool := statB P (He.frG g (asB g n)) G
def hookB (P : Program) (G : Sg) (n : Nat) : PySem.W.Hook where
  α := Bool
  obs := fun s => obB P G n s.heap.get?
  val := fun _ => true
  says := fun _ h => ∃ K : PySem.W.Frag, K.In h ∧ statB P K G = true
  of := fun _ _ e => ⟨_, He.frG_in, e⟩
  keeps := fun _ _ _ ⟨K, hK, c⟩ k => ⟨K, PySem.W.Frag.In.keeps hK k, c⟩
theorem obB_eq {P : Program} {G : Sg} {n : Nat} {g : Addr → Option Obj} {s : Shared} (h : ∀ a, g a = s.heap.get? a) : obB P G n g = (hookB P G n).obs s := by
  have e : g = s.heap.get? := funext h
  rw [e] <;> rfl
section
variable {P : Program} {w : World} {K : PySem.W.Frag} {mg : Str → Option Value} {base : Heap} {G : Sg} {h : Heap}
theorem FnOk.calm {k : Nat} {f : Addr} {dat : FuncData} {ps : List Str} {sp : Sp} (F : FnOk P w K mg base (L2.CX P w) k f dat ps sp) : FnOk P w K mg base CX0 k f dat ps (fun vs H Q _ => sp vs H Q fun _ _ _ => False) := by
  refine ⟨fun vs H Q E q => F.len vs H Q _ q, fun A outer s H args us vs Q E hr e0 hb r hsp => ?_⟩
  refine codeAny_mono (F.run A outer s H args us vs Q _ hr e0 hb r hsp) fun r s' hq => ?_
  cases r with
  | error e =>
    obtain ⟨_, _, _, _, _, _, _, _, _, _, _, _, z⟩ := hq
    exact z.elim
  | ok fl => cases fl <;> exact hq
theorem only_scr {H : Hp} {a : Addr} {ns : List Int} (hO : Only H) (h : SqL K H a (ns.map V.int)) : SqF K H a (ns.map V.int) := by
  rcases h with (h | h) | h
  · rcases hO a with z | ⟨o, xs, z⟩
    · rw [z] at h; cases h
    · rw [z] at h; cases h
  · exact .inl h
  · exact .inr h
theorem rep_emp {r : Nat → Addr} {H : Hp} : Rep K G r .emp H := ⟨fun i j hi => absurd hi (Nat.not_lt_zero _), fun i hi => absurd hi (Nat.not_lt_zero _)⟩
/-- a law's end -/
theorem law_end {n k : Nat} {fl : Fd} {x s0 : Str} {fa : Addr} (X0 : K.In h) (Gn : h.Ns mainGlobals mg) (c : statB P K G = true) (dr : ∀ base, Drawn P w K mg base G) (hk : G.fns[k]? = some fl) (hkey : fl.key = (x, none)) (hps : fl.ps = [s0]) (hdf : fl.dfl = [])
    (hlaw : ∀ ns : List Int, ns.length ≤ 63 → (callF G n k [.scr ns] .emp).wp fun r => ∃ C, r = .ok (.bl true) C) (hfa : mg x = some (.ref fa)) :
    ∃ (K : PySem.W.Frag) (fd : FuncData) (sp : Sp), K.In h ∧ (∀ (s : Shared) (u : Value), BindsTo s fd ⟨[u], []⟩ [(s0, u)]) ∧
        (∀ (H : Hp) (a : Addr) (ns : List Int), ns.length ≤ 63 → Only H → SqL K H a (ns.map V.int) → sp [.ref a] H (fun v _ => v = .bl true) fun _ _ _ => False) ∧
        ∀ base : Heap, K.In base → base.Ns mainGlobals mg → FnOk P w K mg base CX0 (3 * n) fa fd [s0] sp := by
  obtain ⟨st, hF⟩ := statB_ok X0 Gn c
  obtain ⟨dat, F⟩ := hF k fl hk
  have e1 : mg x = some (.ref (fA K G k)) := by
    have := st.fn k fl hk (by rw [hkey])
    rw [hkey] at this
    exact this
  rw [e1] at hfa
  cases hfa
  refine ⟨K, dat, fun vs H Q _ => spF K G fl.ps (callF G n k) vs H Q fun _ _ _ => False, X0, fun s u => ?_, fun H a ns hl hO hS => ?_, fun base KB GB => ?_⟩
  · obtain ⟨dvs, hD, hdl, hR⟩ := F.df
    have e0 : dvs = [] := by
      have := (hR 0 (fun _ => 0) (fun _ => none)).length
      rw [hdf] at this
      exact List.eq_nil_of_length_eq_zero this.symm
    subst e0
    rcases hD with ⟨_, e⟩ | ⟨q, _⟩
    · have hp := F.pl
      rw [hps] at hp
      obtain ⟨kk, e2, e3⟩ := bind_to (us := [u]) (zs := [u]) (its := []) (kw := []) hp (fun p hp => by cases hp) List.nodup_nil (fun p hp => by cases hp) (by simp) (by simp) (fun i x hi hx => by
        have : i = 0 := by simp at hi; omega
        subst this
        simp at hx
        subst hx
        simp [List.lookup]) (fun i x z hx hz => by
        match i, hx, hz with
        | 0, hx, hz =>
          simp at hx hz
          subst hx hz
          simp [List.lookup]
        | i + 1, hx, _ => simp at hx) rfl
      refine BindsTo.of_eq ?_
      rw [e2, e, show seqItems? Value.none = pure none from rfl, pure_bind]
      exact e3 none rfl
    · exact absurd rfl q
  · refine ⟨by rw [hps]; rfl, .emp, fun _ => 0, [.scr ns], rep_emp, .cons ?_ .nil, Tr.wp_mono (fun y hy => ?_) (hlaw ns hl)⟩
    · unfold RV
      exact ⟨a, rfl, only_scr hO hS, hl⟩
    · obtain ⟨C', rfl⟩ := hy
      intro r' H' b R' X' rb
      unfold RelW RV at rb
      exact rb
  · have z := fns_ok (base := base) st hF (dr base) KB GB n k fl dat hk F
    rw [← hps]
    exact FnOk.calm z
end
end BL
set_option Elab.async false
set_option linter.all false
set_option maxRecDepth 100000
set_option maxHeartbeats 1000000
/-! BL30: what must hold ahead: rules for runs. -/
namespace BL
open PySem L2
/-- C' has all of C, as it was -/
structure Ge (C C' : Hc) : Prop where
  nx : C.next ≤ C'.next
  get : ∀ i, i < C.next → C'.get i = C.get i
theorem Ge.refl {C : Hc} : Ge C C := ⟨Nat.le_refl _, fun _ _ => rfl⟩
theorem Ge.trans {A B C : Hc} (h : Ge A B) (k : Ge B C) : Ge A C := ⟨Nat.le_trans h.nx k.nx, fun i hi => (k.get i (Nat.lt_of_lt_of_le hi h.nx)).trans (h.get i hi)⟩
theorem Ge.at {C C' : Hc} (h : Ge C C') {i : Nat} {o : O} (e : C.get i = some o) : C'.get i = some o := (h.get i (Hc.lt_of_get e)).trans e
theorem Ge.new {C : Hc} {o : O} : Ge C (C.new o) := ⟨Nat.le_succ _, fun i hi => by rw [Hc.get_new, if_neg (Nat.ne_of_lt hi)]⟩
theorem Ge.put {A C : Hc} (h : Ge A C) {a : Nat} {o : O} (ha : A.next ≤ a) (hc : a < C.next) : Ge A (C.put a o) := ⟨h.nx, fun i hi => by rw [Hc.get_put _ _ _ _ hc, if_neg (by omega)]; exact h.get i hi⟩
theorem new_self {C : Hc} {o : O} : (C.new o).get C.next = some o := by rw [Hc.get_new, if_pos rfl]
theorem new_old {C : Hc} {o o' : O} {i : Nat} (h : C.get i = some o') : (C.new o).get i = some o' := by rw [Hc.get_new, if_neg (Nat.ne_of_lt (Hc.lt_of_get h))]; exact h
theorem put_self {C : Hc} {o o' : O} {i : Nat} (h : C.get i = some o') : (C.put i o).get i = some o := by rw [Hc.get_put _ _ _ _ (Hc.lt_of_get h), if_pos rfl]
theorem put_ne {C : Hc} {o o' : O} {i j : Nat} (h : C.get i = some o') (hj : j ≠ i) : (C.put i o).get j = C.get j := by rw [Hc.get_put _ _ _ _ (Hc.lt_of_get h), if_neg hj]

theorem wp_iff {α : Type} {P Q : α → Prop} (h : ∀ a, P a ↔ Q a) {t : Tr α} : t.wp P ↔ t.wp Q := ⟨Tr.wp_mono fun a => (h a).mp, Tr.wp_mono fun a => (h a).mpr⟩
def wpM {α : Type} (m : M α) (C : Hc) (Q : α → Hc → Prop) (E : Xn → Hc → Prop) : Prop := (m C).wp fun r => match r with
  | .ok a C' => Q a C'
  | .exc x C' => E x C'
section
variable {α β : Type} {C : Hc} {Q : α → Hc → Prop} {E : Xn → Hc → Prop} {QB : β → Hc → Prop}
theorem w_pure {a : α} : wpM (M.pure a) C Q E ↔ Q a C := Iff.rfl
theorem w_no : wpM (M.no : M α) C Q E ↔ False := Iff.rfl
theorem w_bind {m : M β} {f : β → M α} : wpM (m.bind f) C Q E ↔ wpM m C (fun a C' => wpM (f a) C' Q E) E := by
  unfold wpM
  rw [wp_bindM]
  try exact wp_iff fun r => by cases r <;> exact Iff.rfl
theorem w_opt {o : Option α} : wpM (M.opt o) C Q E ↔ ∃ a, o = some a ∧ Q a C := wp_opt'
theorem w_get {a : Nat} {Q : O → Hc → Prop} : wpM (M.get a) C Q E ↔ ∃ o, C.get a = some o ∧ Q o C := by
  unfold wpM M.get
  cases e : C.get a with
  | none => exact ⟨fun h => h.elim, fun ⟨_, h, _⟩ => by cases h⟩
  | some o => exact ⟨fun h => ⟨o, rfl, h⟩, fun ⟨o', h, q⟩ => by cases h; exact q⟩
theorem w_new {o : O} {Q : W → Hc → Prop} : wpM (M.new o) C Q E ↔ Q (.ref C.next) (C.new o) := Iff.rfl
theorem w_put {a : Nat} {o : O} {Q : Unit → Hc → Prop} : wpM (M.put a o) C Q E ↔ Q () (C.put a o) := Iff.rfl
theorem w_chk {b : Bool} {Q : Unit → Hc → Prop} : wpM (M.chk b) C Q E ↔ b = true ∧ Q () C := by
  unfold wpM M.chk
  cases b with
  | true => exact ⟨fun h => ⟨rfl, h⟩, fun h => h.2⟩
  | false => exact ⟨fun h => h.elim, fun h => by cases h.1⟩
theorem w_nox {m : M α} : wpM m.nox C Q E ↔ wpM m C Q (fun _ _ => False) := by
  unfold wpM M.nox
  rw [Tr.wp_bind]
  constructor
  · intro h
    refine Tr.wp_mono (fun r hr => ?_) h
    cases r with
    | ok a C1 => exact hr
    | exc x C1 => exact hr
  · intro h
    refine Tr.wp_mono (fun r hr => ?_) h
    cases r with
    | ok a C1 => exact hr
    | exc x C1 => exact hr
theorem w_cond {b : Bool} {m n : M α} : wpM (bif b then m else n) C Q E ↔ (b = true → wpM m C Q E) ∧ (b = false → wpM n C Q E) := by
  cases b with
  | true => exact ⟨fun h => ⟨fun _ => h, fun z => nomatch z⟩, fun h => h.1 rfl⟩
  | false => exact ⟨fun h => ⟨fun z => (nomatch z), fun _ => h⟩, fun h => h.2 rfl⟩
theorem w_mono {m : M α} {Q' : α → Hc → Prop} {E' : Xn → Hc → Prop} (h : wpM m C Q E) (hq : ∀ a C', Q a C' → Q' a C') (he : ∀ x C', E x C' → E' x C') : wpM m C Q' E' :=
  Tr.wp_mono (fun r hr => by
    cases r with
    | ok a C1 => exact hq _ _ hr
    | exc x C1 => exact he _ _ hr) h
end
/-- a source of draws -/
def IsDeal (C : Hc) (d : Nat) : Prop := ∃ j, C.get d = some (.deal j) ∧ C.get j = some .dealIn
theorem IsDeal.ge {C C' : Hc} {d : Nat} (h : IsDeal C d) (g : Ge C C') : IsDeal C' d := by
  obtain ⟨j, h1, h2⟩ := h
  exact ⟨j, g.at h1, g.at h2⟩
/-! ### statements -/
def thenQ (k : Env → Hc → Tr XF) (Q : XF → Prop) : XF → Prop
  | .nx v C => (k v C).wp Q
  | .rt w C => Q (.rt w C)
  | .br v C => Q (.br v C)
  | .ct v C => Q (.ct v C)
  | .exc x v C => Q (.exc x v C)
def endQ (Q : W → Hc → Prop) (E : Xn → Hc → Prop) : XF → Prop
  | .nx _ C => Q .non C
  | .rt w C => Q w C
  | .exc x _ C => E x C
  | .br _ _ => False
  | .ct _ _ => False
section
variable {G : Sg} {cf : Cf} {v : Env} {C : Hc} {Q : XF → Prop}
theorem w_ret {q : XF} : (Tr.ret q).wp Q ↔ Q q := Iff.rfl
theorem w_trno : (Tr.no : Tr XF).wp Q ↔ False := Iff.rfl
theorem w_condS {b : Bool} {m n : Tr XF} : (bif b then m else n).wp Q ↔ (b = true → m.wp Q) ∧ (b = false → n.wp Q) := by
  cases b with
  | true => exact ⟨fun h => ⟨fun _ => h, fun z => nomatch z⟩, fun h => h.1 rfl⟩
  | false => exact ⟨fun h => ⟨fun z => (nomatch z), fun _ => h⟩, fun h => h.2 rfl⟩
theorem w_nil : (evSs G cf [] v C).wp Q ↔ Q (.nx v C) := by unfold evSs; exact Iff.rfl
theorem w_cons {s : S} {ss : List S} : (evSs G cf (s :: ss) v C).wp Q ↔ (evS G cf s v C).wp (thenQ (evSs G cf ss) Q) := by
  conv => lhs; unfold evSs
  rw [Tr.wp_bind]
  exact wp_iff fun q => by cases q <;> exact Iff.rfl
theorem w_up {α : Type} {m : M α} {k : α → Hc → Tr XF} : (upS m v k C).wp Q ↔ wpM m C (fun a C1 => (k a C1).wp Q) (fun x C1 => Q (.exc x v C1)) := by
  unfold upS wpM
  rw [Tr.wp_bind]
  constructor
  · intro h
    refine Tr.wp_mono (fun r hr => ?_) h
    cases r with
    | ok a C1 => exact hr
    | exc x C1 => exact hr
  · intro h
    refine Tr.wp_mono (fun r hr => ?_) h
    cases r with
    | ok a C1 => exact hr
    | exc x C1 => exact hr
theorem w_setTg {tg : Tg} {w : W} : (match setTg tg w v with
    | some v' => Tr.ret (XF.nx v' C)
    | none => Tr.no).wp Q ↔ ∃ v', setTg tg w v = some v' ∧ Q (.nx v' C) := by
  cases e : setTg tg w v with
  | none => exact ⟨fun h => h.elim, fun ⟨_, h, _⟩ => by cases h⟩
  | some v' => exact ⟨fun h => ⟨v', rfl, h⟩, fun ⟨_, h, q⟩ => by cases h; exact q⟩
theorem w_setEs {is : List Nat} {ws : List W} : (match setEs v is ws with
    | some v' => Tr.ret (XF.nx v' C)
    | none => Tr.no).wp Q ↔ ∃ v', setEs v is ws = some v' ∧ Q (.nx v' C) := by
  cases e : setEs v is ws with
  | none => exact ⟨fun h => h.elim, fun ⟨_, h, _⟩ => by cases h⟩
  | some v' => exact ⟨fun h => ⟨v', rfl, h⟩, fun ⟨_, h, q⟩ => by cases h; exact q⟩
theorem w_run {fd : Fd} {ws : List W} {QW : W → Hc → Prop} {E : Xn → Hc → Prop} (hl : ws.length = fd.ps.length) : wpM (runF G cf fd ws) C QW E ↔ (evSs G cf fd.body (ws.map some ++ List.replicate (fd.N.length - ws.length) none) C).wp (endQ QW E) := by
  unfold runF wpM
  rw [beq_t hl]
  show ((evSs G cf fd.body _ C).bind endOf).wp _ ↔ _
  rw [Tr.wp_bind]
  exact wp_iff fun q => by cases q <;> exact Iff.rfl
theorem w_callF {n k : Nat} {fd : Fd} {ws : List W} {QW : W → Hc → Prop} {E : Xn → Hc → Prop} (hk : G.fns[k]? = some fd) (h0 : fd.kind = 0) (hl : ws.length = fd.ps.length) :
    wpM (callF G (n + 1) k ws) C QW E ↔ (evSs G (callF G n) fd.body (ws.map some ++ List.replicate (fd.N.length - ws.length) none) C).wp (endQ QW E) := by
  rw [callF_at hk, h0]
  exact w_run hl
theorem w_draw {n k : Nat} {fd : Fd} {d : Nat} {m : Int} {QW : W → Hc → Prop} {E : Xn → Hc → Prop} (hk : G.fns[k]? = some fd) (h1 : fd.kind = 1) (hd : IsDeal C d) (hm : 0 < m) (hm2 : m < 1073741824) (h : ∀ r : Nat, (r : Int) < m → QW (.int r) C) :
    wpM (callF G (n + 1) k [.ref d, .int m]) C QW E := by
  rw [callF_at hk, h1]
  show wpM (drawW [.ref d, .int m]) C QW E
  obtain ⟨j, hd, hj⟩ := hd
  unfold drawW
  rw [w_bind, w_get]
  refine ⟨_, hd, ?_⟩
  dsimp only
  rw [w_bind, w_get]
  refine ⟨_, hj, ?_⟩
  dsimp only
  rw [w_bind, w_chk]
  refine ⟨by simp [hm, hm2], fun r hr => ?_⟩
  exact h r (by omega)
theorem w_deal {n k : Nat} {fd : Fd} {b : Int} {ns : List Int} {QW : W → Hc → Prop} {E : Xn → Hc → Prop} (hk : G.fns[k]? = some fd) (h2 : fd.kind = 2) (hb : 0 ≤ b) (hb2 : b < 63) (h : ∀ C' d, Ge C C' → IsDeal C' d → QW (.ref d) C') :
    wpM (callF G (n + 1) k [.scr ns, .int b]) C QW E := by
  rw [callF_at hk, h2]
  show wpM (dealW [.scr ns, .int b]) C QW E
  unfold dealW
  rw [w_bind, w_chk]
  refine ⟨by simp [hb, hb2], ?_⟩
  exact h _ _ (Ge.new.trans Ge.new) ⟨_, new_self, new_old new_self⟩
end
/-! ### loops -/
section
variable {tg : Tg} {J : It'} {ws : List W}
/-- what is walked are these items, whatever is done -/
def Walks (J : It') (ws : List W) (C : Hc) : Prop := ∀ C', Ge C C' → ∀ i, itemAt J i C' = .ret (.ok ws[i]? C')
theorem walks_seq {C : Hc} : Walks (.seq ws) ws C := fun C' _ i => rfl
theorem walks_lst {C : Hc} {a : Nat} (h : C.get a = some (.lst ws)) : Walks (.lst a) ws C := fun C' g i => by
  have e := g.at h
  unfold itemAt M.bind M.get
  rw [e]
  rfl
theorem Walks.ge {C C' : Hc} (h : Walks J ws C) (g : Ge C C') : Walks J ws C' := fun C2 g2 i => h C2 (g.trans g2) i
def enumL : Nat → List W → List W
  | _, [] => []
  | i, w :: ws => .tup [.int i, w] :: enumL (i + 1) ws
theorem enumL_get : ∀ (ws : List W) (k i : Nat), (enumL k ws)[i]? = (ws[i]?).map fun w => .tup [.int ((k + i : Nat) : Int), w]
  | [], _, _ => by simp [enumL]
  | w :: ws, k, 0 => by simp [enumL]
  | w :: ws, k, i + 1 => by
    unfold enumL
    rw [List.getElem?_cons_succ, List.getElem?_cons_succ, enumL_get ws (k + 1) i]
    rw [show k + 1 + i = k + (i + 1) by omega]
theorem walks_enm {C : Hc} (h : Walks J ws C) : Walks (.enm J) (enumL 0 ws) C := fun C' g i => by
  show ((itemAt J i).bind fun r => M.pure (r.map fun w => W.tup [W.int i, w])) C' = _
  unfold M.bind
  rw [h C' g i, enumL_get]
  simp [Tr.bind, M.pure]
theorem zip_get {α β : Type} : ∀ (l : List α) (m : List β) (i : Nat), (l.zip m)[i]? = (match l[i]?, m[i]? with
    | some a, some b => some (a, b)
    | _, _ => none)
  | [], m, i => by simp
  | a :: l, [], i => by
    rw [List.zip_nil_right]
    cases h : (a :: l)[i]? <;> simp
  | a :: l, b :: m, 0 => by simp
  | a :: l, b :: m, i + 1 => by
    rw [List.zip_cons_cons, List.getElem?_cons_succ, List.getElem?_cons_succ, List.getElem?_cons_succ]
    exact zip_get l m i
theorem walks_zip {C : Hc} {J' : It'} {us : List W} (h : Walks J ws C) (h' : Walks J' us C) : Walks (.zip J J') ((ws.zip us).map fun p => W.tup [p.1, p.2]) C := fun C' g i => by
  show ((itemAt J i).bind fun r => (itemAt J' i).bind fun r' => M.pure (match r, r' with
    | some w, some u => some (W.tup [w, u])
    | _, _ => none)) C' = _
  unfold M.bind
  rw [h C' g i]
  show (itemAt J' i C').bind _ = _
  rw [h' C' g i, List.getElem?_map, zip_get ws us i]
  cases ws[i]? <;> cases us[i]? <;> rfl
end
end BL
set_option Elab.async false
set_option linter.all false
set_option maxRecDepth 100000
set_option maxHeartbeats 1000000
/-! BL31: loops, comprehensions. -/
namespace BL
open PySem L2
def turnQ (I : Env → Hc → Prop) (Q : XF → Prop) : XF → Prop
  | .nx v C => I v C
  | .ct v C => I v C
  | .br v C => Q (.nx v C)
  | .rt w C => Q (.rt w C)
  | .exc x v C => Q (.exc x v C)
section
variable {tg : Tg} {J : It'} {ws : List W} {v : Env} {C : Hc} {Q : XF → Prop} {body : Env → Hc → Tr XF}
theorem w_forN (I : Nat → Env → Hc → Prop) (hw : ∀ i v' C', I i v' C' → itemAt J i C' = .ret (.ok ws[i]? C'))
    (step : ∀ i w v1 C1, ws[i]? = some w → I i v1 C1 → ∃ v2, setTg tg w v1 = some v2 ∧ (body v2 C1).wp (turnQ (I (i + 1)) Q)) (fin : ∀ v' C', I ws.length v' C' → Q (.nx v' C')) :
    ∀ (f i : Nat) (v : Env) (C : Hc), I i v C → i ≤ ws.length → ws.length < f + i → (forL tg J body f i v C).wp Q
  | 0, i, v, C, h, hi, hf => by omega
  | f + 1, i, v, C, h, hi, hf => by
    unfold forL
    rw [Tr.wp_bind, hw i v C h]
    show Tr.wp (match (XR.ok ws[i]? C : XR (Option W)) with
      | .exc _ _ => .no
      | .ok none C1 => .ret (.nx v C1)
      | .ok (some w) C1 => match setTg tg w v with
        | none => .no
        | some v1 => (body v1 C1).bind fun q => match q with
          | .nx v' C' => forL tg J body f (i + 1) v' C'
          | .ct v' C' => forL tg J body f (i + 1) v' C'
          | .br v' C' => .ret (.nx v' C')
          | q => .ret q) Q
    cases e : ws[i]? with
    | none =>
      have hl := List.getElem?_eq_none_iff.mp e
      have : i = ws.length := by omega
      subst this
      exact fin v C h
    | some w =>
      have hl : i < ws.length := (List.getElem?_eq_some_iff.mp e).1
      obtain ⟨v2, e2, hb⟩ := step i w v C e h
      dsimp only
      rw [e2]
      dsimp only
      rw [Tr.wp_bind]
      refine Tr.wp_mono (fun q hq => ?_) hb
      cases q with
      | nx v' C' => exact w_forN I hw step fin f (i + 1) v' C' hq (by omega) (by omega)
      | ct v' C' => exact w_forN I hw step fin f (i + 1) v' C' hq (by omega) (by omega)
      | br v' C' => exact hq
      | rt w C' => exact hq
      | exc x v' C' => exact hq
theorem w_for (I : Nat → Env → Hc → Prop) (h0 : I 0 v C) (hl : ws.length < FUEL) (hw : ∀ i v' C', I i v' C' → itemAt J i C' = .ret (.ok ws[i]? C'))
    (step : ∀ i w v1 C1, ws[i]? = some w → I i v1 C1 → ∃ v2, setTg tg w v1 = some v2 ∧ (body v2 C1).wp (turnQ (I (i + 1)) Q)) (fin : ∀ v' C', I ws.length v' C' → Q (.nx v' C')) : (forL tg J body FUEL 0 v C).wp Q :=
  w_forN I hw step fin FUEL 0 v C h0 (Nat.zero_le _) (by omega)
theorem w_whileN {c : Env → M Bool} (I : Nat → Env → Hc → Prop)
    (step : ∀ m v1 C1, I m v1 C1 → wpM (c v1) C1 (fun b C2 => (b = false → Q (.nx v1 C2)) ∧ (b = true → (body v1 C2).wp (turnQ (fun v' C' => ∃ m', m' < m ∧ I m' v' C') Q))) (fun x C2 => Q (.exc x v1 C2))) :
    ∀ (f m : Nat) (v : Env) (C : Hc), I m v C → m < f → (whileL c body f v C).wp Q
  | 0, m, v, C, h, hf => by omega
  | f + 1, m, v, C, h, hf => by
    unfold whileL
    rw [Tr.wp_bind]
    refine Tr.wp_mono (fun r hr => ?_) (step m v C h)
    cases r with
    | exc x C1 => exact hr
    | ok b C1 =>
      cases b with
      | false => exact hr.1 rfl
      | true =>
        show ((body v C1).bind _).wp Q
        rw [Tr.wp_bind]
        refine Tr.wp_mono (fun q hq => ?_) (hr.2 rfl)
        cases q with
        | nx v' C' =>
          obtain ⟨m', hm, hi⟩ := hq
          exact w_whileN I step f m' v' C' hi (by omega)
        | ct v' C' =>
          obtain ⟨m', hm, hi⟩ := hq
          exact w_whileN I step f m' v' C' hi (by omega)
        | br v' C' => exact hq
        | rt w C' => exact hq
        | exc x v' C' => exact hq
theorem w_while {c : Env → M Bool} (I : Nat → Env → Hc → Prop) (m : Nat) (h0 : I m v C) (hm : m < FUEL)
    (step : ∀ m v1 C1, I m v1 C1 → wpM (c v1) C1 (fun b C2 => (b = false → Q (.nx v1 C2)) ∧ (b = true → (body v1 C2).wp (turnQ (fun v' C' => ∃ m', m' < m ∧ I m' v' C') Q))) (fun x C2 => Q (.exc x v1 C2))) : (whileL c body FUEL v C).wp Q :=
  w_whileN I step FUEL m v C h0 hm
end
section
variable {tg : Tg} {J : It'} {ws : List W} {v : Env} {C : Hc} {E : Xn → Hc → Prop} {cond : Env → M Bool} {elt : Env → M W}
theorem w_compN (I : Nat → List W → Hc → Prop) (hw : ∀ i acc C', I i acc C' → itemAt J i C' = .ret (.ok ws[i]? C'))
    (step : ∀ i acc w C1, ws[i]? = some w → I i acc C1 → ∃ v', setTg tg w v = some v' ∧ wpM (cond v') C1 (fun b C2 => (b = true → wpM (elt v') C2 (fun y C3 => I (i + 1) (acc ++ [y]) C3) E) ∧ (b = false → I (i + 1) acc C2)) E) :
    ∀ (f i : Nat) (acc : List W) (C : Hc), I i acc C → i ≤ ws.length → ws.length < f + i → wpM (compL cond elt tg J v f i) C (fun ys C' => I ws.length (acc ++ ys) C') E
  | 0, i, acc, C, h, hi, hf => by omega
  | f + 1, i, acc, C, h, hi, hf => by
    unfold compL
    rw [w_bind]
    unfold wpM
    rw [hw i acc C h]
    show wpM (match ws[i]? with
      | none => M.pure []
      | some w => (M.opt (setTg tg w v)).bind fun v' => (cond v').bind fun b =>
        bif b then (elt v').bind fun y => (compL cond elt tg J v f (i + 1)).bind fun ys => M.pure (y :: ys)
        else compL cond elt tg J v f (i + 1)) C _ E
    cases e : ws[i]? with
    | none =>
      have hl := List.getElem?_eq_none_iff.mp e
      have : i = ws.length := by omega
      subst this
      show I ws.length (acc ++ []) C
      rw [List.append_nil]
      exact h
    | some w =>
      have hl : i < ws.length := (List.getElem?_eq_some_iff.mp e).1
      obtain ⟨v2, e2, hb⟩ := step i acc w C e h
      rw [w_bind, w_opt]
      refine ⟨v2, e2, ?_⟩
      rw [w_bind]
      refine w_mono hb (fun b C2 hq => ?_) (fun _ _ z => z)
      rw [w_cond]
      refine ⟨fun hb => ?_, fun hb => ?_⟩
      · rw [w_bind]
        refine w_mono (hq.1 hb) (fun y C3 hi3 => ?_) (fun _ _ z => z)
        rw [w_bind]
        refine w_mono (w_compN I hw step f (i + 1) (acc ++ [y]) C3 hi3 (by omega) (by omega)) (fun ys C4 h4 => ?_) (fun _ _ z => z)
        rw [w_pure]
        rw [List.append_assoc] at h4
        exact h4
      · exact w_compN I hw step f (i + 1) acc C2 (hq.2 hb) (by omega) (by omega)
theorem w_comp (I : Nat → List W → Hc → Prop) {Q : List W → Hc → Prop} (h0 : I 0 [] C) (hl : ws.length < FUEL) (hw : ∀ i acc C', I i acc C' → itemAt J i C' = .ret (.ok ws[i]? C'))
    (step : ∀ i acc w C1, ws[i]? = some w → I i acc C1 → ∃ v', setTg tg w v = some v' ∧ wpM (cond v') C1 (fun b C2 => (b = true → wpM (elt v') C2 (fun y C3 => I (i + 1) (acc ++ [y]) C3) E) ∧ (b = false → I (i + 1) acc C2)) E)
    (fin : ∀ acc C', I ws.length acc C' → Q acc C') : wpM (compL cond elt tg J v FUEL 0) C Q E :=
  w_mono (w_compN I hw step FUEL 0 [] C h0 (Nat.zero_le _) (by omega)) (fun ys C' h => fin ys C' h) (fun _ _ z => z)
/-- each item by itself: what comes of it stands in a relation that new objects don't touch -/
theorem w_compR (Rel : Hc → W → W → Prop) (mono : ∀ {C C' w y}, Ge C C' → Rel C w y → Rel C' w y) (p : W → Bool) {Q : List W → Hc → Prop} (hl : ws.length < FUEL) (hw : Walks J ws C)
    (step : ∀ w C1, w ∈ ws → Ge C C1 → ∃ v', setTg tg w v = some v' ∧ wpM (cond v') C1 (fun b C2 => Ge C1 C2 ∧ b = p w ∧ (b = true → wpM (elt v') C2 (fun y C3 => Ge C2 C3 ∧ Rel C3 w y) E)) E)
    (fin : ∀ ys C', Ge C C' → Paired (Rel C') (ws.filter p) ys → Q ys C') : wpM (compL cond elt tg J v FUEL 0) C Q E := by
  refine w_comp (ws := ws) (fun i acc C' => Ge C C' ∧ Paired (Rel C') ((ws.take i).filter p) acc) ⟨.refl, by simp; exact .nil⟩ hl (fun i acc C' h => hw C' h.1 i) (fun i acc w C1 e h => ?_) (fun acc C' h => ?_)
  · obtain ⟨v', e1, h1⟩ := step w C1 (List.mem_of_getElem? e) h.1
    refine ⟨v', e1, w_mono h1 (fun b C2 ⟨g, eb, k⟩ => ⟨fun hb => w_mono (k hb) (fun y C3 ⟨g3, hr⟩ => ?_) (fun _ _ z => z), fun hb => ?_⟩) (fun _ _ z => z)⟩
    · have hlt := (List.getElem?_eq_some_iff.mp e).1
      refine ⟨(h.1.trans g).trans g3, ?_⟩
      rw [List.take_add_one, e, Option.toList, List.filter_append]
      have : List.filter p [w] = [w] := by simp [← eb, hb]
      rw [this]
      exact Paired.snoc (pmono (g.trans g3) h.2) hr
    · refine ⟨h.1.trans g, ?_⟩
      rw [List.take_add_one, e, Option.toList, List.filter_append]
      have : List.filter p [w] = [] := by simp [← eb, hb]
      rw [this, List.append_nil]
      exact pmono g h.2
  · rw [List.take_length] at h
    exact fin acc C' h.1 h.2
where
  pmono {C C' : Hc} (g : Ge C C') : ∀ {as bs : List W}, Paired (Rel C) as bs → Paired (Rel C') as bs
  | _, _, .nil => .nil
  | _, _, .cons h t => .cons (mono g h) (pmono g t)
end
theorem w_eqD' {C : Hc} {x y : W} {d e : PyData} {Q : Bool → Hc → Prop} {E : Xn → Hc → Prop} (h1 : rdW C DEEP x = some d) (h2 : rdW C DEEP y = some e) (s1 : SeqAt.shaped d = true) (s2 : SeqAt.shaped e = true) (hq : Q (PyData.eqv d e) C) : wpM (eqD' x y) C Q E := by
  unfold wpM eqD'
  rw [h1, h2]
  dsimp only
  rw [s1, s2]
  exact hq
end BL
set_option Elab.async false
set_option linter.all false
set_option maxRecDepth 100000
set_option maxHeartbeats 1000000
/-! BL33: one rule for each construct. -/
namespace BL
open PySem L2
section
variable {G : Sg} {cf : Cf} {v : Env} {C : Hc} {E : Xn → Hc → Prop} {Q : W → Hc → Prop} {QB : Bool → Hc → Prop} {QI : It' → Hc → Prop} {QL : List W → Hc → Prop} {QX : XF → Prop}
/-! ### terms -/
theorem e_var {i : Nat} {w : W} (h : v[i]? = some (some w)) (k : Q w C) : wpM ((ev G cf (.var i)).val v) C Q E := by
  unfold ev
  show wpM (varW i v) C Q E
  unfold varW
  rw [h]
  exact k
theorem e_cst {w : W} (k : Q w C) : wpM ((ev G cf (.cst w)).val v) C Q E := by unfold ev; exact k
theorem e_glo {i : Nat} {p : Str × W} (h : G.cst[i]? = some p) (k : Q p.2 C) : wpM ((ev G cf (.glo i)).val v) C Q E := by
  unfold ev
  show wpM (M.opt ((G.cst[i]?).map (·.2))) C Q E
  rw [h]
  exact k
theorem e_tup {es : List BL.E} (k : wpM (evEs (evl G cf es) v) C (fun ws C' => fitB ws.length = true ∧ Q (.tup ws) C') E) : wpM ((ev G cf (.tup es)).val v) C Q E := by
  unfold ev
  show wpM ((evEs (evl G cf es) v).bind fun ws => (M.chk (fitB ws.length)).bind fun _ => M.pure (.tup ws)) C Q E
  rw [w_bind]
  exact w_mono k (fun ws C' h => by rw [w_bind, w_chk]; exact h) (fun _ _ z => z)
theorem e_lst {es : List BL.E} (k : wpM (evEs (evl G cf es) v) C (fun ws C' => fitB ws.length = true ∧ Q (.ref C'.next) (C'.new (.lst ws))) E) : wpM ((ev G cf (.lst es)).val v) C Q E := by
  unfold ev
  show wpM ((evEs (evl G cf es) v).bind fun ws => (M.chk (fitB ws.length)).bind fun _ => M.new (.lst ws)) C Q E
  rw [w_bind]
  exact w_mono k (fun ws C' h => by rw [w_bind, w_chk]; exact h) (fun _ _ z => z)
theorem e_star {e : BL.E} (k : wpM ((ev G cf e).val v) C Q E) : wpM ((ev G cf (.star e)).val v) C Q E := by unfold ev; exact k
theorem e_bin {op : Operator} {a b : BL.E} (k : wpM ((ev G cf a).val v) C (fun x C1 => wpM ((ev G cf b).val v) C1 (fun y C2 => wpM (binW op x y) C2 Q E) E) E) : wpM ((ev G cf (.bin op a b)).val v) C Q E := by
  unfold ev
  show wpM (M.bind _ _) C Q E
  simp only [w_bind]
  exact k
theorem e_cmp {op : CmpOp} {a b : BL.E} (k : wpM ((ev G cf a).val v) C (fun x C1 => wpM ((ev G cf b).val v) C1 (fun y C2 => wpM (cmpW G cf op x y) C2 (fun b C3 => Q (.bl b) C3) E) E) E) : wpM ((ev G cf (.cmp op a b)).val v) C Q E := by
  unfold ev
  show wpM (M.bind _ _) C Q E
  simp only [w_bind]
  exact k
theorem e_cmp2 {o p : CmpOp} {a b c : BL.E} (k : wpM ((ev G cf a).val v) C (fun x C1 => wpM ((ev G cf b).val v) C1 (fun y C2 => wpM (cmpW G cf o x y) C2 (fun r C3 => (r = true → wpM ((ev G cf c).val v) C3 (fun z C4 => wpM (cmpW G cf p y z) C4 (fun b C5 => Q (.bl b) C5) E) E) ∧ (r = false → Q (.bl false) C3)) E) E) E) :
    wpM ((ev G cf (.cmp2 o p a b c)).val v) C Q E := by
  unfold ev
  show wpM (M.bind _ _) C Q E
  simp only [w_bind, w_cond]
  exact k
theorem e_isN {neg : Bool} {a : BL.E} (k : wpM ((ev G cf a).val v) C (fun x C1 => Q (.bl (isN x != neg)) C1) E) : wpM ((ev G cf (.isN neg a)).val v) C Q E := by
  unfold ev
  show wpM (M.bind _ _) C Q E
  rw [w_bind]
  exact k
theorem e_not {a : BL.E} (k : wpM ((ev G cf a).val v) C (fun x C1 => wpM (truW x) C1 (fun b C2 => Q (.bl (!b)) C2) E) E) : wpM ((ev G cf (.not a)).val v) C Q E := by
  unfold ev
  show wpM (M.bind _ _) C Q E
  simp only [w_bind]
  exact k
theorem e_neg {a : BL.E} {i : Int} (k : wpM ((ev G cf a).val v) C (fun x C1 => ∃ i : Int, x = .int i ∧ Q (.int (-i)) C1) E) : wpM ((ev G cf (.neg a)).val v) C Q E := by
  unfold ev
  show wpM (M.bind _ _) C Q E
  rw [w_bind]
  refine w_mono k (fun x C1 h => ?_) (fun _ _ z => z)
  obtain ⟨i, rfl, h⟩ := h
  exact h
theorem e_ite {c a b : BL.E} (k : wpM ((ev G cf c).tst v) C (fun r C1 => (r = true → wpM ((ev G cf a).val v) C1 Q E) ∧ (r = false → wpM ((ev G cf b).val v) C1 Q E)) E) : wpM ((ev G cf (.ite c a b)).val v) C Q E := by
  unfold ev
  show wpM (M.bind _ _) C Q E
  simp only [w_bind, w_cond]
  exact k
theorem e_call {f : Nat} {es : List BL.E} (k : wpM (evEs (evl G cf es) v) C (fun ws C1 => wpM (callK G cf f ws) C1 Q E) E) : wpM ((ev G cf (.call f es)).val v) C Q E := by
  unfold ev
  show wpM (M.bind _ _) C Q E
  rw [w_bind]
  exact k
theorem e_callk {f : Nat} {es kes : List BL.E} {ks : List Str} (k : wpM (evEs (evl G cf es) v) C (fun ws C1 => wpM (evEs (evl G cf kes) v) C1 (fun us C2 => wpM (callKw G cf f ws ks us) C2 Q E) E) E) : wpM ((ev G cf (.callk f es ks kes)).val v) C Q E := by
  unfold ev
  show wpM (M.bind _ _) C Q E
  simp only [w_bind]
  exact k
theorem w_mkI {c : Nat} {d : Cd} {m : Nat → W → M W} (hc : clsP G.cls c = some d) (k : wpM (m d.init (.ref C.next)) (C.new (.ins c [])) (fun r C2 => r = .non ∧ Q (.ref C.next) C2) E) : wpM (mkI G c m) C Q E := by
  unfold mkI
  rw [hc]
  show wpM ((M.new (.ins c [])).bind _) C Q E
  rw [w_bind, w_new, w_bind]
  refine w_mono k (fun r C2 h => ?_) (fun _ _ z => z)
  obtain ⟨rfl, h⟩ := h
  exact h
theorem e_mk {c : Nat} {es : List BL.E} (k : wpM (evEs (evl G cf es) v) C (fun ws C1 => wpM (mkI G c fun k x => callK G cf k (x :: ws)) C1 Q E) E) : wpM ((ev G cf (.mk c es)).val v) C Q E := by
  unfold ev
  show wpM (M.bind _ _) C Q E
  rw [w_bind]
  exact k
theorem e_mkk {c : Nat} {es kes : List BL.E} {ks : List Str} (k : wpM (evEs (evl G cf es) v) C (fun ws C1 => wpM (evEs (evl G cf kes) v) C1 (fun us C2 => wpM (mkI G c fun k x => callKw G cf k (x :: ws) ks us) C2 Q E) E) E) : wpM ((ev G cf (.mkk c es ks kes)).val v) C Q E := by
  unfold ev
  show wpM (M.bind _ _) C Q E
  simp only [w_bind]
  exact k
theorem e_blt {f : Bl} {es : List BL.E} (k : wpM (evEs (evl G cf es) v) C (fun ws C1 => wpM (bltC G cf f ws) C1 Q E) E) : wpM ((ev G cf (.blt f es)).val v) C Q E := by
  unfold ev
  show wpM (M.bind _ _) C Q E
  rw [w_bind]
  exact k
theorem e_isi {e : BL.E} {b : Bool} {cs : List CT} (k : wpM ((ev G cf e).val v) C (fun x C1 => ∃ t r, tagW G.cls C1 x = some t ∧ isAny G.cls t cs = some r ∧ Q (.bl r) C1) E) : wpM ((ev G cf (.isi e b cs)).val v) C Q E := by
  unfold ev
  show wpM (M.bind _ _) C Q E
  rw [w_bind]
  refine w_mono k (fun x C1 h => ?_) (fun _ _ z => z)
  obtain ⟨t, r, h1, h2, h⟩ := h
  unfold wpM isiW
  rw [h1]
  dsimp only
  rw [h2]
  exact h
theorem e_meth {o : BL.E} {m : Nat} {es : List BL.E} (k : wpM ((ev G cf o).val v) C (fun x C1 => wpM (metO G x m) C1 (fun j C2 => wpM (evEs (evl G cf es) v) C2 (fun ws C3 => wpM (callK G cf j (x :: ws)) C3 Q E) E) E) E) : wpM ((ev G cf (.meth o m es)).val v) C Q E := by
  unfold ev
  show wpM (M.bind _ _) C Q E
  simp only [w_bind]
  exact k
theorem e_bm {o : BL.E} {b : Bm} {es : List BL.E} (k : wpM ((ev G cf o).val v) C (fun x C1 => wpM (bmOk b x) C1 (fun _ C2 => wpM (evEs (evl G cf es) v) C2 (fun ws C3 => wpM (metW x b ws) C3 Q E) E) E) E) : wpM ((ev G cf (.bm o b es)).val v) C Q E := by
  unfold ev
  show wpM (M.bind _ _) C Q E
  simp only [w_bind]
  exact k
theorem e_bm0 {o : BL.E} {b : Bm0} (k : wpM ((ev G cf o).val v) C (fun x C1 => wpM (bm0Ok b x) C1 (fun _ C2 => wpM (met0W x b) C2 Q E) E) E) : wpM ((ev G cf (.bm0 o b)).val v) C Q E := by
  unfold ev
  show wpM (M.bind _ _) C Q E
  simp only [w_bind]
  exact k
theorem e_att {o : BL.E} {f : Nat} (k : wpM ((ev G cf o).val v) C (fun x C1 => wpM (attW G x f) C1 Q E) E) : wpM ((ev G cf (.att o f)).val v) C Q E := by
  unfold ev
  show wpM (M.bind _ _) C Q E
  rw [w_bind]
  exact k
theorem e_sub {o i : BL.E} (k : wpM ((ev G cf o).val v) C (fun x C1 => wpM ((ev G cf i).val v) C1 (fun y C2 => wpM (subW x y) C2 Q E) E) E) : wpM ((ev G cf (.sub o i)).val v) C Q E := by
  unfold ev
  show wpM (M.bind _ _) C Q E
  simp only [w_bind]
  exact k
theorem e_slc {o lo hi : BL.E} (k : wpM ((ev G cf o).val v) C (fun x C1 => wpM (partW (isAbs lo) ((ev G cf lo).val v)) C1 (fun l C2 => wpM (partW (isAbs hi) ((ev G cf hi).val v)) C2 (fun h C3 => wpM (slcW x l h) C3 Q E) E) E) E) : wpM ((ev G cf (.slc o lo hi)).val v) C Q E := by
  unfold ev
  show wpM (M.bind _ _) C Q E
  simp only [w_bind]
  exact k
theorem e_absent {m : M W} {b : Bool} (h : b = true) (k : Q .non C) : wpM (partW b m) C Q E := by subst h; exact k
theorem e_part {m : M W} {b : Bool} (h : b = false) (k : wpM m C (fun a C1 => ∃ i : Int, a = .int i ∧ Q (.int i) C1) E) : wpM (partW b m) C Q E := by
  subst h
  unfold partW
  rw [cond_false, w_bind]
  refine w_mono k (fun x C1 h => ?_) (fun _ _ z => z)
  obtain ⟨i, rfl, h⟩ := h
  exact h
theorem e_rev {o : BL.E} (k : wpM ((ev G cf o).val v) C (fun x C1 => wpM (revW x) C1 Q E) E) : wpM ((ev G cf (.rev o)).val v) C Q E := by
  unfold ev
  show wpM (M.bind _ _) C Q E
  rw [w_bind]
  exact k
theorem e_comp {e it : BL.E} {tg : Tg} {cs : List BL.E} {own : List (Str × Nat)} (k : wpM ((ev G cf it).itr v) C (fun J C1 => wpM (compL (fun v' => evTs (evl G cf cs) v') (fun v' => (ev G cf e).val v') tg J (wipeE v (own.map (·.2))) FUEL 0) C1 (fun ys C2 => Q (.ref C2.next) (C2.new (.lst ys))) (fun _ _ => False)) E) :
    wpM ((ev G cf (.comp e tg it cs own)).val v) C Q E := by
  unfold ev
  show wpM (M.bind _ _) C Q E
  simp only [w_bind, w_nox, w_new]
  exact k
theorem e_fst {es : List BL.E} (k : wpM (evJ (evl G cf es) v Str.empty) C Q E) : wpM ((ev G cf (.fst es)).val v) C Q E := by unfold ev; exact k
theorem e_fmt {e : BL.E} (k : wpM ((ev G cf e).val v) C (fun x C1 => wpM (fmtW x) C1 Q E) E) : wpM ((ev G cf (.fmt e)).val v) C Q E := by
  unfold ev
  show wpM (M.bind _ _) C Q E
  rw [w_bind]
  exact k
/-! ### several -/
theorem l_nil (k : QL [] C) : wpM (evEs (evl G cf []) v) C QL E := by unfold evl evEs; exact k
theorem l_cons {e : BL.E} {es : List BL.E} (h : isStar e = false) (k : wpM ((ev G cf e).val v) C (fun x C1 => wpM (evEs (evl G cf es) v) C1 (fun ws C2 => QL (x :: ws) C2) E) E) : wpM (evEs (evl G cf (e :: es)) v) C QL E := by
  unfold evl evEs
  rw [h]
  simp only [w_bind, cond_false, w_pure]
  exact k
theorem l_star {e : BL.E} {es : List BL.E} (k : wpM ((ev G cf e).val v) C (fun x C1 => wpM (itemsW x) C1 (fun xs C2 => wpM (evEs (evl G cf es) v) C2 (fun ws C3 => QL (xs ++ ws) C3) E) E) E) : wpM (evEs (evl G cf (.star e :: es)) v) C QL E := by
  unfold evl evEs
  simp only [isStar, w_bind, cond_true, w_pure]
  unfold ev
  exact k
theorem j_nil {acc : Str} (k : Q (.str acc) C) : wpM (evJ (evl G cf []) v acc) C Q E := by unfold evl evJ; exact k
theorem j_cons {e : BL.E} {es : List BL.E} {acc : Str} (k : wpM ((ev G cf e).val v) C (fun x C1 => ∃ y, x = .str y ∧ fitB (acc ++ y).length = true ∧ wpM (evJ (evl G cf es) v (acc ++ y)) C1 Q E) E) : wpM (evJ (evl G cf (e :: es)) v acc) C Q E := by
  unfold evl evJ
  rw [w_bind]
  refine w_mono k (fun x C1 h => ?_) (fun _ _ z => z)
  obtain ⟨y, rfl, h1, h⟩ := h
  dsimp only
  rw [w_bind, w_chk]
  exact ⟨h1, h⟩
theorem evl_cons {e : BL.E} {es : List BL.E} : evl G cf (e :: es) = (isStar e, ev G cf e) :: evl G cf es := by conv => lhs; unfold evl
theorem evl_two {e : BL.E} {es : List BL.E} : ∃ p L, evl G cf (e :: es) = p :: L := ⟨_, _, evl_cons⟩
theorem b_one {op : BoolOp} {e : BL.E} (k : wpM ((ev G cf e).val v) C Q E) : wpM (evB op (evl G cf [e]) v) C Q E := by
  unfold evl evl evB
  exact k
theorem b_and {e e2 : BL.E} {es : List BL.E} (k : wpM ((ev G cf e).val v) C (fun x C1 => wpM (truW x) C1 (fun b C2 => (b = true → wpM (evB .And (evl G cf (e2 :: es)) v) C2 Q E) ∧ (b = false → Q x C2)) E) E) : wpM (evB .And (evl G cf (e :: e2 :: es)) v) C Q E := by
  obtain ⟨p, L, hL⟩ := evl_two (G := G) (cf := cf) (e := e2) (es := es)
  rw [evl_cons]
  rw [hL] at k ⊢
  unfold evB
  dsimp only
  rw [w_bind]
  refine w_mono k (fun x C1 h => ?_) (fun _ _ z => z)
  rw [w_bind]
  refine w_mono h (fun b C2 h => ?_) (fun _ _ z => z)
  cases b with
  | true => exact h.1 rfl
  | false => exact h.2 rfl
theorem b_or {e e2 : BL.E} {es : List BL.E} (k : wpM ((ev G cf e).val v) C (fun x C1 => wpM (truW x) C1 (fun b C2 => (b = true → Q x C2) ∧ (b = false → wpM (evB .Or (evl G cf (e2 :: es)) v) C2 Q E)) E) E) : wpM (evB .Or (evl G cf (e :: e2 :: es)) v) C Q E := by
  obtain ⟨p, L, hL⟩ := evl_two (G := G) (cf := cf) (e := e2) (es := es)
  rw [evl_cons]
  rw [hL] at k ⊢
  unfold evB
  dsimp only
  rw [w_bind]
  refine w_mono k (fun x C1 h => ?_) (fun _ _ z => z)
  rw [w_bind]
  refine w_mono h (fun b C2 h => ?_) (fun _ _ z => z)
  cases b with
  | true => exact h.1 rfl
  | false => exact h.2 rfl
theorem e_boo {op : BoolOp} {es : List BL.E} (k : wpM (evB op (evl G cf es) v) C Q E) : wpM ((ev G cf (.boo op es)).val v) C Q E := by unfold ev; exact k
/-! ### tests -/
theorem bt_one {op : BoolOp} {e : BL.E} (k : wpM ((ev G cf e).tst v) C QB E) : wpM (evBT op (evl G cf [e]) v) C QB E := by
  unfold evl evl evBT
  exact k
theorem bt_and {e e2 : BL.E} {es : List BL.E} (k : wpM ((ev G cf e).tst v) C (fun b C2 => (b = true → wpM (evBT .And (evl G cf (e2 :: es)) v) C2 QB E) ∧ (b = false → QB false C2)) E) : wpM (evBT .And (evl G cf (e :: e2 :: es)) v) C QB E := by
  obtain ⟨p, L, hL⟩ := evl_two (G := G) (cf := cf) (e := e2) (es := es)
  rw [evl_cons]
  rw [hL] at k ⊢
  unfold evBT
  dsimp only
  rw [w_bind]
  refine w_mono k (fun b C1 h => ?_) (fun _ _ z => z)
  cases b with
  | true => exact h.1 rfl
  | false => exact h.2 rfl
theorem bt_or {e e2 : BL.E} {es : List BL.E} (k : wpM ((ev G cf e).tst v) C (fun b C2 => (b = true → QB true C2) ∧ (b = false → wpM (evBT .Or (evl G cf (e2 :: es)) v) C2 QB E)) E) : wpM (evBT .Or (evl G cf (e :: e2 :: es)) v) C QB E := by
  obtain ⟨p, L, hL⟩ := evl_two (G := G) (cf := cf) (e := e2) (es := es)
  rw [evl_cons]
  rw [hL] at k ⊢
  unfold evBT
  dsimp only
  rw [w_bind]
  refine w_mono k (fun b C1 h => ?_) (fun _ _ z => z)
  cases b with
  | true => exact h.1 rfl
  | false => exact h.2 rfl
theorem t_boo {op : BoolOp} {es : List BL.E} (k : wpM (evBT op (evl G cf es) v) C QB E) : wpM ((ev G cf (.boo op es)).tst v) C QB E := by unfold ev; exact k
theorem t_not {a : BL.E} (k : wpM ((ev G cf a).tst v) C (fun b C1 => QB (!b) C1) E) : wpM ((ev G cf (.not a)).tst v) C QB E := by
  unfold ev
  show wpM (M.bind _ _) C QB E
  rw [w_bind]
  exact k
theorem t_ite {c a b : BL.E} (k : wpM ((ev G cf c).tst v) C (fun r C1 => (r = true → wpM ((ev G cf a).tst v) C1 QB E) ∧ (r = false → wpM ((ev G cf b).tst v) C1 QB E)) E) : wpM ((ev G cf (.ite c a b)).tst v) C QB E := by
  unfold ev
  show wpM (M.bind _ _) C QB E
  simp only [w_bind, w_cond]
  exact k
/-- told by the value -/
def isOf : BL.E → Bool
  | .not _ => false | .boo _ _ => false | .ite _ _ _ => false | .rng1 _ => false | .rng2 _ _ => false | .enm _ => false | .zip _ _ => false | .never => false | .star _ => false
  | _ => true
theorem ev_of {e : BL.E} (h : isOf e = true) : ev G cf e = .of (ev G cf e).val := by
  cases e <;> first
    | (unfold ev; rfl)
    | cases h
theorem t_val {e : BL.E} (h : isOf e = true) (k : wpM ((ev G cf e).val v) C (fun w C1 => wpM (truW w) C1 QB E) E) : wpM ((ev G cf e).tst v) C QB E := by
  rw [ev_of h]
  show wpM (M.bind _ _) C QB E
  rw [w_bind]
  exact k
theorem tru {b : Bool} (k : QB b C) : wpM (truW (.bl b)) C QB E := k
theorem i_val {e : BL.E} (h : isOf e = true) (k : wpM ((ev G cf e).val v) C (fun w C1 => wpM (walkW w) C1 QI E) E) : wpM ((ev G cf e).itr v) C QI E := by
  rw [ev_of h]
  show wpM (M.bind _ _) C QI E
  rw [w_bind]
  exact k
theorem i_rng1 {a : BL.E} (k : wpM ((ev G cf a).val v) C (fun x C1 => ∃ j : Int, x = .int j ∧ -(2 ^ 62) ≤ j ∧ j < 2 ^ 62 ∧ QI (.rng 0 j.toNat) C1) E) : wpM ((ev G cf (.rng1 a)).itr v) C QI E := by
  unfold ev
  show wpM (M.bind _ _) C QI E
  rw [w_bind]
  refine w_mono k (fun x C1 h => ?_) (fun _ _ z => z)
  obtain ⟨j, rfl, h1, h2, h⟩ := h
  dsimp only
  rw [w_bind, w_chk]
  exact ⟨by simp only [Bool.and_eq_true, decide_eq_true_eq]; exact ⟨h1, h2⟩, h⟩
theorem i_enm {a : BL.E} (k : wpM ((ev G cf a).val v) C (fun x C1 => wpM (enmW x) C1 QI E) E) : wpM ((ev G cf (.enm a)).itr v) C QI E := by
  unfold ev
  show wpM (M.bind _ _) C QI E
  rw [w_bind]
  exact k
theorem i_zip {a b : BL.E} (k : wpM ((ev G cf a).val v) C (fun x C1 => wpM ((ev G cf b).val v) C1 (fun y C2 => wpM (zipW x y) C2 QI E) E) E) : wpM ((ev G cf (.zip a b)).itr v) C QI E := by
  unfold ev
  show wpM (M.bind _ _) C QI E
  simp only [w_bind]
  exact k
theorem ts_nil (k : QB true C) : wpM (evTs (evl G cf []) v) C QB E := by unfold evl evTs; exact k
theorem ts_one {e : BL.E} (k : wpM ((ev G cf e).tst v) C QB E) : wpM (evTs (evl G cf [e]) v) C QB E := by
  unfold evl evl evTs evTs
  rw [w_bind]
  refine w_mono k (fun b C1 h => ?_) (fun _ _ z => z)
  cases b <;> exact h
/-! ### statements -/
theorem x_nil (k : QX (.nx v C)) : (evSs G cf [] v C).wp QX := w_nil.mpr k
theorem x_cons {s : S} {ss : List S} (k : (evS G cf s v C).wp (thenQ (evSs G cf ss) QX)) : (evSs G cf (s :: ss) v C).wp QX := w_cons.mpr k
theorem x_asgN {i : Nat} {e : BL.E} (k : wpM ((ev G cf e).val v) C (fun w C1 => QX (.nx (v.set i (some w)) C1)) (fun x C1 => QX (.exc x v C1))) : (evS G cf (.asg (.nm i) e) v C).wp QX := by
  unfold evS
  rw [w_up]
  exact k
theorem x_asgT {is : List Nat} {e : BL.E} (k : wpM ((ev G cf e).val v) C (fun w C1 => ∃ ws v', w = .tup ws ∧ setEs v is ws = some v' ∧ QX (.nx v' C1)) (fun x C1 => QX (.exc x v C1))) : (evS G cf (.asg (.tp is) e) v C).wp QX := by
  unfold evS
  rw [w_up]
  refine w_mono k (fun w C1 h => ?_) (fun _ _ z => z)
  obtain ⟨ws, v', rfl, h1, h⟩ := h
  show Tr.wp (match setEs v is ws with
    | some v' => .ret (.nx v' C1)
    | none => .no) QX
  rw [h1]
  exact h
theorem x_par {is : List Nat} {es : List BL.E} (k : wpM (evEs (evl G cf es) v) C (fun ws C1 => ∃ v', setEs v is ws = some v' ∧ QX (.nx v' C1)) (fun x C1 => QX (.exc x v C1))) : (evS G cf (.par is es) v C).wp QX := by
  unfold evS
  rw [w_up]
  refine w_mono k (fun w C1 h => ?_) (fun _ _ z => z)
  exact w_setEs.mpr h
theorem x_fld {o e : BL.E} {f : Nat} (k : wpM ((ev G cf e).val v) C (fun w C1 => wpM ((ev G cf o).val v) C1 (fun x C2 => wpM (setF G x f w) C2 (fun _ C3 => QX (.nx v C3)) (fun x C1 => QX (.exc x v C1))) (fun x C1 => QX (.exc x v C1))) (fun x C1 => QX (.exc x v C1))) : (evS G cf (.fld o f e) v C).wp QX := by
  unfold evS
  simp only [w_up, w_bind]
  exact k
theorem x_setI {o i e : BL.E} (k : wpM ((ev G cf e).val v) C (fun w C1 => wpM ((ev G cf o).val v) C1 (fun x C2 => wpM ((ev G cf i).val v) C2 (fun y C3 => wpM (setWI x y w) C3 (fun _ C3 => QX (.nx v C3)) (fun x C1 => QX (.exc x v C1))) (fun x C1 => QX (.exc x v C1))) (fun x C1 => QX (.exc x v C1))) (fun x C1 => QX (.exc x v C1))) : (evS G cf (.setI o i e) v C).wp QX := by
  unfold evS
  simp only [w_up, w_bind]
  exact k
theorem x_expr {e : BL.E} (k : wpM ((ev G cf e).val v) C (fun _ C1 => QX (.nx v C1)) (fun x C1 => QX (.exc x v C1))) : (evS G cf (.expr e) v C).wp QX := by
  unfold evS
  rw [w_up]
  exact k
theorem x_sup {d f a : Nat} {fs : List (Nat × W)} {es : List BL.E} (h1 : supAr G f es.length = true) (h2 : v[0]? = some (some (.ref a))) (h3 : C.get a = some (.ins d fs))
    (k : wpM (evEs (evl G cf es) v) C (fun ws C1 => ws.length = es.length ∧ wpM (callK G cf f (.ref a :: ws)) C1 (fun _ C2 => QX (.nx v C2)) (fun x C1 => QX (.exc x v C1))) (fun x C1 => QX (.exc x v C1))) : (evS G cf (.sup d f es) v C).wp QX := by
  unfold evS
  rw [w_up, w_bind, w_chk]
  refine ⟨h1, ?_⟩
  rw [w_bind]
  unfold supW varW
  rw [w_bind, h2]
  show wpM ((M.get a).bind _) C _ _
  rw [w_bind, w_get]
  refine ⟨_, h3, ?_⟩
  show wpM ((M.chk (Nat.beq d d)).bind _) C _ _
  rw [w_bind, w_chk]
  refine ⟨Nat.beq_refl d, ?_⟩
  show wpM (M.bind _ _) C _ _
  rw [w_bind]
  refine w_mono k (fun ws C1 h => ?_) (fun _ _ z => z)
  rw [w_bind, w_chk]
  exact ⟨beq_t h.1, h.2⟩
theorem x_ife {c : BL.E} {a b : List S} (k : wpM ((ev G cf c).tst v) C (fun r C1 => (r = true → (evSs G cf a v C1).wp QX) ∧ (r = false → (evSs G cf b v C1).wp QX)) (fun x C1 => QX (.exc x v C1))) : (evS G cf (.ife c a b) v C).wp QX := by
  unfold evS
  simp only [w_up, w_condS]
  exact k
theorem x_for {tg : Tg} {it : BL.E} {body : List S} (k : wpM ((ev G cf it).itr v) C (fun J C1 => (forL tg J (fun v' C' => evSs G cf body v' C') FUEL 0 v C1).wp QX) (fun x C1 => QX (.exc x v C1))) : (evS G cf (.for_ tg it body) v C).wp QX := by
  unfold evS
  rw [w_up]
  exact k
theorem x_whl {c : BL.E} {body : List S} (k : (whileL (fun v' => (ev G cf c).tst v') (fun v' C' => evSs G cf body v' C') FUEL v C).wp QX) : (evS G cf (.whl c body) v C).wp QX := by
  unfold evS
  exact k
theorem x_ret {e : BL.E} (k : wpM ((ev G cf e).val v) C (fun w C1 => QX (.rt w C1)) (fun x C1 => QX (.exc x v C1))) : (evS G cf (.ret e) v C).wp QX := by
  unfold evS
  rw [w_up]
  exact k
theorem x_retN (k : QX (.rt .non C)) : (evS G cf .retN v C).wp QX := by unfold evS; exact k
theorem x_cont (k : QX (.ct v C)) : (evS G cf .cont v C).wp QX := by unfold evS; exact k
theorem x_brk (k : QX (.br v C)) : (evS G cf .brk v C).wp QX := by unfold evS; exact k
theorem x_pass (k : QX (.nx v C)) : (evS G cf .pass v C).wp QX := by unfold evS; exact k
theorem q_nx {k : Env → Hc → Tr XF} (h : (k v C).wp QX) : thenQ k QX (.nx v C) := h
theorem q_rt {k : Env → Hc → Tr XF} {w : W} (h : QX (.rt w C)) : thenQ k QX (.rt w C) := h
theorem q_br {k : Env → Hc → Tr XF} (h : QX (.br v C)) : thenQ k QX (.br v C) := h
theorem q_ct {k : Env → Hc → Tr XF} (h : QX (.ct v C)) : thenQ k QX (.ct v C) := h
theorem q_exc {k : Env → Hc → Tr XF} {x : Xn} (h : QX (.exc x v C)) : thenQ k QX (.exc x v C) := h
theorem q_end {w : W} (h : Q w C) : endQ Q E (.rt w C) := h
theorem q_endN (h : Q .non C) : endQ Q E (.nx v C) := h
theorem q_endX {x : Xn} (h : E x C) : endQ Q E (.exc x v C) := h
theorem q_tnx {I : Env → Hc → Prop} (h : I v C) : turnQ I QX (.nx v C) := h
theorem q_tct {I : Env → Hc → Prop} (h : I v C) : turnQ I QX (.ct v C) := h
theorem q_tbr {I : Env → Hc → Prop} (h : QX (.nx v C)) : turnQ I QX (.br v C) := h
theorem q_trt {I : Env → Hc → Prop} {w : W} (h : QX (.rt w C)) : turnQ I QX (.rt w C) := h
theorem q_tex {I : Env → Hc → Prop} {x : Xn} (h : QX (.exc x v C)) : turnQ I QX (.exc x v C) := h
end
end BL
set_option Elab.async false
set_option linter.all false
set_option maxRecDepth 100000
set_option maxHeartbeats 1000000
/-! BL34: one rule for each operation on values. -/
namespace BL
open PySem L2
section
variable {G : Sg} {cf : Cf} {v : Env} {C : Hc} {E : Xn → Hc → Prop} {Q : W → Hc → Prop} {QB : Bool → Hc → Prop} {QI : It' → Hc → Prop} {QL : List W → Hc → Prop} {QU : Unit → Hc → Prop} {QN : Nat → Hc → Prop} {i j : Int} {x y : Str} {a b : Nat} {xs ys : List W}
/-! ### operators -/
theorem v_addI (k : Q (.int (i + j)) C) : wpM (binW .Add (.int i) (.int j)) C Q E := k
theorem v_subI (k : Q (.int (i - j)) C) : wpM (binW .Sub (.int i) (.int j)) C Q E := k
theorem v_mulI (h : (i64 i || i64 j) = true) (k : Q (.int (i * j)) C) : wpM (binW .Mult (.int i) (.int j)) C Q E := by
  show wpM ((M.chk _).bind _) C Q E
  rw [w_bind, w_chk]; exact ⟨h, k⟩
theorem v_modI (h : 0 < j) (k : Q (.int (i % j)) C) : wpM (binW .Mod (.int i) (.int j)) C Q E := by
  show wpM ((M.chk _).bind _) C Q E
  rw [w_bind, w_chk]; exact ⟨decide_eq_true h, k⟩
theorem v_divI (h : 0 < j) (h2 : j < 1073741824) (k : Q (.int (i / j)) C) : wpM (binW .FloorDiv (.int i) (.int j)) C Q E := by
  show wpM ((M.chk _).bind _) C Q E
  rw [w_bind, w_chk]; exact ⟨by simp [h, h2], k⟩
theorem v_powI (h : 0 ≤ j) (h2 : j ≤ 1000) (h3 : i.natAbs < 2 ^ 64) (k : Q (.int (i ^ j.toNat)) C) : wpM (binW .Pow (.int i) (.int j)) C Q E := by
  show wpM ((M.chk _).bind _) C Q E
  rw [w_bind, w_chk]; exact ⟨by simp only [Bool.and_eq_true, decide_eq_true_eq]; exact ⟨⟨h, h2⟩, h3⟩, k⟩
theorem v_addS (h : x.length + y.length ≤ LINE) (k : Q (.str (x ++ y)) C) : wpM (binW .Add (.str x) (.str y)) C Q E := by
  show wpM ((M.chk _).bind _) C Q E
  rw [w_bind, w_chk]; exact ⟨Nat.ble_eq_true_of_le h, k⟩
theorem v_addL (h1 : C.get a = some (.lst xs)) (h2 : C.get b = some (.lst ys)) (h : xs.length + ys.length ≤ LINE) (k : Q (.ref C.next) (C.new (.lst (xs ++ ys)))) : wpM (binW .Add (.ref a) (.ref b)) C Q E := by
  show wpM ((M.get a).bind _) C Q E
  rw [w_bind, w_get]
  refine ⟨_, h1, ?_⟩
  rw [w_bind, w_get]
  refine ⟨_, h2, ?_⟩
  show wpM ((M.chk _).bind _) C Q E
  rw [w_bind, w_chk]; exact ⟨Nat.ble_eq_true_of_le h, k⟩
theorem v_repL (h1 : C.get a = some (.lst xs)) (h0 : 0 ≤ j) (h2 : j < 1000) (h : xs.length * j.toNat ≤ LINE) (k : Q (.ref C.next) (C.new (.lst (List.replicate j.toNat xs).flatten))) : wpM (binW .Mult (.ref a) (.int j)) C Q E := by
  show wpM ((M.get a).bind _) C Q E
  rw [w_bind, w_get]
  refine ⟨_, h1, ?_⟩
  show wpM ((M.chk _).bind _) C Q E
  rw [w_bind, w_chk]; exact ⟨by simp only [Bool.and_eq_true, decide_eq_true_eq]; exact ⟨⟨h0, h2⟩, Nat.ble_eq_true_of_le h⟩, k⟩
/-! ### comparisons -/
theorem v_eqS (k : QB (decide (x = y)) C) : wpM (cmpW G cf .Eq (.str x) (.str y)) C QB E := k
theorem v_neS (k : QB (!decide (x = y)) C) : wpM (cmpW G cf .NotEq (.str x) (.str y)) C QB E := k
theorem v_eqI (k : QB (decide (i = j)) C) : wpM (cmpW G cf .Eq (.int i) (.int j)) C QB E := k
theorem v_neI (k : QB (!decide (i = j)) C) : wpM (cmpW G cf .NotEq (.int i) (.int j)) C QB E := k
theorem v_ltI (k : QB (decide (i < j)) C) : wpM (cmpW G cf .Lt (.int i) (.int j)) C QB E := k
theorem v_leI (k : QB (decide (i ≤ j)) C) : wpM (cmpW G cf .LtE (.int i) (.int j)) C QB E := k
theorem v_gtI (k : QB (decide (j < i)) C) : wpM (cmpW G cf .Gt (.int i) (.int j)) C QB E := k
theorem v_geI (k : QB (decide (j ≤ i)) C) : wpM (cmpW G cf .GtE (.int i) (.int j)) C QB E := k
theorem v_inT {w : W} (h : (flatW w && xs.all flatW) = true) (k : QB (inV (toV w) (xs.map toV)) C) : wpM (cmpW G cf .In w (.tup xs)) C QB E := by
  show wpM ((M.chk _).bind _) C QB E
  rw [w_bind, w_chk]; exact ⟨h, k⟩
theorem v_inL {w : W} (h1 : C.get a = some (.lst xs)) (h : (flatW w && xs.all flatW) = true) (k : QB (inV (toV w) (xs.map toV)) C) : wpM (cmpW G cf .In w (.ref a)) C QB E := by
  show wpM ((M.get a).bind _) C QB E
  rw [w_bind, w_get]
  refine ⟨_, h1, ?_⟩
  show wpM ((M.chk _).bind _) C QB E
  rw [w_bind, w_chk]; exact ⟨h, k⟩
theorem v_inS {n : Nat} (k : QB (decide (n ∈ y.cps.toList)) C) : wpM (cmpW G cf .In (.str ⟨#[n]⟩) (.str y)) C QB E := by
  show wpM ((M.opt _).bind _) C QB E
  rw [w_bind, w_opt]
  exact ⟨n, rfl, k⟩
/-- two tuples, or lists, of data -/
theorem v_eqT {d e : List PyData} (h1 : rdW C DEEP (.tup xs) = some (.tuple d)) (h2 : rdW C DEEP (.tup ys) = some (.tuple e)) (s1 : SeqAt.shaped (.tuple d) = true) (s2 : SeqAt.shaped (.tuple e) = true) (k : QB (PyData.eqvAll d e) C) : wpM (cmpW G cf .Eq (.tup xs) (.tup ys)) C QB E := by
  show wpM (eqD' _ _) C QB E
  exact w_eqD' h1 h2 s1 s2 (by unfold PyData.eqv; exact k)
theorem v_eqL {w : W} {d e : PyData} (h1 : C.get a = some (.lst xs)) (h2 : rdW C DEEP (.ref a) = some d) (h3 : rdW C DEEP w = some e) (s1 : SeqAt.shaped d = true) (s2 : SeqAt.shaped e = true) (k : QB (PyData.eqv d e) C) : wpM (cmpW G cf .Eq (.ref a) w) C QB E := by
  unfold cmpW eqW
  dsimp only
  rw [w_bind, w_get]
  refine ⟨_, h1, ?_⟩
  show wpM (eqD' _ _) C QB E
  exact w_eqD' h2 h3 s1 s2 k
theorem v_neL {w : W} {d e : PyData} (h1 : C.get a = some (.lst xs)) (h2 : rdW C DEEP (.ref a) = some d) (h3 : rdW C DEEP w = some e) (s1 : SeqAt.shaped d = true) (s2 : SeqAt.shaped e = true) (k : QB (!PyData.eqv d e) C) : wpM (cmpW G cf .NotEq (.ref a) w) C QB E := by
  show wpM ((eqW G cf _ _).bind _) C QB E
  rw [w_bind]
  exact v_eqL (G := G) (cf := cf) (QB := fun b C' => wpM (M.pure (!b)) C' QB E) h1 h2 h3 s1 s2 k
/-- an own == -/
theorem v_eqO {c : Nat} {fs : List (Nat × W)} {d : Cd} {w : W} (h1 : C.get a = some (.ins c fs)) (hc : clsP G.cls c = some d) (hn : ∃ t, tagW G.cls C w = some t ∧ (match t with
    | .cls e => Nat.beq e c || isTag G.cls (.cls e) (.cls c) == some false
    | .ty _ => true) = true) (k : wpM (callK G cf d.eq [.ref a, w]) C (fun r C1 => ∃ b, r = .bl b ∧ QB b C1) (fun _ _ => False)) : wpM (cmpW G cf .Eq (.ref a) w) C QB E := by
  unfold cmpW eqW
  dsimp only
  rw [w_bind, w_get]
  refine ⟨_, h1, ?_⟩
  dsimp only
  rw [hc]
  dsimp only
  rw [w_bind]
  obtain ⟨t, et, ht⟩ := hn
  unfold notSub wpM
  dsimp only
  rw [et]
  cases t with
  | ty n =>
    show wpM (((callK G cf d.eq [.ref a, w]).nox).bind truW) C QB E
    rw [w_bind, w_nox]
    refine w_mono k (fun r C1 h => ?_) (fun _ _ z => z)
    obtain ⟨b, rfl, h⟩ := h
    exact h
  | cls e =>
    dsimp only at ht ⊢
    rw [ht]
    show wpM (((callK G cf d.eq [.ref a, w]).nox).bind truW) C QB E
    rw [w_bind, w_nox]
    refine w_mono k (fun r C1 h => ?_) (fun _ _ z => z)
    obtain ⟨b, rfl, h⟩ := h
    exact h
theorem v_ne {x y : W} (k : wpM (cmpW G cf .Eq x y) C (fun b C1 => QB (!b) C1) E) : wpM (cmpW G cf .NotEq x y) C QB E := by
  show wpM ((eqW G cf _ _).bind _) C QB E
  rw [w_bind]
  exact k
theorem v_notIn {x y : W} (k : wpM (cmpW G cf .In x y) C (fun b C1 => QB (!b) C1) E) : wpM (cmpW G cf .NotIn x y) C QB E := by
  show wpM ((inW _ _).bind _) C QB E
  rw [w_bind]
  exact k
/-! ### items -/
theorem v_subT {w : W} (h : L2.atI xs i = some w) (k : Q w C) : wpM (subW (.tup xs) (.int i)) C Q E := w_opt.mpr ⟨w, h, k⟩
theorem v_subL {w : W} (h1 : C.get a = some (.lst xs)) (h : L2.atI xs i = some w) (k : Q w C) : wpM (subW (.ref a) (.int i)) C Q E := by
  show wpM ((M.get a).bind _) C Q E
  rw [w_bind, w_get]
  exact ⟨_, h1, w_opt.mpr ⟨w, h, k⟩⟩
theorem v_subS {n : Nat} (hf : x.length ≤ LINE) (h : L2.atI x.cps.toList i = some n) (k : Q (.str ⟨#[n]⟩) C) : wpM (subW (.str x) (.int i)) C Q E := by
  show wpM ((M.chk _).bind _) C Q E
  rw [w_bind, w_chk]
  exact ⟨Nat.ble_eq_true_of_le hf, w_opt.mpr ⟨_, by rw [h]; rfl, k⟩⟩
theorem v_slcT {lo hi : W} {l h : Option Int} (h1 : boundW lo = some l) (h2 : boundW hi = some h) (k : Q (.tup (cutW xs l h)) C) : wpM (slcW (.tup xs) lo hi) C Q E := by
  unfold slcW
  rw [h1, h2]
  exact k
theorem v_slcL {lo hi : W} {l h : Option Int} (h0 : C.get a = some (.lst xs)) (h1 : boundW lo = some l) (h2 : boundW hi = some h) (k : Q (.ref C.next) (C.new (.lst (cutW xs l h)))) : wpM (slcW (.ref a) lo hi) C Q E := by
  unfold slcW
  rw [h1, h2]
  show wpM ((M.get a).bind _) C Q E
  rw [w_bind, w_get]
  exact ⟨_, h0, k⟩
theorem v_slcS {lo hi : W} {l h : Option Int} (hf : x.length ≤ LINE) (h1 : boundW lo = some l) (h2 : boundW hi = some h) (k : Q (.str (cutS x l h)) C) : wpM (slcW (.str x) lo hi) C Q E := by
  unfold slcW
  rw [h1, h2]
  show wpM ((M.chk _).bind _) C Q E
  rw [w_bind, w_chk]
  exact ⟨Nat.ble_eq_true_of_le hf, k⟩
theorem v_slcX {ns : List Int} {lo hi : W} {l h : Option Int} (h1 : boundW lo = some l) (h2 : boundW hi = some h) (k : Q (.ref C.next) (C.new (.lst (cutW (ns.map W.int) l h)))) : wpM (slcW (.scr ns) lo hi) C Q E := by
  unfold slcW
  rw [h1, h2]
  exact k
theorem v_rev (h : C.get a = some (.lst xs)) (k : Q (.ref C.next) (C.new (.lst xs.reverse))) : wpM (revW (.ref a)) C Q E := by
  show wpM ((M.get a).bind _) C Q E
  rw [w_bind, w_get]
  exact ⟨_, h, k⟩
theorem v_itT (k : QL xs C) : wpM (itemsW (.tup xs)) C QL E := k
theorem v_itL (h : C.get a = some (.lst xs)) (k : QL xs C) : wpM (itemsW (.ref a)) C QL E := by
  show wpM ((M.get a).bind _) C QL E
  rw [w_bind, w_get]
  exact ⟨_, h, k⟩
/-! ### fields -/
theorem v_att {c f : Nat} {fs : List (Nat × W)} {w : W} (h1 : C.get a = some (.ins c fs)) (h2 : fldOk G c f = true) (h3 : lk f fs = some w) (k : Q w C) : wpM (attW G (.ref a) f) C Q E := by
  show wpM ((M.get a).bind _) C Q E
  rw [w_bind, w_get]
  refine ⟨_, h1, ?_⟩
  show wpM ((M.chk _).bind _) C Q E
  rw [w_bind, w_chk]
  exact ⟨h2, w_opt.mpr ⟨w, h3, k⟩⟩
theorem v_setF {c f : Nat} {fs : List (Nat × W)} {w : W} (h1 : C.get a = some (.ins c fs)) (h2 : (fldOk G c f && Nat.blt fs.length 900) = true) (k : QU () (C.put a (.ins c (putW f w fs)))) : wpM (setF G (.ref a) f w) C QU E := by
  show wpM ((M.get a).bind _) C QU E
  rw [w_bind, w_get]
  refine ⟨_, h1, ?_⟩
  show wpM ((M.chk _).bind _) C QU E
  rw [w_bind, w_chk]
  exact ⟨h2, k⟩
theorem v_setI {w : W} {n : Nat} (h1 : C.get a = some (.lst xs)) (h2 : ixN xs.length i = some n) (k : QU () (C.put a (.lst (xs.set n w)))) : wpM (setWI (.ref a) (.int i) w) C QU E := by
  show wpM ((M.get a).bind _) C QU E
  rw [w_bind, w_get]
  refine ⟨_, h1, ?_⟩
  dsimp only
  rw [h2]
  exact k
theorem v_metO {c m f : Nat} {fs : List (Nat × W)} {d : Cd} (h1 : C.get a = some (.ins c fs)) (h2 : lk m fs = none) (hc : clsP G.cls c = some d) (h3 : lk m d.mth = some f) (k : QN f C) : wpM (metO G (.ref a) m) C QN E := by
  show wpM ((M.get a).bind _) C QN E
  rw [w_bind, w_get]
  refine ⟨_, h1, ?_⟩
  dsimp only
  rw [h2, hc]
  show wpM (match (none : Option W), lk m d.mth with
    | none, some k => M.pure k
    | _, _ => M.no) C QN E
  rw [h3]
  exact k
/-! ### what is walked -/
theorem v_wT (k : QI (.seq xs) C) : wpM (walkW (.tup xs)) C QI E := k
theorem v_wS (k : QI (.seq (x.cps.toList.map fun c => .str ⟨#[c]⟩)) C) : wpM (walkW (.str x)) C QI E := k
theorem v_wL (h : C.get a = some (.lst xs)) (k : QI (.lst a) C) : wpM (walkW (.ref a)) C QI E := by
  show wpM ((M.get a).bind _) C QI E
  rw [w_bind, w_get]
  exact ⟨_, h, k⟩
theorem v_enm (h : C.get a = some (.lst xs)) (k : QI (.enm (.lst a)) C) : wpM (enmW (.ref a)) C QI E := by
  show wpM ((M.get a).bind _) C QI E
  rw [w_bind, w_get]
  exact ⟨_, h, k⟩
theorem v_zipT (k : QI (.zip (.seq xs) (.seq ys)) C) : wpM (zipW (.tup xs) (.tup ys)) C QI E := k
theorem v_zipL (h : C.get a = some (.lst xs)) (h2 : C.get b = some (.lst ys)) (k : QI (.zip (.lst a) (.lst b)) C) : wpM (zipW (.ref a) (.ref b)) C QI E := by
  show wpM ((M.get a).bind _) C QI E
  rw [w_bind, w_get]
  refine ⟨_, h, ?_⟩
  rw [w_bind, w_get]
  exact ⟨_, h2, k⟩
/-! ### built-in defs -/
theorem v_lenS (h : x.length ≤ LINE) (k : Q (.int x.length) C) : wpM (bltC G cf .len [.str x]) C Q E := by
  show wpM ((M.chk _).bind _) C Q E
  rw [w_bind, w_chk]
  exact ⟨Nat.ble_eq_true_of_le h, k⟩
theorem v_lenT (k : Q (.int xs.length) C) : wpM (bltC G cf .len [.tup xs]) C Q E := k
theorem v_lenL (h : C.get a = some (.lst xs)) (k : Q (.int xs.length) C) : wpM (bltC G cf .len [.ref a]) C Q E := by
  show wpM ((itemsW (.ref a)).bind _) C Q E
  rw [w_bind]
  exact v_itL h k
theorem v_tupT (k : Q (.tup xs) C) : wpM (bltC G cf .tuple [.tup xs]) C Q E := k
theorem v_tupL (h : C.get a = some (.lst xs)) (k : Q (.tup xs) C) : wpM (bltC G cf .tuple [.ref a]) C Q E := by
  show wpM ((itemsW (.ref a)).bind _) C Q E
  rw [w_bind]
  exact v_itL h k
theorem v_lstT (k : Q (.ref C.next) (C.new (.lst xs))) : wpM (bltC G cf .list [.tup xs]) C Q E := k
theorem v_lstL (h : C.get a = some (.lst xs)) (k : Q (.ref C.next) (C.new (.lst xs))) : wpM (bltC G cf .list [.ref a]) C Q E := by
  show wpM ((itemsW (.ref a)).bind _) C Q E
  rw [w_bind]
  exact v_itL h k
theorem v_all {bs : List Bool} (h : C.get a = some (.lst xs)) (h2 : boolsW xs = some bs) (k : Q (.bl (bs.all id)) C) : wpM (bltC G cf .all [.ref a]) C Q E := by
  show wpM ((itemsW (.ref a)).bind _) C Q E
  rw [w_bind]
  refine v_itL h ?_
  rw [w_bind, w_opt]
  exact ⟨bs, h2, k⟩
theorem v_any {bs : List Bool} (h : C.get a = some (.lst xs)) (h2 : boolsW xs = some bs) (k : Q (.bl (bs.any id)) C) : wpM (bltC G cf .any [.ref a]) C Q E := by
  show wpM ((itemsW (.ref a)).bind _) C Q E
  rw [w_bind]
  refine v_itL h ?_
  rw [w_bind, w_opt]
  exact ⟨bs, h2, k⟩
theorem v_sum {bs : List Int} (h : C.get a = some (.lst xs)) (h2 : intsW xs = some bs) (k : Q (.int bs.sum) C) : wpM (bltC G cf .sum [.ref a]) C Q E := by
  show wpM ((itemsW (.ref a)).bind _) C Q E
  rw [w_bind]
  refine v_itL h ?_
  rw [w_bind, w_opt]
  exact ⟨bs, h2, k⟩
theorem v_intI (k : Q (.int i) C) : wpM (bltC G cf .int [.int i]) C Q E := k
theorem v_intB {p : Bool} (k : Q (.int (if p then 1 else 0)) C) : wpM (bltC G cf .int [.bl p]) C Q E := k
theorem v_absI (k : Q (.int (if i < 0 then -i else i)) C) : wpM (bltC G cf .abs [.int i]) C Q E := k
theorem v_strS (k : Q (.str x) C) : wpM (bltC G cf .str [.str x]) C Q E := k
theorem v_strO {c : Nat} {fs : List (Nat × W)} {d : Cd} (h1 : C.get a = some (.ins c fs)) (hc : clsP G.cls c = some d) (k : wpM (callK G cf d.str [.ref a]) C (fun r C1 => ∃ z, r = .str z ∧ Q (.str z) C1) (fun _ _ => False)) : wpM (bltC G cf .str [.ref a]) C Q E := by
  show wpM (strW G cf (.ref a)) C Q E
  unfold strW
  dsimp only
  rw [w_bind, w_get]
  refine ⟨_, h1, ?_⟩
  dsimp only
  rw [hc]
  dsimp only
  rw [w_bind, w_nox]
  refine w_mono k (fun r C1 h => ?_) (fun _ _ z => z)
  obtain ⟨z, rfl, h⟩ := h
  exact h
/-! ### methods -/
theorem v_okJ (k : QU () C) : wpM (bmOk .join (.str x)) C QU E := k
theorem v_okA (h : C.get a = some (.lst xs)) (k : QU () C) : wpM (bmOk .append (.ref a)) C QU E := by
  show wpM ((M.get a).bind _) C QU E
  rw [w_bind, w_get]
  exact ⟨_, h, k⟩
theorem v_okE (h : C.get a = some (.lst xs)) (k : QU () C) : wpM (bmOk .extend (.ref a)) C QU E := by
  show wpM ((M.get a).bind _) C QU E
  rw [w_bind, w_get]
  exact ⟨_, h, k⟩
theorem v_okP (h : C.get a = some (.lst xs)) (k : QU () C) : wpM (bm0Ok .pop (.ref a)) C QU E := by
  show wpM ((M.get a).bind _) C QU E
  rw [w_bind, w_get]
  exact ⟨_, h, k⟩
theorem v_joinT {zs : List Str} (h : strsW xs = some zs) (hf : joinFit x zs = true) (k : Q (.str (Txt.join x zs)) C) : wpM (metW (.str x) .join [.tup xs]) C Q E := by
  unfold metW joinW
  dsimp only
  rw [w_bind]
  refine v_itT ?_
  rw [w_bind, w_opt]
  refine ⟨zs, h, ?_⟩
  rw [w_bind, w_chk]
  exact ⟨hf, k⟩
theorem v_joinL {zs : List Str} (h0 : C.get a = some (.lst xs)) (h : strsW xs = some zs) (hf : joinFit x zs = true) (k : Q (.str (Txt.join x zs)) C) : wpM (metW (.str x) .join [.ref a]) C Q E := by
  show wpM ((itemsW (.ref a)).bind _) C Q E
  rw [w_bind]
  refine v_itL h0 ?_
  rw [w_bind, w_opt]
  refine ⟨zs, h, ?_⟩
  rw [w_bind, w_chk]
  exact ⟨hf, k⟩
theorem v_app {w : W} (h : C.get a = some (.lst xs)) (hf : xs.length < LINE) (k : Q .non (C.put a (.lst (xs ++ [w])))) : wpM (metW (.ref a) .append [w]) C Q E := by
  show wpM ((M.get a).bind _) C Q E
  rw [w_bind, w_get]
  refine ⟨_, h, ?_⟩
  show wpM ((M.chk _).bind _) C Q E
  rw [w_bind, w_chk]
  exact ⟨blt_t hf, k⟩
theorem v_extT (h : C.get a = some (.lst xs)) (hf : xs.length + ys.length ≤ LINE) (k : Q .non (C.put a (.lst (xs ++ ys)))) : wpM (metW (.ref a) .extend [.tup ys]) C Q E := by
  unfold metW extendW
  dsimp only
  rw [w_bind]
  refine v_itT ?_
  rw [w_bind, w_get]
  refine ⟨_, h, ?_⟩
  show wpM ((M.chk _).bind _) C Q E
  rw [w_bind, w_chk]
  exact ⟨Nat.ble_eq_true_of_le hf, k⟩
theorem v_extL (h : C.get a = some (.lst xs)) (h2 : C.get b = some (.lst ys)) (hf : xs.length + ys.length ≤ LINE) (k : Q .non (C.put a (.lst (xs ++ ys)))) : wpM (metW (.ref a) .extend [.ref b]) C Q E := by
  show wpM ((itemsW (.ref b)).bind _) C Q E
  rw [w_bind]
  refine v_itL h2 ?_
  rw [w_bind, w_get]
  refine ⟨_, h, ?_⟩
  show wpM ((M.chk _).bind _) C Q E
  rw [w_bind, w_chk]
  exact ⟨Nat.ble_eq_true_of_le hf, k⟩
theorem v_pop {w : W} (h : C.get a = some (.lst xs)) (h2 : xs[xs.length - 1]? = some w) (k : Q w (C.put a (.lst xs.dropLast))) : wpM (met0W (.ref a) .pop) C Q E := by
  show wpM ((M.get a).bind _) C Q E
  rw [w_bind, w_get]
  refine ⟨_, h, ?_⟩
  show wpM ((M.opt _).bind _) C Q E
  rw [w_bind, w_opt]
  exact ⟨w, h2, k⟩
theorem v_fmtS (h : x.length ≤ LINE) (k : Q (.str x) C) : wpM (fmtW (.str x)) C Q E := by
  show wpM ((M.chk _).bind _) C Q E
  rw [w_bind, w_chk]
  exact ⟨Nat.ble_eq_true_of_le h, k⟩
end
end BL
set_option Elab.async false
set_option linter.all false
set_option maxRecDepth 100000
set_option maxHeartbeats 1000000
/-! BL32: the source of draws. -/
namespace BL
open PySem L2
local macro_rules | `(tactic| walk_at "hp") => `(tactic| first | assumption | exact new_self | (refine new_old ?_; walk_at "hp") | (refine Ge.at (by assumption) ?_; walk_at "hp") | exact put_self (by walk_at "hp") | (refine (put_ne (by walk_at "hp") (by omega)).trans ?_; walk_at "hp"))
local macro_rules | `(tactic| walk_at "ex") => `(tactic| first | ((with_reducible refine' e_var ?h0 ?_); (case h0 => exact rfl)) | with_reducible refine e_cst ?_ | with_reducible refine e_tup ?_ | with_reducible refine e_lst ?_ | with_reducible refine e_bin ?_ | with_reducible refine e_cmp ?_ | with_reducible refine e_cmp2 ?_ | with_reducible refine e_isN ?_ | with_reducible refine e_not ?_ | with_reducible refine e_neg ?_ | with_reducible refine e_ite ?_ | with_reducible refine e_call ?_ | with_reducible refine e_callk ?_ | with_reducible refine e_mk ?_ | with_reducible refine e_mkk ?_ | with_reducible refine e_blt ?_ | with_reducible refine e_isi ?_ | with_reducible refine e_meth ?_ | with_reducible refine e_bm ?_ | with_reducible refine e_bm0 ?_ | with_reducible refine e_att ?_ | with_reducible refine e_sub ?_ | with_reducible refine e_slc ?_ | with_reducible refine e_rev ?_ | with_reducible refine e_comp ?_ | with_reducible refine e_fst ?_ | with_reducible refine e_fmt ?_ | with_reducible refine e_boo ?_ | with_reducible refine l_nil ?_ | with_reducible refine l_star ?_ | with_reducible refine j_nil ?_ | with_reducible refine j_cons ?_ | with_reducible refine b_one ?_ | with_reducible refine b_and ?_ | with_reducible refine b_or ?_ | with_reducible refine bt_one ?_ | with_reducible refine bt_and ?_ | with_reducible refine bt_or ?_ | with_reducible refine t_boo ?_ | with_reducible refine t_not ?_ | with_reducible refine t_ite ?_ | with_reducible refine tru ?_ | with_reducible refine i_rng1 ?_ | with_reducible refine i_enm ?_ | with_reducible refine i_zip ?_ | with_reducible refine ts_nil ?_ | with_reducible refine ts_one ?_ | ((with_reducible refine' e_glo ?h0 ?_); (case h0 => exact rfl)) | ((with_reducible refine' e_absent ?h0 ?_); (case h0 => exact rfl)) | ((with_reducible refine' e_part ?h0 ?_); (case h0 => exact rfl)) | ((with_reducible refine' l_cons ?h0 ?_); (case h0 => exact rfl)) | ((with_reducible refine' t_val ?h0 ?_); (case h0 => exact rfl)) | ((with_reducible refine' i_val ?h0 ?_); (case h0 => exact rfl)))
local macro_rules | `(tactic| walk_at "sx") => `(tactic| first | with_reducible refine q_nx ?_ | with_reducible refine q_rt ?_ | with_reducible refine q_br ?_ | with_reducible refine q_ct ?_ | with_reducible refine q_exc ?_ | with_reducible refine q_end ?_ | with_reducible refine q_endN ?_ | with_reducible refine q_endX ?_ | with_reducible refine q_tnx ?_ | with_reducible refine q_tct ?_ | with_reducible refine q_tbr ?_ | with_reducible refine q_trt ?_ | with_reducible refine q_tex ?_ | with_reducible refine x_cons ?_ | with_reducible refine x_nil ?_ | with_reducible refine x_asgN ?_ | with_reducible refine x_asgT ?_ | with_reducible refine x_par ?_ | with_reducible refine x_fld ?_ | with_reducible refine x_setI ?_ | with_reducible refine x_expr ?_ | with_reducible refine x_ife ?_ | with_reducible refine x_for ?_ | with_reducible refine x_whl ?_ | with_reducible refine x_ret ?_ | with_reducible refine x_retN ?_ | with_reducible refine x_cont ?_ | with_reducible refine x_brk ?_ | with_reducible refine x_pass ?_)
local macro_rules | `(tactic| walk_at "vx") => `(tactic| first | with_reducible refine v_addI ?_ | with_reducible refine v_subI ?_ | with_reducible refine v_eqS ?_ | with_reducible refine v_neS ?_ | with_reducible refine v_eqI ?_ | with_reducible refine v_neI ?_ | with_reducible refine v_ltI ?_ | with_reducible refine v_leI ?_ | with_reducible refine v_gtI ?_ | with_reducible refine v_geI ?_ | with_reducible refine v_inS ?_ | with_reducible refine v_notIn ?_ | with_reducible refine v_itT ?_ | with_reducible refine v_wT ?_ | with_reducible refine v_wS ?_ | with_reducible refine v_zipT ?_ | with_reducible refine v_lenT ?_ | with_reducible refine v_tupT ?_ | with_reducible refine v_lstT ?_ | with_reducible refine v_intI ?_ | with_reducible refine v_intB ?_ | with_reducible refine v_absI ?_ | with_reducible refine v_strS ?_ | with_reducible refine v_okJ ?_ | ((with_reducible refine' v_mulI ?h0 ?_); (case h0 => exact rfl)) | ((with_reducible refine' v_modI ?h0 ?_); (case h0 => decide)) | ((with_reducible refine' v_divI ?h0 ?h1 ?_); (case h0 => decide); (case h1 => decide)) | ((with_reducible refine' v_powI ?h0 ?h1 ?h2 ?_); (case h0 => decide); (case h1 => decide); (case h2 => decide)) | ((with_reducible refine' v_inT ?h0 ?_); (case h0 => exact rfl)) | ((with_reducible refine' v_subT ?h0 ?_); (case h0 => exact rfl)) | ((with_reducible refine' v_subL ?h0 ?h1 ?_); (case h0 => walk_at "hp"); (case h1 => exact rfl)) | ((with_reducible refine' v_slcT ?h0 ?h1 ?_); (case h0 => exact rfl); (case h1 => exact rfl)) | ((with_reducible refine' v_slcL ?h0 ?h1 ?h2 ?_); (case h0 => walk_at "hp"); (case h1 => exact rfl); (case h2 => exact rfl)) | ((with_reducible refine' v_slcX ?h0 ?h1 ?_); (case h0 => exact rfl); (case h1 => exact rfl)) | ((with_reducible refine' v_rev ?h0 ?_); (case h0 => walk_at "hp")) | ((with_reducible refine' v_itL ?h0 ?_); (case h0 => walk_at "hp")) | ((with_reducible refine' v_att ?h0 ?h1 ?h2 ?_); (case h0 => walk_at "hp"); (case h1 => exact rfl); (case h2 => exact rfl)) | ((with_reducible refine' v_setF ?h0 ?h1 ?_); (case h0 => walk_at "hp"); (case h1 => exact rfl)) | ((with_reducible refine' v_wL ?h0 ?_); (case h0 => walk_at "hp")) | ((with_reducible refine' v_enm ?h0 ?_); (case h0 => walk_at "hp")) | ((with_reducible refine' v_zipL ?h0 ?h1 ?_); (case h0 => walk_at "hp"); (case h1 => walk_at "hp")) | ((with_reducible refine' v_lenL ?h0 ?_); (case h0 => walk_at "hp")) | ((with_reducible refine' v_tupL ?h0 ?_); (case h0 => walk_at "hp")) | ((with_reducible refine' v_lstL ?h0 ?_); (case h0 => walk_at "hp")) | ((with_reducible refine' v_okA ?h0 ?_); (case h0 => walk_at "hp")) | ((with_reducible refine' v_okE ?h0 ?_); (case h0 => walk_at "hp")) | ((with_reducible refine' v_okP ?h0 ?_); (case h0 => walk_at "hp")))
local macro_rules | `(tactic| walk_at "go") => `(tactic| repeat (first | walk_at "ex" | walk_at "sx" | walk_at "vx" | with_reducible refine ⟨_, rfl, ?_⟩))
def drawB (g : E) : List S := [(.whl (.boo .And [(.cmp .NotEq (.sub (.var 0) (.cst (.int 0))) (.lst [])), (.cmp .Eq (.sub (.sub (.var 0) (.cst (.int 0))) (.neg (.cst (.int 1)))) (.cst (.int 0)))]) [(.expr (.bm0 (.sub (.var 0) (.cst (.int 0))) .pop))]),
    (.ife (.cmp .NotEq (.sub (.var 0) (.cst (.int 0))) (.lst [])) [(.asg (.nm 2) (.bm0 (.sub (.var 0) (.cst (.int 0))) .pop)),
    (.expr (.bm (.sub (.var 0) (.cst (.int 0))) .append [(.bin .FloorDiv (.var 2) (.var 1))])),
    (.ret (.bin .Mod (.blt .int [(.var 2)]) (.var 1)))] []),
    (.setI (.var 0) (.cst (.int 1)) (.bin .Mod (.blt .int [g]) (.cst (.int 2147483647)))),
    (.ret (.bin .Mod (.blt .int [(.bin .FloorDiv (.sub (.var 0) (.cst (.int 1))) (.cst (.int 8)))]) (.var 1)))]
/-- the two ways in which numbers are mixed -/
def mixE1 : E := (.bin .Add (.bin .Mult (.sub (.var 0) (.cst (.int 1))) (.cst (.int 48271))) (.cst (.int 12820163)))
def mixE2 : E := (.bin .Mult (.sub (.var 0) (.cst (.int 1))) (.cst (.int 48271)))
def sCell : Str := sq [95, 108, 97, 119, 95, 99, 101, 108, 108]
def dealB (g : E) : List S := [(.asg (.nm 2) (.comp (.blt .abs [(.var 4)]) (.nm 4) (.slc (.var 0) (.var 1) (.cst (.int 63))) [] [(sCell, 4)])),
    (.asg (.nm 3) (.bin .Add (.cst (.int 15485863)) (.bin .Mult (.cst (.int 11)) (.var 1)))),
    (.for_ (.nm 4) (.var 2) [(.asg (.nm 3) (.bin .Mod (.blt .int [(.bin .Add (.bin .Mult (.var 3) (.cst (.int 16807))) (.bin .Mod (.blt .int [(.var 4)]) (.cst (.int 2147483629))))]) (.cst (.int 2147483647))))]),
    (.ret (.lst [(.rev (.comp (.var 4) (.nm 4) (.var 2) [(.cmp .GtE (.var 4) (.bin .Pow (.cst (.int 10)) (.cst (.int 18))))] [(sCell, 4)])), g]))]
/-- the source of draws, as lists; all else stands as in C0 -/
structure DealC (C0 : Hc) (d j : Nat) (C : Hc) (ns : List Int) (m : Int) : Prop where
  at_d : C.get d = some (.lst [.ref j, .int m])
  at_j : C.get j = some (.lst (ns.map W.int))
  ne : d ≠ j
  m0 : 0 ≤ m
  m1 : m < 2147483647
  nn : ∀ i ∈ ns, 0 ≤ i
  few : ns.length ≤ 63
  nx : C0.next ≤ C.next
  old : ∀ i, i < C0.next → i ≠ d → i ≠ j → C.get i = C0.get i
theorem DealC.new {C0 C : Hc} {d j : Nat} {ns : List Int} {m : Int} {o : O} (h : DealC C0 d j C ns m) : DealC C0 d j (C.new o) ns m :=
  ⟨new_old h.at_d, new_old h.at_j, h.ne, h.m0, h.m1, h.nn, h.few, Nat.le_trans h.nx (Nat.le_succ _), fun i hi h1 h2 => by rw [Hc.get_new, if_neg (Nat.ne_of_lt (Nat.lt_of_lt_of_le hi h.nx))]; exact h.old i hi h1 h2⟩
theorem DealC.putJ {C0 C : Hc} {d j : Nat} {ns ns' : List Int} {m : Int} (h : DealC C0 d j C ns m) (nn : ∀ i ∈ ns', 0 ≤ i) (few : ns'.length ≤ 63) : DealC C0 d j (C.put j (.lst (ns'.map W.int))) ns' m :=
  ⟨by rw [put_ne h.at_j h.ne]; exact h.at_d, put_self h.at_j, h.ne, h.m0, h.m1, nn, few, h.nx, fun i hi h1 h2 => by rw [put_ne h.at_j h2]; exact h.old i hi h1 h2⟩
theorem DealC.putD {C0 C : Hc} {d j : Nat} {ns : List Int} {m m' : Int} (h : DealC C0 d j C ns m) (h0 : 0 ≤ m') (h1 : m' < 2147483647) : DealC C0 d j (C.put d (.lst [.ref j, .int m'])) ns m' :=
  ⟨put_self h.at_d, by rw [put_ne h.at_d (Ne.symm h.ne)]; exact h.at_j, h.ne, h0, h1, h.nn, h.few, h.nx, fun i hi a b => by rw [put_ne h.at_d a]; exact h.old i hi a b⟩
theorem rdL_ints {C : Hc} {n : Nat} : ∀ ns : List Int, rdL (rdW C (n + 1)) (ns.map W.int) = some (ns.map PyData.int)
  | [] => rfl
  | i :: ns => by
    rw [List.map_cons]
    unfold rdL
    rw [show rdW C (n + 1) (.int i) = some (.int i) from rfl, rdL_ints ns]
    rfl
theorem shaped_ints : ∀ ns : List Int, SeqAt.shaped (.list (ns.map PyData.int)) = true := by
  intro ns
  have h1 : PyData.canLayAll0 (ns.map PyData.int) = true := by
    induction ns with
    | nil => rfl
    | cons i ns ih => simp [PyData.canLayAll0, PyData.canLay0, ih]
  have h2 : PyData.depthAll (ns.map PyData.int) = 0 := by
    clear h1
    induction ns with
    | nil => rfl
    | cons i ns ih => simp [PyData.depthAll, PyData.depth, ih]
  unfold SeqAt.shaped
  simp [PyData.canLay0, h1, PyData.depth, h2]
theorem eqv_nil (ns : List Int) : PyData.eqv (.list (ns.map PyData.int)) (.list []) = ns.isEmpty := by
  cases ns <;> simp [PyData.eqv, PyData.eqvAll]
/-- deal[0] != [] -/
theorem w_some {G : Sg} {cf : Cf} {C0 C : Hc} {d j : Nat} {ns : List Int} {m : Int} {Q : Bool → Hc → Prop} {E : Xn → Hc → Prop} (h : DealC C0 d j C ns m) (hq : ∀ C', DealC C0 d j C' ns m → Q (!ns.isEmpty) C') : wpM (cmpW G cf .NotEq (.ref j) (.ref C.next)) (C.new (.lst [])) Q E := by
  have h' := h.new (o := .lst [])
  refine v_neL (d := .list (ns.map PyData.int)) (e := .list []) h'.at_j ?_ ?_ (shaped_ints ns) rfl ?_
  · show rdW _ (69 + 1) _ = _
    unfold rdW
    simp only [h'.at_j]
    rw [show (69 : Nat) = 68 + 1 from rfl, rdL_ints]
    rfl
  · show rdW _ (69 + 1) _ = _
    unfold rdW
    simp only [new_self]
    rfl
  · rw [eqv_nil]
    exact hq _ h'
theorem dropLast_ints (ns : List Int) : (ns.map W.int).dropLast = ns.dropLast.map W.int := by rw [List.map_dropLast]
theorem last_get {ns : List Int} {i : Int} (h : ns.getLast? = some i) : (ns.map W.int)[(ns.map W.int).length - 1]? = some (.int i) := by
  rw [List.length_map, List.getElem?_map]
  rw [List.getLast?_eq_getElem?] at h
  rw [h]
  rfl
theorem last_ints {ns : List Int} {i : Int} (h : ns.getLast? = some i) : L2.atI (ns.map W.int) (-1) = some (.int i) := by
  have hn : ns ≠ [] := by intro e; subst e; cases h
  have hl : 0 < ns.length := List.length_pos_iff.mpr hn
  unfold L2.atI
  have e : L2.ixN (ns.map W.int).length (-1) = some ((ns.map W.int).length - 1) := by
    rw [List.length_map]
    unfold L2.ixN
    have : ((ns.length : Int) + -1).toNat = ns.length - 1 := by omega
    simp
    omega
  rw [e]
  exact last_get h
theorem mem_dropLast {ns : List Int} {i : Int} (h : i ∈ ns.dropLast) : i ∈ ns := List.dropLast_subset ns h
theorem atI_last {ns : List Int} {i : Int} (h : ns.getLast? = some i) : L2.atI (ns.map W.int) (-1) = some (.int i) := last_ints h
theorem isEmpty_last {ns : List Int} {i : Int} (h : ns.getLast? = some i) : ns.isEmpty = false := by
  cases ns with
  | nil => cases h
  | cons a l => rfl
def drawR (g : E) : List S := (drawB g).tail
theorem draw_rest {G : Sg} {cf : Cf} {C : Hc} {d j : Nat} {ns : List Int} {m k : Int} {g : E} {C0 : Hc} (hg : g = mixE1 ∨ g = mixE2) (h : DealC C0 d j C ns m) (hk : 0 < k) (hk2 : k < 1073741824) {Q : W → Hc → Prop} {E : Xn → Hc → Prop}
    (drawn : ∀ (x : Int) C' ns' m', DealC C0 d j C' ns' m' → Q (.int (x % k)) C') : (evSs G cf (drawR g) [some (.ref d), some (.int k), none] C).wp (endQ Q E) := by
  have hd := h.at_d
  have hj := h.at_j
  show (evSs G cf [_, _, _] _ C).wp _
  walk_at "go"
  refine ⟨rfl, w_some h fun C2 h2 => ?_⟩
  have hd2 := h2.at_d
  have hj2 := h2.at_j
  walk_at "go"
  cases hl : ns.getLast? with
  | none =>
    have e : ns = [] := List.getLast?_eq_none_iff.mp hl
    subst e
    refine ⟨fun z => (by cases z), fun _ => ?_⟩
    walk_at "go"
    have fin : ∀ (x : Int), (wpM (binW .Mod (.int x) (.int 2147483647)) C2 (fun w C1 => wpM ((ev G cf (.var 0)).val [some (.ref d), some (.int k), none]) C1 (fun x C2 => wpM ((ev G cf (.cst (.int 1))).val [some (.ref d), some (.int k), none]) C2 (fun y C3 => wpM (setWI x y w) C3 (fun _ C3 => thenQ (evSs G cf [S.ret (.bin .Mod (.blt .int [(.bin .FloorDiv (.sub (.var 0) (.cst (.int 1))) (.cst (.int 8)))]) (.var 1))]) (endQ Q E) (.nx [some (.ref d), some (.int k), none] C3)) (fun x C1 => endQ Q E (.exc x [some (.ref d), some (.int k), none] C1))) (fun x C1 => endQ Q E (.exc x [some (.ref d), some (.int k), none] C1))) (fun x C1 => endQ Q E (.exc x [some (.ref d), some (.int k), none] C1))) (fun x C1 => endQ Q E (.exc x [some (.ref d), some (.int k), none] C1))) := fun x => by
      walk_at "go"
      refine v_setI hd2 (n := 1) rfl ?_
      have h3 := h2.putD (m' := x % 2147483647) (Int.emod_nonneg _ (by decide)) (Int.emod_lt_of_pos _ (by decide))
      have hd3 := h3.at_d
      walk_at "go"
      refine v_modI hk ?_
      exact drawn _ _ _ _ h3
    have im : (i64 m || i64 48271) = true := by
      have : i64 48271 = true := rfl
      rw [this, Bool.or_true]
    rcases hg with rfl | rfl
    · unfold mixE1
      walk_at "go"
      refine v_mulI im ?_
      walk_at "go"
      exact fin _
    · unfold mixE2
      walk_at "go"
      refine v_mulI im ?_
      walk_at "go"
      exact fin _
  | some i =>
    rw [isEmpty_last hl]
    refine ⟨fun _ => ?_, fun z => (by cases z)⟩
    walk_at "go"
    refine v_pop hj2 (last_get hl) ?_
    rw [dropLast_ints]
    have hi0 : 0 ≤ i := h2.nn i (List.mem_of_getLast? hl)
    have h3 := h2.putJ (ns' := ns.dropLast) (fun i hi => h2.nn i (mem_dropLast hi)) (by rw [List.length_dropLast]; have := h2.few; omega)
    have hd3 := h3.at_d
    have hj3 := h3.at_j
    walk_at "go"
    refine v_divI hk hk2 ?_
    walk_at "go"
    have hlen : 0 < ns.length := List.length_pos_iff.mpr (by intro e; subst e; cases hl)
    refine v_app hj3 (by rw [List.length_map, List.length_dropLast]; have := h2.few; show _ < 16777216; omega) ?_
    have e : ns.dropLast.map W.int ++ [W.int (i / k)] = (ns.dropLast ++ [i / k]).map W.int := by simp
    rw [e]
    have h4 := h3.putJ (ns' := ns.dropLast ++ [i / k]) (fun x hx => by
      rcases List.mem_append.mp hx with hx | hx
      · exact h3.nn x hx
      · rw [List.mem_singleton.mp hx]
        exact Int.ediv_nonneg hi0 (by omega)) (by rw [List.length_append, List.length_dropLast, List.length_singleton]; have := h2.few; omega)
    walk_at "go"
    refine v_modI hk ?_
    exact drawn _ _ _ _ h4
theorem draw_ok {G : Sg} {cf : Cf} {C : Hc} {d j : Nat} {ns : List Int} {m k : Int} {g : E} {C0 : Hc} (hg : g = mixE1 ∨ g = mixE2) (h : DealC C0 d j C ns m) (hk : 0 < k) (hk2 : k < 1073741824) {Q : W → Hc → Prop} {E : Xn → Hc → Prop}
    (hq : ∀ (r : Nat) C' ns' m', (r : Int) < k → DealC C0 d j C' ns' m' → Q (.int r) C') : (evSs G cf (drawB g) [some (.ref d), some (.int k), none] C).wp (endQ Q E) := by
  have drawn : ∀ (x : Int) C' ns' m', DealC C0 d j C' ns' m' → Q (.int (x % k)) C' := fun x C' ns' m' h' => by
    have h1 := Int.emod_nonneg x (by omega : k ≠ 0)
    have h2 := Int.emod_lt_of_pos x hk
    have := hq (x % k).toNat C' ns' m' (by omega) h'
    rw [Int.toNat_of_nonneg h1] at this
    exact this
  unfold drawB
  walk_at "sx"
  walk_at "sx"
  refine w_while (fun n v1 C1 => v1 = [some (.ref d), some (.int k), none] ∧ ∃ ns', n = ns'.length ∧ DealC C0 d j C1 ns' m) ns.length ⟨rfl, ns, rfl, h⟩ (by have := h.few; show _ < 1000000; omega) ?_
  rintro n v1 C1 ⟨rfl, ns', rfl, h1⟩
  have hd1 := h1.at_d
  have hj1 := h1.at_j
  walk_at "go"
  refine ⟨rfl, w_some h1 fun C2 h2 => ?_⟩
  have hd2 := h2.at_d
  have hj2 := h2.at_j
  walk_at "go"
  have out : ∀ C3 ns3, DealC C0 d j C3 ns3 m → thenQ (evSs G cf (drawR g)) (endQ Q E) (.nx [some (.ref d), some (.int k), none] C3) := fun C3 ns3 h3 => draw_rest hg h3 hk hk2 drawn
  cases hl : ns'.getLast? with
  | none =>
    have e : ns' = [] := List.getLast?_eq_none_iff.mp hl
    subst e
    exact ⟨fun z => (by cases z), fun _ => ⟨fun _ => out _ _ h2, fun z => (by cases z)⟩⟩
  | some i =>
    rw [isEmpty_last hl]
    refine ⟨fun _ => ?_, fun z => (by cases z)⟩
    walk_at "go"
    refine v_subL hj2 (atI_last hl) ?_
    walk_at "go"
    by_cases hi : i = 0
    · subst hi
      refine ⟨fun z => (by cases z), fun _ => ?_⟩
      walk_at "go"
      refine v_pop hj2 (last_get hl) ?_
      rw [dropLast_ints]
      have hlen : 0 < ns'.length := List.length_pos_iff.mpr (by intro e; subst e; cases hl)
      have h3 := h2.putJ (ns' := ns'.dropLast) (fun i hi => h2.nn i (mem_dropLast hi)) (by rw [List.length_dropLast]; have := h2.few; omega)
      walk_at "go"
      exact ⟨ns'.dropLast.length, by rw [List.length_dropLast]; omega, rfl, _, rfl, h3⟩
    · rw [decide_eq_false hi]
      exact ⟨fun _ => out _ _ h2, fun z => (by cases z)⟩
end BL
set_option Elab.async false
set_option linter.all false
set_option maxRecDepth 100000
set_option maxHeartbeats 1000000
/-! BL35: the source of draws: its making. -/
namespace BL
open PySem L2
local macro_rules | `(tactic| walk_at "hp") => `(tactic| first | assumption | exact new_self | (refine new_old ?_; walk_at "hp") | (refine Ge.at (by assumption) ?_; walk_at "hp") | exact put_self (by walk_at "hp") | (refine (put_ne (by walk_at "hp") (by omega)).trans ?_; walk_at "hp"))
local macro_rules | `(tactic| walk_at "ex") => `(tactic| first | ((with_reducible refine' e_var ?h0 ?_); (case h0 => exact rfl)) | with_reducible refine e_cst ?_ | with_reducible refine e_tup ?_ | with_reducible refine e_lst ?_ | with_reducible refine e_bin ?_ | with_reducible refine e_cmp ?_ | with_reducible refine e_cmp2 ?_ | with_reducible refine e_isN ?_ | with_reducible refine e_not ?_ | with_reducible refine e_neg ?_ | with_reducible refine e_ite ?_ | with_reducible refine e_call ?_ | with_reducible refine e_callk ?_ | with_reducible refine e_mk ?_ | with_reducible refine e_mkk ?_ | with_reducible refine e_blt ?_ | with_reducible refine e_isi ?_ | with_reducible refine e_meth ?_ | with_reducible refine e_bm ?_ | with_reducible refine e_bm0 ?_ | with_reducible refine e_att ?_ | with_reducible refine e_sub ?_ | with_reducible refine e_slc ?_ | with_reducible refine e_rev ?_ | with_reducible refine e_comp ?_ | with_reducible refine e_fst ?_ | with_reducible refine e_fmt ?_ | with_reducible refine e_boo ?_ | with_reducible refine l_nil ?_ | with_reducible refine l_star ?_ | with_reducible refine j_nil ?_ | with_reducible refine j_cons ?_ | with_reducible refine b_one ?_ | with_reducible refine b_and ?_ | with_reducible refine b_or ?_ | with_reducible refine bt_one ?_ | with_reducible refine bt_and ?_ | with_reducible refine bt_or ?_ | with_reducible refine t_boo ?_ | with_reducible refine t_not ?_ | with_reducible refine t_ite ?_ | with_reducible refine tru ?_ | with_reducible refine i_rng1 ?_ | with_reducible refine i_enm ?_ | with_reducible refine i_zip ?_ | with_reducible refine ts_nil ?_ | with_reducible refine ts_one ?_ | ((with_reducible refine' e_glo ?h0 ?_); (case h0 => exact rfl)) | ((with_reducible refine' e_absent ?h0 ?_); (case h0 => exact rfl)) | ((with_reducible refine' e_part ?h0 ?_); (case h0 => exact rfl)) | ((with_reducible refine' l_cons ?h0 ?_); (case h0 => exact rfl)) | ((with_reducible refine' t_val ?h0 ?_); (case h0 => exact rfl)) | ((with_reducible refine' i_val ?h0 ?_); (case h0 => exact rfl)))
local macro_rules | `(tactic| walk_at "sx") => `(tactic| first | with_reducible refine q_nx ?_ | with_reducible refine q_rt ?_ | with_reducible refine q_br ?_ | with_reducible refine q_ct ?_ | with_reducible refine q_exc ?_ | with_reducible refine q_end ?_ | with_reducible refine q_endN ?_ | with_reducible refine q_endX ?_ | with_reducible refine q_tnx ?_ | with_reducible refine q_tct ?_ | with_reducible refine q_tbr ?_ | with_reducible refine q_trt ?_ | with_reducible refine q_tex ?_ | with_reducible refine x_cons ?_ | with_reducible refine x_nil ?_ | with_reducible refine x_asgN ?_ | with_reducible refine x_asgT ?_ | with_reducible refine x_par ?_ | with_reducible refine x_fld ?_ | with_reducible refine x_setI ?_ | with_reducible refine x_expr ?_ | with_reducible refine x_ife ?_ | with_reducible refine x_for ?_ | with_reducible refine x_whl ?_ | with_reducible refine x_ret ?_ | with_reducible refine x_retN ?_ | with_reducible refine x_cont ?_ | with_reducible refine x_brk ?_ | with_reducible refine x_pass ?_)
local macro_rules | `(tactic| walk_at "vx") => `(tactic| first | with_reducible refine v_addI ?_ | with_reducible refine v_subI ?_ | with_reducible refine v_eqS ?_ | with_reducible refine v_neS ?_ | with_reducible refine v_eqI ?_ | with_reducible refine v_neI ?_ | with_reducible refine v_ltI ?_ | with_reducible refine v_leI ?_ | with_reducible refine v_gtI ?_ | with_reducible refine v_geI ?_ | with_reducible refine v_inS ?_ | with_reducible refine v_notIn ?_ | with_reducible refine v_itT ?_ | with_reducible refine v_wT ?_ | with_reducible refine v_wS ?_ | with_reducible refine v_zipT ?_ | with_reducible refine v_lenT ?_ | with_reducible refine v_tupT ?_ | with_reducible refine v_lstT ?_ | with_reducible refine v_intI ?_ | with_reducible refine v_intB ?_ | with_reducible refine v_absI ?_ | with_reducible refine v_strS ?_ | with_reducible refine v_okJ ?_ | ((with_reducible refine' v_mulI ?h0 ?_); (case h0 => exact rfl)) | ((with_reducible refine' v_modI ?h0 ?_); (case h0 => decide)) | ((with_reducible refine' v_divI ?h0 ?h1 ?_); (case h0 => decide); (case h1 => decide)) | ((with_reducible refine' v_powI ?h0 ?h1 ?h2 ?_); (case h0 => decide); (case h1 => decide); (case h2 => decide)) | ((with_reducible refine' v_inT ?h0 ?_); (case h0 => exact rfl)) | ((with_reducible refine' v_subT ?h0 ?_); (case h0 => exact rfl)) | ((with_reducible refine' v_subL ?h0 ?h1 ?_); (case h0 => walk_at "hp"); (case h1 => exact rfl)) | ((with_reducible refine' v_slcT ?h0 ?h1 ?_); (case h0 => exact rfl); (case h1 => exact rfl)) | ((with_reducible refine' v_slcL ?h0 ?h1 ?h2 ?_); (case h0 => walk_at "hp"); (case h1 => exact rfl); (case h2 => exact rfl)) | ((with_reducible refine' v_slcX ?h0 ?h1 ?_); (case h0 => exact rfl); (case h1 => exact rfl)) | ((with_reducible refine' v_rev ?h0 ?_); (case h0 => walk_at "hp")) | ((with_reducible refine' v_itL ?h0 ?_); (case h0 => walk_at "hp")) | ((with_reducible refine' v_att ?h0 ?h1 ?h2 ?_); (case h0 => walk_at "hp"); (case h1 => exact rfl); (case h2 => exact rfl)) | ((with_reducible refine' v_setF ?h0 ?h1 ?_); (case h0 => walk_at "hp"); (case h1 => exact rfl)) | ((with_reducible refine' v_wL ?h0 ?_); (case h0 => walk_at "hp")) | ((with_reducible refine' v_enm ?h0 ?_); (case h0 => walk_at "hp")) | ((with_reducible refine' v_zipL ?h0 ?h1 ?_); (case h0 => walk_at "hp"); (case h1 => walk_at "hp")) | ((with_reducible refine' v_lenL ?h0 ?_); (case h0 => walk_at "hp")) | ((with_reducible refine' v_tupL ?h0 ?_); (case h0 => walk_at "hp")) | ((with_reducible refine' v_lstL ?h0 ?_); (case h0 => walk_at "hp")) | ((with_reducible refine' v_okA ?h0 ?_); (case h0 => walk_at "hp")) | ((with_reducible refine' v_okE ?h0 ?_); (case h0 => walk_at "hp")) | ((with_reducible refine' v_okP ?h0 ?_); (case h0 => walk_at "hp")))
local macro_rules | `(tactic| walk_at "go") => `(tactic| repeat (first | walk_at "ex" | walk_at "sx" | walk_at "vx" | with_reducible refine ⟨_, rfl, ?_⟩))
theorem cut_ints (ns : List Int) (l h : Option Int) : cutW (ns.map W.int) l h = (cutW ns l h).map W.int := by
  unfold cutW
  rw [List.length_map, ← List.map_drop, ← List.map_take]
theorem cut_len {α : Type} (xs : List α) (l h : Option Int) : (cutW xs l h).length ≤ xs.length := by
  unfold cutW
  rw [List.length_take, List.length_drop]
  omega
def absI (i : Int) : Int := if i < 0 then -i else i
theorem absI_nn (i : Int) : 0 ≤ absI i := by unfold absI; split <;> omega
def bigW : W → Bool
  | .int i => decide ((10 : Int) ^ 18 ≤ i)
  | _ => false
theorem paired_eq : ∀ {as bs : List W}, Paired (fun w y => y = w) as bs → bs = as
  | _, _, .nil => rfl
  | _, _, .cons h t => by rw [h, paired_eq t]
theorem filter_ints (ns : List Int) : (ns.map W.int).filter bigW = (ns.filter fun i => decide ((10 : Int) ^ 18 ≤ i)).map W.int := by
  induction ns with
  | nil => rfl
  | cons i ns ih =>
    rw [List.map_cons, List.filter_cons, List.filter_cons, ih]
    show (if decide ((10 : Int) ^ 18 ≤ i) = true then _ else _) = _
    split <;> simp_all
def lastE2 : E := (.bin .Add (.bin .Mod (.blt .int [(.var 3)]) (.cst (.int 2147483646))) (.cst (.int 1)))
theorem deal_ok {G : Sg} {cf : Cf} {C : Hc} {ns : List Int} {b : Int} {g : E} (hg : g = .var 3 ∨ g = lastE2) (hn : ns.length ≤ 63) (hb : 0 ≤ b) (hb2 : b < 63) {Q : W → Hc → Prop} {E : Xn → Hc → Prop}
    (hq : ∀ C' d j ns' m', C.next ≤ d → C.next ≤ j → DealC C d j C' ns' m' → Q (.ref d) C') : (evSs G cf (dealB g) [some (.scr ns), some (.int b), none, none, none] C).wp (endQ Q E) := by
  unfold dealB
  walk_at "go"
  rw [cut_ints]
  have hz : (cutW ns (some b) (some 63)).length ≤ 63 := Nat.le_trans (cut_len _ _ _) hn
  generalize cutW ns (some b) (some 63) = zs at hz
  have g1 : Ge C (C.new (.lst (zs.map W.int))) := Ge.new
  have n1 : (C.new (.lst (zs.map W.int))).next = C.next + 1 := rfl
  have a1 : (C.new (.lst (zs.map W.int))).get C.next = some (.lst (zs.map W.int)) := new_self
  generalize (C.new (.lst (zs.map W.int))) = C1 at g1 n1 a1
  refine w_comp (ws := zs.map W.int) (fun i acc C' => C' = C1 ∧ acc = (zs.take i).map fun i => W.int (absI i)) ⟨rfl, by simp⟩ (by rw [List.length_map]; show _ < 1000000; omega) (fun i acc C' h => by rw [h.1]; exact walks_lst a1 C1 .refl i) (fun i acc w C2 e h => ?_) (fun acc C' h => ?_)
  · obtain ⟨rfl, rfl⟩ := h
    rw [List.getElem?_map] at e
    cases ez : zs[i]? with
    | none => rw [ez] at e; cases e
    | some z =>
      rw [ez] at e
      cases e
      refine ⟨_, rfl, ?_⟩
      walk_at "go"
      refine ⟨fun _ => ?_, fun z => by cases z⟩
      walk_at "go"
      refine ⟨rfl, ?_⟩
      rw [List.take_add_one, ez, Option.toList, List.map_append]
      rfl
  · obtain ⟨rfl, rfl⟩ := h
    rw [List.length_map, List.take_length]
    have ec : (zs.map fun i => W.int (absI i)) = (zs.map absI).map W.int := by rw [List.map_map]; rfl
    rw [ec]
    have hz2 : (zs.map absI).length ≤ 63 := by rw [List.length_map]; exact hz
    have nn : ∀ i ∈ zs.map absI, 0 ≤ i := fun i hi => by
      obtain ⟨j, _, rfl⟩ := List.mem_map.mp hi
      exact absI_nn j
    generalize zs.map absI = cs at hz2 nn
    clear hz ec
    have g2 : Ge C (C'.new (.lst (cs.map W.int))) := g1.trans Ge.new
    have a2 : (C'.new (.lst (cs.map W.int))).get C'.next = some (.lst (cs.map W.int)) := new_self
    have hl : C'.next = C.next + 1 := n1
    generalize hp : C'.next = p at a2 hl
    generalize (C'.new (.lst (cs.map W.int))) = C2 at g2 a2
    clear a1 g1 n1
    walk_at "go"
    refine w_for (ws := cs.map W.int) (fun i v1 C3 => C3 = C2 ∧ ∃ m y, v1 = [some (.scr ns), some (.int b), some (.ref p), some (.int m), y] ∧ 0 ≤ m ∧ m < 2147483647) ⟨rfl, 15485863 + 11 * b, none, rfl, by omega, by omega⟩ (by rw [List.length_map]; show _ < 1000000; omega) (fun i v1 C3 h => by rw [h.1]; exact walks_lst a2 C2 .refl i) (fun i w v1 C3 e h => ?_) (fun v1 C3 h => ?_)
    · obtain ⟨rfl, m, y, rfl, h1, h2⟩ := h
      rw [List.getElem?_map] at e
      cases ez : cs[i]? with
      | none => rw [ez] at e; cases e
      | some z =>
        rw [ez] at e
        cases e
        refine ⟨_, rfl, ?_⟩
        walk_at "go"
        refine v_mulI (by have : i64 16807 = true := rfl
                          rw [this, Bool.or_true]) ?_
        walk_at "go"
        exact ⟨rfl, _, _, rfl, Int.emod_nonneg _ (by decide), Int.emod_lt_of_pos _ (by decide)⟩
    · obtain ⟨rfl, m, y, rfl, h1, h2⟩ := h
      walk_at "go"
      refine w_compR (ws := cs.map W.int) (fun _ w y => y = w) (fun _ h => h) bigW (by rw [List.length_map]; show _ < 1000000; omega) (walks_lst a2) (fun w C4 hw g4 => ?_) (fun ys C4 g4 hp => ?_)
      · obtain ⟨z, _, rfl⟩ := List.mem_map.mp hw
        refine ⟨_, rfl, ?_⟩
        walk_at "go"
        refine ⟨.refl, rfl, fun _ => ?_⟩
        walk_at "go"
        exact ⟨.refl, rfl⟩
      · have ey := paired_eq hp
        rw [filter_ints] at ey
        subst ey
        have hf : (cs.filter fun i => decide ((10 : Int) ^ 18 ≤ i)).length ≤ 63 := Nat.le_trans (List.length_filter_le _ _) hz2
        have nf : ∀ i ∈ (cs.filter fun i => decide ((10 : Int) ^ 18 ≤ i)), 0 ≤ i := fun i hi => nn i (List.mem_filter.mp hi).1
        generalize (cs.filter fun i => decide ((10 : Int) ^ 18 ≤ i)) = fs at hf nf
        walk_at "go"
        rw [← List.map_reverse]
        have fin : ∀ m' : Int, 0 ≤ m' → m' < 2147483647 → Q (.ref ((C4.new (.lst (fs.map W.int))).new (.lst (fs.reverse.map W.int))).next) (((C4.new (.lst (fs.map W.int))).new (.lst (fs.reverse.map W.int))).new (.lst [.ref (C4.new (.lst (fs.map W.int))).next, .int m'])) := fun m' h1 h2 => by
          have gx := g2.trans g4
          have e1 : (C4.new (.lst (fs.map W.int))).next = C4.next + 1 := rfl
          have e2 : ((C4.new (.lst (fs.map W.int))).new (.lst (fs.reverse.map W.int))).next = C4.next + 2 := rfl
          refine hq _ _ _ fs.reverse m' (by rw [e2]; have := gx.nx; omega) (by rw [e1]; have := gx.nx; omega) ⟨new_self, new_old new_self, by rw [e1, e2]; omega, h1, h2, fun i hi => nf i (List.mem_reverse.mp hi), by rw [List.length_reverse]; exact hf, ?_, fun i hi _ _ => ?_⟩
          · exact ((gx.trans Ge.new).trans Ge.new |>.trans Ge.new).nx
          · exact ((gx.trans Ge.new).trans Ge.new |>.trans Ge.new).get i hi
        rcases hg with rfl | rfl
        · walk_at "go"
          exact ⟨rfl, fin m h1 h2⟩
        · unfold lastE2
          walk_at "go"
          refine ⟨rfl, fin _ ?_ ?_⟩
          · have := Int.emod_nonneg m (show (2147483646 : Int) ≠ 0 by decide); omega
          · have := Int.emod_lt_of_pos m (show (0 : Int) < 2147483646 by decide); omega
end BL
set_option Elab.async false
set_option linter.all false
set_option maxRecDepth 100000
set_option maxHeartbeats 1000000
/-! BL36: the two defs that draw keep what they promise. -/
namespace BL
open PySem L2
section
variable {K : PySem.W.Frag} {G : Sg} {n n' : Nat} {r r' : Nat → Addr} {H H' : Hp}
mutual
theorem RV.down : ∀ (w : W) (v v' : V), RV K n r H w v → RV K n' r' H' w v' → RV K n r' H' w v'
  | .non, _, _, h, k => by unfold RV at k ⊢; exact k
  | .bl _, _, _, h, k => by unfold RV at k ⊢; exact k
  | .int _, _, _, h, k => by unfold RV at k ⊢; exact k
  | .str _, _, _, h, k => by unfold RV at k ⊢; exact k
  | .ref a, _, _, h, k => by unfold RV at h k ⊢; exact ⟨h.1, k.2⟩
  | .glo _, _, _, h, k => by unfold RV at k; exact k.elim
  | .ty _, _, _, h, k => by unfold RV at k ⊢; exact k
  | .scr _, _, _, h, k => by unfold RV at k ⊢; exact k
  | .tup ws, _, _, h, k => by
    unfold RV at h k ⊢
    obtain ⟨a0, vs0, e0, q0, l0⟩ := h
    obtain ⟨a, vs, e, q, l⟩ := k
    exact ⟨a, vs, e, q, RVs.down ws vs0 vs l0 l⟩
theorem RVs.down : ∀ (ws : List W) (vs vs' : List V), RVs K n r H ws vs → RVs K n' r' H' ws vs' → RVs K n r' H' ws vs'
  | [], _, _, h, k => by unfold RVs at k ⊢; exact k
  | w :: ws, _, _, h, k => by
    unfold RVs at h k ⊢
    obtain ⟨v0, vs0, e0, q0, l0⟩ := h
    obtain ⟨v, vs, e, q, l⟩ := k
    exact ⟨v, vs, e, RV.down w v0 v q0 q, RVs.down ws vs0 vs l0 l⟩
end
theorem RFs.down : ∀ (ws : List (Nat × W)) (vs vs' : List (Str × V)), RFs K G n r H ws vs → RFs K G n' r' H' ws vs' → RFs K G n r' H' ws vs'
  | [], _, _, h, k => by unfold RFs at k ⊢; exact k
  | w :: ws, _, _, h, k => by
    unfold RFs at h k ⊢
    obtain ⟨v0, vs0, e0, p0, q0, l0⟩ := h
    obtain ⟨v, vs, e, p, q, l⟩ := k
    exact ⟨v, vs, e, p, RV.down _ v0 v q0 q, RFs.down ws vs0 vs l0 l⟩
theorem RO.down {a a' : Addr} : ∀ (o : O), RO K G n r H a o → RO K G n' r' H' a' o → RO K G n r' H' a' o
  | .lst ws, ⟨vs0, q0, l0⟩, ⟨vs, q, l⟩ => ⟨vs, q, RVs.down ws vs0 vs l0 l⟩
  | .ins c fs, ⟨dx0, l0, q0, f0⟩, ⟨dx, l, q, f⟩ => ⟨dx, l, q, RFs.down fs l0 l f0 f⟩
  | .deal j, ⟨m0, hj0, _⟩, ⟨m, hj, q⟩ => ⟨m, hj0, q⟩
  | .dealIn, _, k => k
end
section
variable {P : Program} {w : World} {K : PySem.W.Frag} {mg : Str → Option Value} {base : Heap} {G : Sg}
theorem spF_imp {ps : List Str} {m m' : List W → M W} {vs : List V} {H : Hp} {Q : VK} {E : XK} (h : ∀ C r ws, Rep K G r C H → RVs K C.next r H ws vs → (m ws C).wp (Post K G (RelW K) (fun c d _ H => E c d H) [] C r H Q) → ∃ C1, Rep K G r C1 H ∧ RVs K C1.next r H ws vs ∧ (m' ws C1).wp (Post K G (RelW K) (fun c d _ H => E c d H) [] C1 r H Q))
    (hs : spF K G ps m vs H Q E) : spF K G ps m' vs H Q E := by
  obtain ⟨hl, C, r, ws, R, rv, hw⟩ := hs
  obtain ⟨C1, R1, rv1, hw1⟩ := h C r ws R rv hw
  exact ⟨hl, C1, r, ws, R1, rv1, hw1⟩
theorem wp_of_wpM {C : Hc} {m : M W} {P : XR W → Prop} (h : wpM m C (fun a C' => P (.ok a C')) (fun x C' => P (.exc x C'))) : (m C).wp P := Tr.wp_mono (fun r hr => by cases r <;> exact hr) h
theorem ints_of {n : Nat} {r : Nat → Addr} {H : Hp} : ∀ {ns : List Int} {vs : List V}, RVs K n r H (ns.map W.int) vs → vs = ns.map V.int
  | [], _, h => h.nil_iff
  | i :: ns, _, h => by
    obtain ⟨v, vs', rfl, q, t⟩ := h.cons_iff
    unfold RV at q
    rw [q, ints_of t]
    rfl
theorem draw_sp {fd : Fd} {g : BL.E} {cf : Cf} (hg : g = mixE1 ∨ g = mixE2) (hb : fd.body = drawB g) (hp : fd.ps.length = 2) (hN : fd.N.length = 3) {vs : List V} {H : Hp} {Q : VK} {E : XK} (hs : spF K G fd.ps drawW vs H Q E) : spF K G fd.ps (runF G cf fd) vs H Q E := by
  refine spF_imp (fun C r ws R rv hw => ?_) hs
  unfold drawW at hw
  split at hw
  · rename_i d m
    obtain ⟨o, e0, hw⟩ := wp_get.mp hw
    split at hw
    · rename_i j
      obtain ⟨o, e1, hw⟩ := wp_get.mp hw
      split at hw
      · obtain ⟨hc, hw⟩ := wp_chk.mp hw
        rw [Bool.and_eq_true, decide_eq_true_eq, decide_eq_true_eq] at hc
        have hd := Hc.lt_of_get e0
        have hj := Hc.lt_of_get e1
        have hne : d ≠ j := by
          intro e
          subst e
          rw [e0] at e1
          cases e1
        obtain ⟨o, eo, ro⟩ := R.obj d hd
        rw [e0] at eo
        cases eo
        obtain ⟨m0, _, hHd, hm0, hm1⟩ := ro
        obtain ⟨o, eo, ro⟩ := R.obj j hj
        rw [e1] at eo
        cases eo
        obtain ⟨ns, hHj, hnn, hfew⟩ := ro
        have ga : ∀ i, ((C.put d (.lst [.ref j, .int m0])).put j (.lst (ns.map W.int))).get i = if i = j then some (.lst (ns.map W.int)) else if i = d then some (.lst [.ref j, .int m0]) else C.get i := fun i => by
          rw [Hc.get_put _ _ _ _ (show j < (C.put d _).next from hj), Hc.get_put _ _ _ _ hd]
        refine ⟨(C.put d (.lst [.ref j, .int m0])).put j (.lst (ns.map W.int)), ⟨R.inj, fun i hi => ?_⟩, rv, ?_⟩
        · rw [ga]
          by_cases ij : i = j
          · subst ij
            rw [if_pos rfl]
            exact ⟨_, rfl, _, hHj, ints_rv ns⟩
          · rw [if_neg ij]
            by_cases id : i = d
            · subst id
              rw [if_pos rfl]
              exact ⟨_, rfl, _, hHd, .cons (by unfold RV; exact ⟨hj, rfl⟩) (.cons (by unfold RV; rfl) .nil)⟩
            · rw [if_neg id]
              exact R.obj i hi
        · refine wp_of_wpM ((w_run (by rw [hp]; rfl)).mpr ?_)
          rw [hb, hN]
          have D0 : DealC ((C.put d (.lst [.ref j, .int m0])).put j (.lst (ns.map W.int))) d j ((C.put d (.lst [.ref j, .int m0])).put j (.lst (ns.map W.int))) ns m0 :=
            ⟨by rw [ga, if_neg hne, if_pos rfl], by rw [ga, if_pos rfl], hne, hm0, hm1, hnn, hfew, Nat.le_refl _, fun _ _ _ _ => rfl⟩
          refine draw_ok hg D0 hc.1 hc.2 fun r0 C' ns' m' hr D1 => ?_
          intro r' H' b R' X' rb
          have hnx : C.next ≤ C'.next := D1.nx
          have pd : Post K G (RelW K) (fun c d _ H => E c d H) [] C r H Q (.ok (.int r0) C) := hw r0 (by omega)
          refine pd r' H' b ⟨fun i k hi hk => R'.inj i k (by omega) (by omega), fun i hi => ?_⟩ ⟨Nat.le_refl _, fun i hi => X'.rho i hi, X'.frm, fun i h1 h2 => absurd h2 (Nat.not_lt.mpr h1)⟩ (by unfold RelW RV at rb ⊢; exact rb)
          obtain ⟨o', eo', ro'⟩ := R'.obj i (by omega)
          by_cases ij : i = j
          · subst ij
            rw [D1.at_j] at eo'
            cases eo'
            obtain ⟨vs', hv, lv⟩ := ro'
            rw [ints_of lv] at hv
            exact ⟨_, e1, ns', hv, D1.nn, D1.few⟩
          · by_cases id : i = d
            · subst id
              rw [D1.at_d] at eo'
              cases eo'
              obtain ⟨vs', hv, lv⟩ := ro'
              obtain ⟨v1, vs1, rfl, q1, t1⟩ := lv.cons_iff
              obtain ⟨v2, rfl, q2⟩ := t1.one
              unfold RV at q1 q2
              rw [q1.2, q2] at hv
              exact ⟨_, e0, m', hj, hv, D1.m0, D1.m1⟩
            · obtain ⟨o, eo, ro⟩ := R.obj i hi
              have e2 := D1.old i hi id ij
              rw [ga, if_neg ij, if_neg id, eo, eo'] at e2
              cases e2
              exact ⟨_, eo, RO.down _ ro ro'⟩
      · exact hw.elim
    · exact hw.elim
  · exact hw.elim
theorem deal_sp {fd : Fd} {g : BL.E} {cf : Cf} (hg : g = .var 3 ∨ g = lastE2) (hb : fd.body = dealB g) (hp : fd.ps.length = 2) (hN : fd.N.length = 5) {vs : List V} {H : Hp} {Q : VK} {E : XK} (hs : spF K G fd.ps dealW vs H Q E) : spF K G fd.ps (runF G cf fd) vs H Q E := by
  refine spF_imp (fun C r ws R rv hw => ?_) hs
  unfold dealW at hw
  split at hw
  · rename_i ns b
    obtain ⟨hc, hw⟩ := wp_chk.mp hw
    rw [Bool.and_eq_true, decide_eq_true_eq, decide_eq_true_eq] at hc
    have hn : ns.length ≤ 63 := by
      obtain ⟨v, vs', rfl, q, t⟩ := rv.cons_iff
      unfold RV at q
      obtain ⟨_, _, _, h⟩ := q
      exact h
    refine ⟨C, R, rv, wp_of_wpM ((w_run (by rw [hp]; rfl)).mpr ?_)⟩
    rw [hb, hN]
    refine deal_ok hg hn hc.1 hc.2 fun C' d j ns' m' hd hj D1 => ?_
    intro r' H' b' R' X' rb
    have ld := Hc.lt_of_get D1.at_d
    have lj := Hc.lt_of_get D1.at_j
    have hne := D1.ne
    have hw : Post K G (RelW K) (fun c d _ H => E c d H) [] C r H Q (.ok (.ref (C.next + 1)) ((C.new .dealIn).new (.deal C.next))) := hw
    let r2 : Nat → Addr := fun i => if i = C.next then r' j else if i = C.next + 1 then r' d else r' i
    have r2a : r2 C.next = r' j := if_pos rfl
    have r2b : r2 (C.next + 1) = r' d := by
      show (if C.next + 1 = C.next then r' j else if C.next + 1 = C.next + 1 then r' d else r' (C.next + 1)) = r' d
      rw [if_neg (by omega), if_pos rfl]
    have r2c : ∀ i, i < C.next → r2 i = r' i := fun i hi => by
      show (if i = C.next then r' j else if i = C.next + 1 then r' d else r' i) = r' i
      rw [if_neg (by omega), if_neg (by omega)]
    have nx2 : ((C.new .dealIn).new (.deal C.next)).next = C.next + 2 := rfl
    have im : ∀ i, i < C.next + 2 → ∃ k, r2 i = r' k ∧ k < C'.next ∧ ((i < C.next ∧ k = i) ∨ (i = C.next ∧ k = j) ∨ (i = C.next + 1 ∧ k = d)) := fun i hi => by
      by_cases h1 : i < C.next
      · exact ⟨i, r2c i h1, by have := D1.nx; omega, .inl ⟨h1, rfl⟩⟩
      · by_cases h2 : i = C.next
        · subst h2
          exact ⟨j, r2a, lj, .inr (.inl ⟨rfl, rfl⟩)⟩
        · have h3 : i = C.next + 1 := by omega
          subst h3
          exact ⟨d, r2b, ld, .inr (.inr ⟨rfl, rfl⟩)⟩
    refine hw r2 H' b' ⟨fun i k hi hk e => ?_, fun i hi => ?_⟩ ⟨by rw [nx2]; omega, fun i hi => (r2c i hi).trans (X'.rho i hi), X'.frm, fun i h1 h2 => ?_⟩ ?_
    · obtain ⟨i', e1, l1, c1⟩ := im i hi
      obtain ⟨k', e2, l2, c2⟩ := im k hk
      rw [e1, e2] at e
      have := R'.inj i' k' l1 l2 e
      omega
    · rw [nx2] at hi ⊢
      by_cases h1 : i < C.next
      · obtain ⟨o, eo, ro⟩ := R.obj i h1
        obtain ⟨o', eo', ro'⟩ := R'.obj i (by have := D1.nx; omega)
        rw [D1.old i h1 (by omega) (by omega), eo] at eo'
        cases eo'
        refine ⟨o, ?_, ?_⟩
        · rw [Hc.get_new, if_neg (by show i ≠ C.next + 1; omega), Hc.get_new, if_neg (by omega)]
          exact eo
        · rw [r2c i h1]
          exact RO.mono (by omega) (fun k hk => r2c k hk) (fun _ _ e _ => e) rfl o (RO.down o ro ro')
      · by_cases h2 : i = C.next
        · subst h2
          obtain ⟨o', eo', ro'⟩ := R'.obj j lj
          rw [D1.at_j] at eo'
          cases eo'
          obtain ⟨vs', hv, lv⟩ := ro'
          rw [ints_of lv] at hv
          refine ⟨.dealIn, ?_, ns', by rw [r2a]; exact hv, D1.nn, D1.few⟩
          rw [Hc.get_new, if_neg (by show C.next ≠ C.next + 1; omega), Hc.get_new, if_pos rfl]
        · have h3 : i = C.next + 1 := by omega
          subst h3
          obtain ⟨o', eo', ro'⟩ := R'.obj d ld
          rw [D1.at_d] at eo'
          cases eo'
          obtain ⟨vs', hv, lv⟩ := ro'
          obtain ⟨v1, vs1, rfl, q1, t1⟩ := lv.cons_iff
          obtain ⟨v2, rfl, q2⟩ := t1.one
          unfold RV at q1 q2
          rw [q1.2, q2] at hv
          refine ⟨.deal C.next, ?_, m', by omega, by rw [r2b, r2a]; exact hv, D1.m0, D1.m1⟩
          exact new_self (C := C.new .dealIn)
    · rw [nx2] at h2
      obtain ⟨k, e1, l1, c1⟩ := im i h2
      rw [e1]
      exact X'.new k (by omega) l1
    · unfold RelW RV at rb ⊢
      rw [nx2]
      exact ⟨by omega, by rw [r2b]; exact rb.2⟩
  · exact hw.elim
/-- the two defs, by what is written of them -/
def drawnB (G : Sg) (kd kl : Nat) : Bool := (List.range G.fns.length).all fun k => match G.fns[k]? with
  | some fd => (!(Nat.beq fd.kind 1) || Nat.beq k kd) && (!(Nat.beq fd.kind 2) || Nat.beq k kl)
  | none => true
theorem drawn_of {kd kl : Nat} {fd fl : Fd} {g g' : BL.E} (hB : drawnB G kd kl = true) (hd : G.fns[kd]? = some fd) (hl : G.fns[kl]? = some fl) (hg : g = mixE1 ∨ g = mixE2) (hb : fd.body = drawB g) (hp : fd.ps.length = 2) (hN : fd.N.length = 3)
    (hg' : g' = .var 3 ∨ g' = lastE2) (hb' : fl.body = dealB g') (hp' : fl.ps.length = 2) (hN' : fl.N.length = 5) : Drawn P w K mg base G := by
  intro k f dat hk hq F
  have z := List.all_eq_true.mp hB k (List.mem_range.mpr (lt_of_get hk))
  rw [hk] at z
  obtain ⟨z1, z2⟩ := b2 z
  rcases hq with hq | hq
  · rw [hq] at z1
    have e : k = kd := Nat.eq_of_beq_eq_true z1
    subst e
    rw [hd] at hk
    cases hk
    rw [hq]
    exact F.imp fun vs H Q E h => draw_sp hg hb hp hN h
  · rw [hq] at z2
    have e : k = kl := Nat.eq_of_beq_eq_true z2
    subst e
    rw [hl] at hk
    cases hk
    rw [hq]
    exact F.imp fun vs H Q E h => deal_sp hg' hb' hp' hN' h
end
end BL
set_option Elab.async false
set_option linter.all false
set_option maxRecDepth 100000
set_option maxHeartbeats 1000000
namespace BL
open PySem L2
theorem wp_true {C : Hc} {m : M W} (h : wpM m C (fun w _ => w = .bl true) (fun _ _ => False)) : (m C).wp fun r => ∃ C', r = .ok (.bl true) C' := by
  refine Tr.wp_mono (fun r h => ?_) h
  match r, h with
  | .ok w C, h => exact ⟨C, by rw [show w = .bl true from h]⟩
/-- what a law's walk is to give -/
def LawWp (G : Sg) (n k : Nat) : Prop := ∀ (ns : List Int) (C : Hc), wpM (callF G n k [.scr ns]) C (fun w _ => w = .bl true) (fun _ _ => False)
theorem LawWp.end {G : Sg} {n k : Nat} (h : LawWp G n k) : ∀ ns : List Int, ns.length ≤ 63 → (callF G n k [.scr ns] .emp).wp fun r => ∃ C, r = .ok (.bl true) C := fun ns _ => wp_true (h ns .emp)
end BL
set_option Elab.async false
set_option linter.all false
set_option maxRecDepth 100000
set_option maxHeartbeats 1000000
namespace K05
open PySem L2 BL
def s_26_abcdefghijklmnopqrst : Str := sq [97, 98, 99, 100, 101, 102, 103, 104, 105, 106, 107, 108, 109, 110, 111, 112, 113, 114, 115, 116, 117, 118, 119, 120, 121, 122]
def s_new : Str := sq [110, 101, 119]
def s_weak : Str := sq [119, 101, 97, 107]
def s_none : Str := sq [110, 111, 110, 101]
def s_use : Str := sq [117, 115, 101]
def s_free : Str := sq [102, 114, 101, 101]
def s_back : Str := sq [98, 97, 99, 107]
def s_do : Str := sq [100, 111]
def s_if : Str := sq [105, 102]
def s_any : Str := sq [97, 110, 121]
def s_else : Str := sq [101, 108, 115, 101]
def s_try : Str := sq [116, 114, 121]
def s_end : Str := sq [101, 110, 100]
def s_slot : Str := sq [115, 108, 111, 116]
def s_local : Str := sq [108, 111, 99, 97, 108]
def s_global : Str := sq [103, 108, 111, 98, 97, 108]
def s_letter : Str := sq [108, 101, 116, 116, 101, 114]
def s_is_name : Str := sq [105, 115, 95, 110, 97, 109, 101]
def s_value : Str := sq [118, 97, 108, 117, 101]
def s_is_sequence : Str := sq [105, 115, 95, 115, 101, 113, 117, 101, 110, 99, 101]
def s_part : Str := sq [112, 97, 114, 116]
def s_are_names : Str := sq [97, 114, 101, 95, 110, 97, 109, 101, 115]
def s_need : Str := sq [110, 101, 101, 100]
def s_is_right : Str := sq [105, 115, 95, 114, 105, 103, 104, 116]
def s_word : Str := sq [119, 111, 114, 100]
def s_row : Str := sq [114, 111, 119]
def s_are_rows : Str := sq [97, 114, 101, 95, 114, 111, 119, 115]
def s_lines_of : Str := sq [108, 105, 110, 101, 115, 95, 111, 102]
def s_rows : Str := sq [114, 111, 119, 115]
def s_found : Str := sq [102, 111, 117, 110, 100]
def s_Row : Str := sq [82, 111, 119]
def s___init__ : Str := sq [95, 95, 105, 110, 105, 116, 95, 95]
def s_self : Str := sq [115, 101, 108, 102]
def s_script : Str := sq [115, 99, 114, 105, 112, 116]
def s_first_block : Str := sq [102, 105, 114, 115, 116, 95, 98, 108, 111, 99, 107]
def s_second_block : Str := sq [115, 101, 99, 111, 110, 100, 95, 98, 108, 111, 99, 107]
def s___eq__ : Str := sq [95, 95, 101, 113, 95, 95]
def s_other : Str := sq [111, 116, 104, 101, 114]
def s__0a : Str := sq [10]
def s___str__ : Str := sq [95, 95, 115, 116, 114, 95, 95]
def s_target : Str := sq [116, 97, 114, 103, 101, 116]
def s__20_3d_20new : Str := sq [32, 61, 32, 110, 101, 119]
def s_New : Str := sq [78, 101, 119]
def s_kind : Str := sq [107, 105, 110, 100]
def s_source : Str := sq [115, 111, 117, 114, 99, 101]
def s__20_3d_20 : Str := sq [32, 61, 32]
def s__20 : Str := sq [32]
def s_Hold : Str := sq [72, 111, 108, 100]
def s_Copy : Str := sq [67, 111, 112, 121]
def s__20_3d_20none : Str := sq [32, 61, 32, 110, 111, 110, 101]
def s_Clear : Str := sq [67, 108, 101, 97, 114]
def s_name : Str := sq [110, 97, 109, 101]
def s_use_20 : Str := sq [117, 115, 101, 32]
def s_Use : Str := sq [85, 115, 101]
def s_free_20 : Str := sq [102, 114, 101, 101, 32]
def s_Free : Str := sq [70, 114, 101, 101]
def s_back_20 : Str := sq [98, 97, 99, 107, 32]
def s_Back : Str := sq [66, 97, 99, 107]
def s_function : Str := sq [102, 117, 110, 99, 116, 105, 111, 110]
def s_given : Str := sq [103, 105, 118, 101, 110]
def s__20_3d_20do_20 : Str := sq [32, 61, 32, 100, 111, 32]
def s_Do : Str := sq [68, 111]
def s_frame : Str := sq [102, 114, 97, 109, 101]
def s_Frame : Str := sq [70, 114, 97, 109, 101]
def s_others : Str := sq [111, 116, 104, 101, 114, 115]
def s_if_20 : Str := sq [105, 102, 32]
def s_If : Str := sq [73, 102]
def s_behind : Str := sq [98, 101, 104, 105, 110, 100]
def s_while_20any : Str := sq [119, 104, 105, 108, 101, 32, 97, 110, 121]
def s_While : Str := sq [87, 104, 105, 108, 101]
def s_catch : Str := sq [99, 97, 116, 99, 104]
def s_Try : Str := sq [84, 114, 121]
def s_throw : Str := sq [116, 104, 114, 111, 119]
def s_Throw : Str := sq [84, 104, 114, 111, 119]
def s_return : Str := sq [114, 101, 116, 117, 114, 110]
def s_return_20 : Str := sq [114, 101, 116, 117, 114, 110, 32]
def s_Return : Str := sq [82, 101, 116, 117, 114, 110]
def s__law_cell : Str := sq [95, 108, 97, 119, 95, 99, 101, 108, 108]
def s__law_deal : Str := sq [95, 108, 97, 119, 95, 100, 101, 97, 108]
def s__law_script : Str := sq [95, 108, 97, 119, 95, 115, 99, 114, 105, 112, 116]
def s__law_base : Str := sq [95, 108, 97, 119, 95, 98, 97, 115, 101]
def s__law_cells : Str := sq [95, 108, 97, 119, 95, 99, 101, 108, 108, 115]
def s__law_mixed : Str := sq [95, 108, 97, 119, 95, 109, 105, 120, 101, 100]
def s__law_draw : Str := sq [95, 108, 97, 119, 95, 100, 114, 97, 119]
def s__law_deal_here : Str := sq [95, 108, 97, 119, 95, 100, 101, 97, 108, 95, 104, 101, 114, 101]
def s__law_many : Str := sq [95, 108, 97, 119, 95, 109, 97, 110, 121]
def s__law_left : Str := sq [95, 108, 97, 119, 95, 108, 101, 102, 116]
def s__law_pick : Str := sq [95, 108, 97, 119, 95, 112, 105, 99, 107]
def s__law_some : Str := sq [95, 108, 97, 119, 95, 115, 111, 109, 101]
def s__law_zpairs : Str := sq [95, 108, 97, 119, 95, 122, 112, 97, 105, 114, 115]
def s__law_za : Str := sq [95, 108, 97, 119, 95, 122, 97]
def s__law_zb : Str := sq [95, 108, 97, 119, 95, 122, 98]
def s__law_zk : Str := sq [95, 108, 97, 119, 95, 122, 107]
def s__law_zfound : Str := sq [95, 108, 97, 119, 95, 122, 102, 111, 117, 110, 100]
def s_a : Str := sq [97]
def s_ab : Str := sq [97, 98]
def s_call : Str := sq [99, 97, 108, 108]
def s_on : Str := sq [111, 110]
def s_z : Str := sq [122]
def s_zzzz : Str := sq [122, 122, 122, 122]
def s_q : Str := sq [113]
def s__law_zone : Str := sq [95, 108, 97, 119, 95, 122, 111, 110, 101]
def s__law_zother : Str := sq [95, 108, 97, 119, 95, 122, 111, 116, 104, 101, 114]
def s_law : Str := sq [108, 97, 119]
def s__law_zturn : Str := sq [95, 108, 97, 119, 95, 122, 116, 117, 114, 110]
def s__law_zpairs_here : Str := sq [95, 108, 97, 119, 95, 122, 112, 97, 105, 114, 115, 95, 104, 101, 114, 101]
def s__law_zsome : Str := sq [95, 108, 97, 119, 95, 122, 115, 111, 109, 101]
def s_LifeError : Str := sq [76, 105, 102, 101, 69, 114, 114, 111, 114]
def s_InvalidRow : Str := sq [73, 110, 118, 97, 108, 105, 100, 82, 111, 119]
def s_LETTERS : Str := sq [76, 69, 84, 84, 69, 82, 83]
def s_TAKEN : Str := sq [84, 65, 75, 69, 78]
def s_KINDS : Str := sq [75, 73, 78, 68, 83]
def s_ANY : Str := sq [65, 78, 89]
abbrev k_is_name : Nat := 0
abbrev k_is_sequence : Nat := 1
abbrev k_are_names : Nat := 2
abbrev k_need : Nat := 3
abbrev k_are_rows : Nat := 4
abbrev k_lines_of : Nat := 5
abbrev k_Row___init__ : Nat := 6
abbrev k_Row___eq__ : Nat := 7
abbrev k_Row___str__ : Nat := 8
abbrev k_New___init__ : Nat := 9
abbrev k_Hold___init__ : Nat := 10
abbrev k_Copy___init__ : Nat := 11
abbrev k_Clear___init__ : Nat := 12
abbrev k_Use___init__ : Nat := 13
abbrev k_Free___init__ : Nat := 14
abbrev k_Back___init__ : Nat := 15
abbrev k_Do___init__ : Nat := 16
abbrev k_Frame___init__ : Nat := 17
abbrev k_If___init__ : Nat := 18
abbrev k_While___init__ : Nat := 19
abbrev k_Try___init__ : Nat := 20
abbrev k_Throw___init__ : Nat := 21
abbrev k_Return___init__ : Nat := 22
abbrev k__law_deal : Nat := 23
abbrev k__law_draw : Nat := 24
abbrev k__law_pick : Nat := 25
abbrev k__law_zpairs : Nat := 26
abbrev k_law : Nat := 27
abbrev c_LifeError : Nat := 0
abbrev c_InvalidRow : Nat := 1
abbrev c_Row : Nat := 2
abbrev c_New : Nat := 3
abbrev c_Hold : Nat := 4
abbrev c_Copy : Nat := 5
abbrev c_Clear : Nat := 6
abbrev c_Use : Nat := 7
abbrev c_Free : Nat := 8
abbrev c_Back : Nat := 9
abbrev c_Do : Nat := 10
abbrev c_Frame : Nat := 11
abbrev c_If : Nat := 12
abbrev c_While : Nat := 13
abbrev c_Try : Nat := 14
abbrev c_Throw : Nat := 15
abbrev c_Return : Nat := 16
abbrev n_script : Nat := 0
abbrev n_first_block : Nat := 1
abbrev n_second_block : Nat := 2
abbrev n_target : Nat := 3
abbrev n_kind : Nat := 4
abbrev n_source : Nat := 5
abbrev n_name : Nat := 6
abbrev n_function : Nat := 7
abbrev n_given : Nat := 8
abbrev n_rows : Nat := 9
abbrev n_others : Nat := 10
abbrev g_LETTERS : Nat := 0
abbrev g_TAKEN : Nat := 1
abbrev g_KINDS : Nat := 2
abbrev g_ANY : Nat := 3
def f_is_name : Fd := ⟨0, (s_is_name, none), [s_value], [s_value, s_letter], [],
    [(.ife (.boo .Or [(.not (.isi (.var 0) false [.ty .str])), (.not (.cmp2 .LtE .LtE (.cst (.int 1)) (.blt .len [(.var 0)]) (.cst (.int 4)))), (.cmp .In (.var 0) (.glo g_TAKEN))]) [(.ret (.cst (.bl false)))] []),
    (.ret (.blt .all [(.comp (.cmp .In (.var 1) (.glo g_LETTERS)) (.nm 1) (.var 0) [] [(s_letter, 1)])]))]⟩
def f_is_sequence : Fd := ⟨0, (s_is_sequence, none), [s_value], [s_value], [],
    [(.ret (.isi (.var 0) true [.ty .list, .ty .tuple]))]⟩
def f_are_names : Fd := ⟨0, (s_are_names, none), [s_value], [s_value, s_part], [],
    [(.ret (.boo .And [(.call k_is_sequence [(.var 0)]), (.blt .all [(.comp (.call k_is_name [(.var 1)]) (.nm 1) (.var 0) [] [(s_part, 1)])])]))]⟩
def f_need : Fd := ⟨0, (s_need, none), [s_is_right, s_word], [s_is_right, s_word], [],
    [(.ife (.not (.var 0)) [.never] [])]⟩
def f_are_rows : Fd := ⟨0, (s_are_rows, none), [s_value], [s_value, s_row], [],
    [(.ret (.boo .And [(.call k_is_sequence [(.var 0)]), (.blt .all [(.comp (.isi (.var 1) false [.cls c_Row]) (.nm 1) (.var 0) [] [(s_row, 1)])])]))]⟩
def f_lines_of : Fd := ⟨0, (s_lines_of, none), [s_rows], [s_rows, s_found, s_row], [],
    [(.asg (.nm 1) (.lst [])),
    (.for_ (.nm 2) (.var 0) [(.expr (.bm (.var 1) .extend [(.att (.var 2) n_script)]))]),
    (.ret (.var 1))]⟩
def f_Row___init__ : Fd := ⟨0, (s_Row, some s___init__), [s_self, s_script, s_first_block, s_second_block], [s_self, s_script, s_first_block, s_second_block], [(.tup []), (.tup [])],
    [(.fld (.var 0) n_script (.blt .tuple [(.var 1)])),
    (.fld (.var 0) n_first_block (.blt .tuple [(.var 2)])),
    (.fld (.var 0) n_second_block (.blt .tuple [(.var 3)]))]⟩
def f_Row___eq__ : Fd := ⟨0, (s_Row, some s___eq__), [s_self, s_other], [s_self, s_other], [],
    [(.ret (.boo .And [(.isi (.var 1) false [.cls c_Row]), (.cmp .Eq (.att (.var 0) n_script) (.att (.var 1) n_script))]))]⟩
def f_Row___str__ : Fd := ⟨0, (s_Row, some s___str__), [s_self], [s_self], [],
    [(.ret (.bm (.cst (.str s__0a)) .join [(.att (.var 0) n_script)]))]⟩
def f_New___init__ : Fd := ⟨0, (s_New, some s___init__), [s_self, s_target], [s_self, s_target], [],
    [(.expr (.call k_need [(.call k_is_name [(.var 1)]), (.cst (.str s_target))])),
    (.sup c_New k_Row___init__ [(.lst [(.fst [(.fmt (.var 1)), (.cst (.str s__20_3d_20new))])])]),
    (.fld (.var 0) n_target (.var 1))]⟩
def f_Hold___init__ : Fd := ⟨0, (s_Hold, some s___init__), [s_self, s_target, s_kind, s_source], [s_self, s_target, s_kind, s_source], [],
    [(.expr (.call k_need [(.call k_is_name [(.var 1)]), (.cst (.str s_target))])),
    (.expr (.call k_need [(.boo .And [(.isi (.var 2) false [.ty .str]), (.cmp .In (.var 2) (.glo g_KINDS))]), (.cst (.str s_kind))])),
    (.expr (.call k_need [(.call k_is_name [(.var 3)]), (.cst (.str s_source))])),
    (.sup c_Hold k_Row___init__ [(.lst [(.fst [(.fmt (.var 1)), (.cst (.str s__20_3d_20)), (.fmt (.var 2)), (.cst (.str s__20)), (.fmt (.var 3))])])]),
    (.fld (.var 0) n_target (.var 1)),
    (.fld (.var 0) n_kind (.var 2)),
    (.fld (.var 0) n_source (.var 3))]⟩
def f_Copy___init__ : Fd := ⟨0, (s_Copy, some s___init__), [s_self, s_target, s_source], [s_self, s_target, s_source], [],
    [(.expr (.call k_need [(.call k_is_name [(.var 1)]), (.cst (.str s_target))])),
    (.expr (.call k_need [(.call k_is_name [(.var 2)]), (.cst (.str s_source))])),
    (.sup c_Copy k_Row___init__ [(.lst [(.fst [(.fmt (.var 1)), (.cst (.str s__20_3d_20)), (.fmt (.var 2))])])]),
    (.fld (.var 0) n_target (.var 1)),
    (.fld (.var 0) n_source (.var 2))]⟩
def f_Clear___init__ : Fd := ⟨0, (s_Clear, some s___init__), [s_self, s_target], [s_self, s_target], [],
    [(.expr (.call k_need [(.call k_is_name [(.var 1)]), (.cst (.str s_target))])),
    (.sup c_Clear k_Row___init__ [(.lst [(.fst [(.fmt (.var 1)), (.cst (.str s__20_3d_20none))])])]),
    (.fld (.var 0) n_target (.var 1))]⟩
def f_Use___init__ : Fd := ⟨0, (s_Use, some s___init__), [s_self, s_name], [s_self, s_name], [],
    [(.expr (.call k_need [(.call k_is_name [(.var 1)]), (.cst (.str s_name))])),
    (.sup c_Use k_Row___init__ [(.lst [(.fst [(.cst (.str s_use_20)), (.fmt (.var 1))])])]),
    (.fld (.var 0) n_name (.var 1))]⟩
def f_Free___init__ : Fd := ⟨0, (s_Free, some s___init__), [s_self, s_name], [s_self, s_name], [],
    [(.expr (.call k_need [(.call k_is_name [(.var 1)]), (.cst (.str s_name))])),
    (.sup c_Free k_Row___init__ [(.lst [(.fst [(.cst (.str s_free_20)), (.fmt (.var 1))])])]),
    (.fld (.var 0) n_name (.var 1))]⟩
def f_Back___init__ : Fd := ⟨0, (s_Back, some s___init__), [s_self, s_name], [s_self, s_name], [],
    [(.expr (.call k_need [(.call k_is_name [(.var 1)]), (.cst (.str s_name))])),
    (.sup c_Back k_Row___init__ [(.lst [(.fst [(.cst (.str s_back_20)), (.fmt (.var 1))])])]),
    (.fld (.var 0) n_name (.var 1))]⟩
def f_Do___init__ : Fd := ⟨0, (s_Do, some s___init__), [s_self, s_target, s_function, s_given], [s_self, s_target, s_function, s_given], [(.tup [])],
    [(.expr (.call k_need [(.call k_is_name [(.var 1)]), (.cst (.str s_target))])),
    (.expr (.call k_need [(.call k_is_name [(.var 2)]), (.cst (.str s_function))])),
    (.expr (.call k_need [(.call k_are_names [(.var 3)]), (.cst (.str s_given))])),
    (.sup c_Do k_Row___init__ [(.lst [(.bm (.cst (.str s__20)) .join [(.lst [(.fst [(.fmt (.var 1)), (.cst (.str s__20_3d_20do_20)), (.fmt (.var 2))]), (.star (.var 3))])])])]),
    (.fld (.var 0) n_target (.var 1)),
    (.fld (.var 0) n_function (.var 2)),
    (.fld (.var 0) n_given (.blt .tuple [(.var 3)]))]⟩
def f_Frame___init__ : Fd := ⟨0, (s_Frame, some s___init__), [s_self, s_rows], [s_self, s_rows], [],
    [(.expr (.call k_need [(.call k_are_rows [(.var 1)]), (.cst (.str s_rows))])),
    (.sup c_Frame k_Row___init__ [(.lst [(.cst (.str s_frame)), (.star (.call k_lines_of [(.var 1)])), (.cst (.str s_end))]), (.var 1)]),
    (.fld (.var 0) n_rows (.blt .tuple [(.var 1)]))]⟩
def f_If___init__ : Fd := ⟨0, (s_If, some s___init__), [s_self, s_name, s_rows, s_others], [s_self, s_name, s_rows, s_others, s_behind], [(.tup [])],
    [(.expr (.call k_need [(.boo .And [(.isi (.var 1) false [.ty .str]), (.boo .Or [(.cmp .Eq (.var 1) (.glo g_ANY)), (.call k_is_name [(.var 1)])])]), (.cst (.str s_name))])),
    (.expr (.call k_need [(.call k_are_rows [(.var 2)]), (.cst (.str s_rows))])),
    (.expr (.call k_need [(.call k_are_rows [(.var 3)]), (.cst (.str s_others))])),
    (.asg (.nm 4) (.ite (.cmp .Gt (.blt .len [(.var 3)]) (.cst (.int 0))) (.lst [(.cst (.str s_else)), (.star (.call k_lines_of [(.var 3)]))]) (.lst []))),
    (.sup c_If k_Row___init__ [(.lst [(.fst [(.cst (.str s_if_20)), (.fmt (.var 1))]), (.star (.call k_lines_of [(.var 2)])), (.star (.var 4)), (.cst (.str s_end))]), (.var 2), (.var 3)]),
    (.fld (.var 0) n_name (.var 1)),
    (.fld (.var 0) n_rows (.blt .tuple [(.var 2)])),
    (.fld (.var 0) n_others (.blt .tuple [(.var 3)]))]⟩
def f_While___init__ : Fd := ⟨0, (s_While, some s___init__), [s_self, s_rows], [s_self, s_rows], [],
    [(.expr (.call k_need [(.call k_are_rows [(.var 1)]), (.cst (.str s_rows))])),
    (.sup c_While k_Row___init__ [(.lst [(.cst (.str s_while_20any)), (.star (.call k_lines_of [(.var 1)])), (.cst (.str s_end))]), (.var 1)]),
    (.fld (.var 0) n_rows (.blt .tuple [(.var 1)]))]⟩
def f_Try___init__ : Fd := ⟨0, (s_Try, some s___init__), [s_self, s_rows, s_others], [s_self, s_rows, s_others], [(.tup [])],
    [(.expr (.call k_need [(.call k_are_rows [(.var 1)]), (.cst (.str s_rows))])),
    (.expr (.call k_need [(.call k_are_rows [(.var 2)]), (.cst (.str s_others))])),
    (.sup c_Try k_Row___init__ [(.lst [(.cst (.str s_try)), (.star (.call k_lines_of [(.var 1)])), (.cst (.str s_catch)), (.star (.call k_lines_of [(.var 2)])), (.cst (.str s_end))]), (.var 1), (.var 2)]),
    (.fld (.var 0) n_rows (.blt .tuple [(.var 1)])),
    (.fld (.var 0) n_others (.blt .tuple [(.var 2)]))]⟩
def f_Throw___init__ : Fd := ⟨0, (s_Throw, some s___init__), [s_self], [s_self], [],
    [(.sup c_Throw k_Row___init__ [(.lst [(.cst (.str s_throw))])])]⟩
def f_Return___init__ : Fd := ⟨0, (s_Return, some s___init__), [s_self, s_name], [s_self, s_name], [.non],
    [(.expr (.call k_need [(.boo .Or [(.isN false (.var 1)), (.call k_is_name [(.var 1)])]), (.cst (.str s_name))])),
    (.sup c_Return k_Row___init__ [(.lst [(.ite (.isN false (.var 1)) (.cst (.str s_return)) (.fst [(.cst (.str s_return_20)), (.fmt (.var 1))]))])]),
    (.fld (.var 0) n_name (.var 1))]⟩
def f__law_deal : Fd := ⟨2, (s__law_deal, none), [s__law_script, s__law_base], [s__law_script, s__law_base, s__law_cells, s__law_mixed, s__law_cell], [],
    [(.asg (.nm 2) (.comp (.blt .abs [(.var 4)]) (.nm 4) (.slc (.var 0) (.var 1) (.cst (.int 63))) [] [(s__law_cell, 4)])),
    (.asg (.nm 3) (.bin .Add (.cst (.int 15485863)) (.bin .Mult (.cst (.int 11)) (.var 1)))),
    (.for_ (.nm 4) (.var 2) [(.asg (.nm 3) (.bin .Mod (.blt .int [(.bin .Add (.bin .Mult (.var 3) (.cst (.int 16807))) (.bin .Mod (.blt .int [(.var 4)]) (.cst (.int 2147483629))))]) (.cst (.int 2147483647))))]),
    (.ret (.lst [(.rev (.comp (.var 4) (.nm 4) (.var 2) [(.cmp .GtE (.var 4) (.bin .Pow (.cst (.int 10)) (.cst (.int 18))))] [(s__law_cell, 4)])), (.var 3)]))]⟩
def f__law_draw : Fd := ⟨1, (s__law_draw, none), [s__law_deal_here, s__law_many], [s__law_deal_here, s__law_many, s__law_left], [],
    [(.whl (.boo .And [(.cmp .NotEq (.sub (.var 0) (.cst (.int 0))) (.lst [])), (.cmp .Eq (.sub (.sub (.var 0) (.cst (.int 0))) (.neg (.cst (.int 1)))) (.cst (.int 0)))]) [(.expr (.bm0 (.sub (.var 0) (.cst (.int 0))) .pop))]),
    (.ife (.cmp .NotEq (.sub (.var 0) (.cst (.int 0))) (.lst [])) [(.asg (.nm 2) (.bm0 (.sub (.var 0) (.cst (.int 0))) .pop)),
    (.expr (.bm (.sub (.var 0) (.cst (.int 0))) .append [(.bin .FloorDiv (.var 2) (.var 1))])),
    (.ret (.bin .Mod (.blt .int [(.var 2)]) (.var 1)))] []),
    (.setI (.var 0) (.cst (.int 1)) (.bin .Mod (.blt .int [(.bin .Add (.bin .Mult (.sub (.var 0) (.cst (.int 1))) (.cst (.int 48271))) (.cst (.int 12820163)))]) (.cst (.int 2147483647)))),
    (.ret (.bin .Mod (.blt .int [(.bin .FloorDiv (.sub (.var 0) (.cst (.int 1))) (.cst (.int 8)))]) (.var 1)))]⟩
def f__law_pick : Fd := ⟨0, (s__law_pick, none), [s__law_deal_here, s__law_some], [s__law_deal_here, s__law_some], [],
    [(.ret (.sub (.var 1) (.call k__law_draw [(.var 0), (.blt .len [(.var 1)])])))]⟩
def f__law_zpairs : Fd := ⟨0, (s__law_zpairs, none), [s__law_za, s__law_zb, s__law_zk], [s__law_za, s__law_zb, s__law_zk, s__law_zfound], [],
    [(.asg (.nm 3) (.lst [(.tup [(.mkk c_New [] [s_target] [(.var 0)]), (.mk c_New [(.var 0)])]), (.tup [(.mkk c_Hold [] [s_source, s_kind, s_target] [(.var 1), (.var 2), (.var 0)]), (.mk c_Hold [(.var 0), (.var 2), (.var 1)])])])),
    (.asg (.nm 3) (.bin .Add (.var 3) (.lst [(.tup [(.mkk c_Copy [] [s_source, s_target] [(.var 1), (.var 0)]), (.mk c_Copy [(.var 0), (.var 1)])]), (.tup [(.mkk c_Clear [] [s_target] [(.var 1)]), (.mk c_Clear [(.var 1)])])]))),
    (.asg (.nm 3) (.bin .Add (.var 3) (.lst [(.tup [(.mkk c_Use [] [s_name] [(.var 0)]), (.mk c_Use [(.var 0)])]), (.tup [(.mkk c_Free [] [s_name] [(.var 1)]), (.mk c_Free [(.var 1)])]), (.tup [(.mkk c_Back [] [s_name] [(.var 0)]), (.mk c_Back [(.var 0)])])]))),
    (.expr (.bm (.var 3) .append [(.tup [(.mkk c_Do [] [s_given, s_function, s_target] [(.lst [(.var 1), (.var 0)]), (.var 1), (.var 0)]), (.mk c_Do [(.var 0), (.var 1), (.lst [(.var 1), (.var 0)])])])])),
    (.ret (.bin .Add (.var 3) (.lst [(.tup [(.mkk c_Return [] [s_name] [(.var 0)]), (.mk c_Return [(.var 0)])]), (.tup [(.mkk c_Return [] [s_name] [(.cst .non)]), (.mk c_Return [])])])))]⟩
def f_law : Fd := ⟨0, (s_law, none), [s__law_script], [s__law_script, s__law_deal_here, s__law_zturn, s__law_zpairs_here, s__law_zsome, s__law_zfound, s__law_za, s__law_zb, s__law_zone, s__law_zother], [],
    [(.asg (.nm 1) (.call k__law_deal [(.var 0), (.cst (.int 0))])),
    (.for_ (.nm 2) (.rng1 (.cst (.int 3))) [(.asg (.tp [6, 7]) (.call k__law_pick [(.var 1), (.lst [(.tup [(.cst (.str s_a)), (.cst (.str s_ab))]), (.tup [(.cst (.str s_call)), (.cst (.str s_on))]), (.tup [(.cst (.str s_z)), (.cst (.str s_zzzz))]), (.tup [(.cst (.str s_q)), (.cst (.str s_q))])])])),
    (.asg (.nm 3) (.call k__law_zpairs [(.var 6), (.var 7), (.call k__law_pick [(.var 1), (.lst [(.cst (.str s_local)), (.cst (.str s_global)), (.cst (.str s_weak))])])])),
    (.ife (.cmp .NotEq (.comp (.var 8) (.tp [8, 9]) (.var 3) [(.boo .Or [(.cmp .NotEq (.var 8) (.var 9)), (.cmp .NotEq (.blt .str [(.var 8)]) (.blt .str [(.var 9)]))])] [(s__law_zone, 8), (s__law_zother, 9)]) (.lst [])) [(.ret (.cst (.bl false)))] []),
    (.asg (.nm 4) (.comp (.var 8) (.tp [8, 9]) (.slc (.var 3) .abs (.bin .Add (.cst (.int 1)) (.call k__law_draw [(.var 1), (.cst (.int 9))]))) [] [(s__law_zone, 8), (s__law_zother, 9)])),
    (.asg (.nm 5) (.lst [(.tup [(.mkk c_Frame [] [s_rows] [(.var 4)]), (.mk c_Frame [(.var 4)])]), (.tup [(.mkk c_While [] [s_rows] [(.var 4)]), (.mk c_While [(.var 4)])])])),
    (.expr (.bm (.var 5) .append [(.tup [(.mkk c_Try [] [s_others, s_rows] [(.var 4), (.lst [(.mk c_Throw [])])]), (.mk c_Try [(.lst [(.mk c_Throw [])]), (.var 4)])])])),
    (.expr (.bm (.var 5) .append [(.tup [(.mkk c_If [] [s_others, s_rows, s_name] [(.lst [(.mk c_Throw [])]), (.var 4), (.cst (.str s_any))]), (.mk c_If [(.cst (.str s_any)), (.var 4), (.lst [(.mk c_Throw [])])])])])),
    (.ife (.cmp .NotEq (.comp (.var 8) (.tp [8, 9]) (.var 5) [(.boo .Or [(.cmp .NotEq (.var 8) (.var 9)), (.cmp .NotEq (.blt .str [(.var 8)]) (.blt .str [(.var 9)]))])] [(s__law_zone, 8), (s__law_zother, 9)]) (.lst [])) [(.ret (.cst (.bl false)))] [])]),
    (.ret (.cst (.bl true)))]⟩
def fns : List Fd := [f_is_name, f_is_sequence, f_are_names, f_need, f_are_rows, f_lines_of, f_Row___init__, f_Row___eq__, f_Row___str__, f_New___init__, f_Hold___init__, f_Copy___init__, f_Clear___init__, f_Use___init__, f_Free___init__, f_Back___init__, f_Do___init__, f_Frame___init__, f_If___init__, f_While___init__, f_Try___init__, f_Throw___init__, f_Return___init__, f__law_deal, f__law_draw, f__law_pick, f__law_zpairs, f_law]
def cls : List Cd := [⟨1, s_LifeError, [c_LifeError], 28, 28, 28, []⟩,
  ⟨1, s_InvalidRow, [c_InvalidRow, c_LifeError], 28, 28, 28, []⟩,
  ⟨0, s_Row, [c_Row], k_Row___init__, k_Row___eq__, k_Row___str__, []⟩,
  ⟨0, s_New, [c_New, c_Row], k_New___init__, k_Row___eq__, k_Row___str__, []⟩,
  ⟨0, s_Hold, [c_Hold, c_Row], k_Hold___init__, k_Row___eq__, k_Row___str__, []⟩,
  ⟨0, s_Copy, [c_Copy, c_Row], k_Copy___init__, k_Row___eq__, k_Row___str__, []⟩,
  ⟨0, s_Clear, [c_Clear, c_Row], k_Clear___init__, k_Row___eq__, k_Row___str__, []⟩,
  ⟨0, s_Use, [c_Use, c_Row], k_Use___init__, k_Row___eq__, k_Row___str__, []⟩,
  ⟨0, s_Free, [c_Free, c_Row], k_Free___init__, k_Row___eq__, k_Row___str__, []⟩,
  ⟨0, s_Back, [c_Back, c_Row], k_Back___init__, k_Row___eq__, k_Row___str__, []⟩,
  ⟨0, s_Do, [c_Do, c_Row], k_Do___init__, k_Row___eq__, k_Row___str__, []⟩,
  ⟨0, s_Frame, [c_Frame, c_Row], k_Frame___init__, k_Row___eq__, k_Row___str__, []⟩,
  ⟨0, s_If, [c_If, c_Row], k_If___init__, k_Row___eq__, k_Row___str__, []⟩,
  ⟨0, s_While, [c_While, c_Row], k_While___init__, k_Row___eq__, k_Row___str__, []⟩,
  ⟨0, s_Try, [c_Try, c_Row], k_Try___init__, k_Row___eq__, k_Row___str__, []⟩,
  ⟨0, s_Throw, [c_Throw, c_Row], k_Throw___init__, k_Row___eq__, k_Row___str__, []⟩,
  ⟨0, s_Return, [c_Return, c_Row], k_Return___init__, k_Row___eq__, k_Row___str__, []⟩]
def nms : List Str := [s_script, s_first_block, s_second_block, s_target, s_kind, s_source, s_name, s_function, s_given, s_rows, s_others]
def cst : List (Str × W) := [(s_LETTERS, (.str s_26_abcdefghijklmnopqrst)), (s_TAKEN, (.tup [(.str s_new), (.str s_weak), (.str s_none), (.str s_use), (.str s_free), (.str s_back), (.str s_do), (.str s_if), (.str s_any), (.str s_else), (.str s_try), (.str s_end), (.str s_slot)])), (s_KINDS, (.tup [(.str s_local), (.str s_global), (.str s_weak)])), (s_ANY, (.str s_any))]
def G : Sg := ⟨fns, cls, nms, cst⟩
end K05
set_option Elab.async false
set_option linter.all false
set_option maxRecDepth 100000
set_option maxHeartbeats 1000000
namespace BL
open PySem L2
theorem w_callK {G : Sg} {cf : Cf} {k : Nat} {fd : Fd} {ws us : List W} {C : Hc} {Q : W → Hc → Prop} {E : Xn → Hc → Prop} (hk : G.fns[k]? = some fd) (hf : fill fd ws = some us) (h : wpM (cf k us) C Q E) : wpM (callK G cf k ws) C Q E := by
  unfold callK
  rw [hk]
  show wpM ((M.opt (fill fd ws)).bind _) C Q E
  rw [hf]
  exact h
theorem w_callKw {G : Sg} {cf : Cf} {k : Nat} {fd : Fd} {ws us r : List W} {ks : List Str} {C : Hc} {Q : W → Hc → Prop} {E : Xn → Hc → Prop} (hk : G.fns[k]? = some fd) (hc : (Nat.ble ws.length fd.ps.length && Nat.beq us.length ks.length && ksOk ks (fd.ps.drop ws.length)) = true) (hf : kfill (ks.zip us) (fd.ps.drop ws.length) = some r) (h : wpM (cf k (ws ++ r)) C Q E) : wpM (callKw G cf k ws ks us) C Q E := by
  unfold callKw
  rw [hk]
  show wpM ((M.chk _).bind _) C Q E
  rw [w_bind, w_chk]
  refine ⟨hc, ?_⟩
  rw [w_bind, w_opt]
  exact ⟨r, hf, h⟩
/-- one object otherwise -/
structure Upd (C : Hc) (a : Nat) (o : O) (C' : Hc) : Prop where
  nx : C'.next = C.next
  at_ : C'.get a = some o
  ne : ∀ i, i ≠ a → C'.get i = C.get i
theorem Upd.put {C : Hc} {a : Nat} {o o' : O} (h : C.get a = some o') : Upd C a o (C.put a o) := ⟨rfl, put_self h, fun i hi => put_ne h hi⟩
theorem Upd.trans {C C1 C2 : Hc} {a : Nat} {o o' : O} (h : Upd C a o C1) (k : Upd C1 a o' C2) : Upd C a o' C2 := ⟨k.nx.trans h.nx, k.at_, fun i hi => (k.ne i hi).trans (h.ne i hi)⟩
theorem Ge.upd {A C C' : Hc} {a : Nat} {o : O} (g : Ge A C) (ha : A.next ≤ a) (u : Upd C a o C') : Ge A C' := ⟨by rw [u.nx]; exact g.nx, fun i hi => by rw [u.ne i (by omega)]; exact g.get i hi⟩
theorem Upd.old {C C' : Hc} {a i : Nat} {o o' : O} (u : Upd C a o C') (hi : i ≠ a) (h : C.get i = some o') : C'.get i = some o' := (u.ne i hi).trans h
theorem br_t {b : Bool} {A B : Prop} (h : b = true) (k : A) : (b = true → A) ∧ (b = false → B) := ⟨fun _ => k, fun z => (by rw [h] at z; cases z)⟩
theorem br_f {b : Bool} {A B : Prop} (h : b = false) (k : B) : (b = true → A) ∧ (b = false → B) := ⟨fun z => (by rw [h] at z; cases z), fun _ => k⟩
theorem bools_of : ∀ (bs : List Bool), boolsW (bs.map W.bl) = some bs
  | [] => rfl
  | b :: bs => by rw [List.map_cons]; unfold boolsW; rw [bools_of bs]; rfl
theorem strs_of : ∀ (bs : List Str), strsW (bs.map W.str) = some bs
  | [] => rfl
  | b :: bs => by rw [List.map_cons]; unfold strsW; rw [strs_of bs]; rfl
end BL
namespace K05
open PySem L2 BL
local macro_rules | `(tactic| walk_at "hp") => `(tactic| first | assumption | exact new_self | (refine new_old ?_; walk_at "hp") | (refine Ge.at (by assumption) ?_; walk_at "hp") | exact put_self (by walk_at "hp") | (refine (put_ne (by walk_at "hp") (by omega)).trans ?_; walk_at "hp"))
local macro_rules | `(tactic| walk_at "ex") => `(tactic| first | ((with_reducible refine' e_var ?h0 ?_); (case h0 => exact rfl)) | with_reducible refine e_cst ?_ | with_reducible refine e_tup ?_ | with_reducible refine e_lst ?_ | with_reducible refine e_bin ?_ | with_reducible refine e_cmp ?_ | with_reducible refine e_cmp2 ?_ | with_reducible refine e_isN ?_ | with_reducible refine e_not ?_ | with_reducible refine e_neg ?_ | with_reducible refine e_ite ?_ | with_reducible refine e_call ?_ | with_reducible refine e_callk ?_ | with_reducible refine e_mk ?_ | with_reducible refine e_mkk ?_ | with_reducible refine e_blt ?_ | with_reducible refine e_isi ?_ | with_reducible refine e_meth ?_ | with_reducible refine e_bm ?_ | with_reducible refine e_bm0 ?_ | with_reducible refine e_att ?_ | with_reducible refine e_sub ?_ | with_reducible refine e_slc ?_ | with_reducible refine e_rev ?_ | with_reducible refine e_comp ?_ | with_reducible refine e_fst ?_ | with_reducible refine e_fmt ?_ | with_reducible refine e_boo ?_ | with_reducible refine l_nil ?_ | with_reducible refine l_star ?_ | with_reducible refine j_nil ?_ | with_reducible refine j_cons ?_ | with_reducible refine b_one ?_ | with_reducible refine b_and ?_ | with_reducible refine b_or ?_ | with_reducible refine bt_one ?_ | with_reducible refine bt_and ?_ | with_reducible refine bt_or ?_ | with_reducible refine t_boo ?_ | with_reducible refine t_not ?_ | with_reducible refine t_ite ?_ | with_reducible refine tru ?_ | with_reducible refine i_rng1 ?_ | with_reducible refine i_enm ?_ | with_reducible refine i_zip ?_ | with_reducible refine ts_nil ?_ | with_reducible refine ts_one ?_ | ((with_reducible refine' e_glo ?h0 ?_); (case h0 => exact rfl)) | ((with_reducible refine' e_absent ?h0 ?_); (case h0 => exact rfl)) | ((with_reducible refine' e_part ?h0 ?_); (case h0 => exact rfl)) | ((with_reducible refine' l_cons ?h0 ?_); (case h0 => exact rfl)) | ((with_reducible refine' t_val ?h0 ?_); (case h0 => exact rfl)) | ((with_reducible refine' i_val ?h0 ?_); (case h0 => exact rfl)))
local macro_rules | `(tactic| walk_at "sx") => `(tactic| first | with_reducible refine q_nx ?_ | with_reducible refine q_rt ?_ | with_reducible refine q_br ?_ | with_reducible refine q_ct ?_ | with_reducible refine q_exc ?_ | with_reducible refine q_end ?_ | with_reducible refine q_endN ?_ | with_reducible refine q_endX ?_ | with_reducible refine q_tnx ?_ | with_reducible refine q_tct ?_ | with_reducible refine q_tbr ?_ | with_reducible refine q_trt ?_ | with_reducible refine q_tex ?_ | with_reducible refine x_cons ?_ | with_reducible refine x_nil ?_ | with_reducible refine x_asgN ?_ | with_reducible refine x_asgT ?_ | with_reducible refine x_par ?_ | with_reducible refine x_fld ?_ | with_reducible refine x_setI ?_ | with_reducible refine x_expr ?_ | with_reducible refine x_ife ?_ | with_reducible refine x_for ?_ | with_reducible refine x_whl ?_ | with_reducible refine x_ret ?_ | with_reducible refine x_retN ?_ | with_reducible refine x_cont ?_ | with_reducible refine x_brk ?_ | with_reducible refine x_pass ?_)
local macro_rules | `(tactic| walk_at "vx") => `(tactic| first | with_reducible refine v_addI ?_ | with_reducible refine v_subI ?_ | with_reducible refine v_eqS ?_ | with_reducible refine v_neS ?_ | with_reducible refine v_eqI ?_ | with_reducible refine v_neI ?_ | with_reducible refine v_ltI ?_ | with_reducible refine v_leI ?_ | with_reducible refine v_gtI ?_ | with_reducible refine v_geI ?_ | with_reducible refine v_inS ?_ | with_reducible refine v_notIn ?_ | with_reducible refine v_itT ?_ | with_reducible refine v_wT ?_ | with_reducible refine v_wS ?_ | with_reducible refine v_zipT ?_ | with_reducible refine v_lenT ?_ | with_reducible refine v_tupT ?_ | with_reducible refine v_lstT ?_ | with_reducible refine v_intI ?_ | with_reducible refine v_intB ?_ | with_reducible refine v_absI ?_ | with_reducible refine v_strS ?_ | with_reducible refine v_okJ ?_ | ((with_reducible refine' v_mulI ?h0 ?_); (case h0 => exact rfl)) | ((with_reducible refine' v_modI ?h0 ?_); (case h0 => decide)) | ((with_reducible refine' v_divI ?h0 ?h1 ?_); (case h0 => decide); (case h1 => decide)) | ((with_reducible refine' v_powI ?h0 ?h1 ?h2 ?_); (case h0 => decide); (case h1 => decide); (case h2 => decide)) | ((with_reducible refine' v_inT ?h0 ?_); (case h0 => exact rfl)) | ((with_reducible refine' v_subT ?h0 ?_); (case h0 => exact rfl)) | ((with_reducible refine' v_subL ?h0 ?h1 ?_); (case h0 => walk_at "hp"); (case h1 => exact rfl)) | ((with_reducible refine' v_slcT ?h0 ?h1 ?_); (case h0 => exact rfl); (case h1 => exact rfl)) | ((with_reducible refine' v_slcL ?h0 ?h1 ?h2 ?_); (case h0 => walk_at "hp"); (case h1 => exact rfl); (case h2 => exact rfl)) | ((with_reducible refine' v_slcX ?h0 ?h1 ?_); (case h0 => exact rfl); (case h1 => exact rfl)) | ((with_reducible refine' v_rev ?h0 ?_); (case h0 => walk_at "hp")) | ((with_reducible refine' v_itL ?h0 ?_); (case h0 => walk_at "hp")) | ((with_reducible refine' v_att ?h0 ?h1 ?h2 ?_); (case h0 => walk_at "hp"); (case h1 => exact rfl); (case h2 => exact rfl)) | ((with_reducible refine' v_setF ?h0 ?h1 ?_); (case h0 => walk_at "hp"); (case h1 => exact rfl)) | ((with_reducible refine' v_wL ?h0 ?_); (case h0 => walk_at "hp")) | ((with_reducible refine' v_enm ?h0 ?_); (case h0 => walk_at "hp")) | ((with_reducible refine' v_zipL ?h0 ?h1 ?_); (case h0 => walk_at "hp"); (case h1 => walk_at "hp")) | ((with_reducible refine' v_lenL ?h0 ?_); (case h0 => walk_at "hp")) | ((with_reducible refine' v_tupL ?h0 ?_); (case h0 => walk_at "hp")) | ((with_reducible refine' v_lstL ?h0 ?_); (case h0 => walk_at "hp")) | ((with_reducible refine' v_okA ?h0 ?_); (case h0 => walk_at "hp")) | ((with_reducible refine' v_okE ?h0 ?_); (case h0 => walk_at "hp")) | ((with_reducible refine' v_okP ?h0 ?_); (case h0 => walk_at "hp")))
local macro_rules | `(tactic| walk_at "is") => `(tactic| refine ⟨_, _, by exact rfl, by exact rfl, ?_⟩)
local macro_rules | `(tactic| walk_at "ck") => `(tactic| ((with_reducible refine' w_callK ?h0 ?h1 ?_); (case h0 => exact rfl); (case h1 => exact rfl)))
local macro_rules | `(tactic| walk_at "br") => `(tactic| first | ((with_reducible refine br_t ?h0 ?_); (case h0 => exact rfl)) | ((with_reducible refine br_f ?h0 ?_); (case h0 => exact rfl)))
local macro_rules | `(tactic| walk_at "go") => `(tactic| repeat (first | walk_at "ex" | walk_at "sx" | walk_at "vx" | with_reducible refine ⟨_, rfl, ?_⟩ | walk_at "br" | walk_at "ck"))
def takenL : List W := [.str s_new, .str s_weak, .str s_none, .str s_use, .str s_free, .str s_back, .str s_do, .str s_if, .str s_any, .str s_else, .str s_try, .str s_end, .str s_slot]
def isLet (c : Nat) : Bool := decide (c ∈ s_26_abcdefghijklmnopqrst.cps.toList)
def isNm (x : Str) : Bool := decide (1 ≤ x.length) && (decide (x.length ≤ 4) && (!(inV (.str x) (takenL.map toV)) && x.cps.toList.all isLet))
variable {n : Nat} {C : Hc} {Q : W → Hc → Prop} {E : Xn → Hc → Prop}
theorem sp_is_name (hn : 1 ≤ n) {x : Str} (hx : x.length ≤ LINE) (h : ∀ C', Ge C C' → Q (.bl (isNm x)) C') : wpM (callF G n k_is_name [.str x]) C Q E := by
  match n, hn with
  | n + 1, _ =>
    refine (w_callF (fd := f_is_name) rfl rfl rfl).mpr ?_
    delta f_is_name
    dsimp only
    walk_at "go"
    walk_at "is"
    walk_at "go"
    refine v_lenS hx ?_
    walk_at "go"
    unfold isNm at h
    by_cases h1 : 1 ≤ x.length
    · rw [decide_eq_true h1] at h
      refine br_t (decide_eq_true (by omega)) ?_
      walk_at "go"
      by_cases h2 : x.length ≤ 4
      · rw [decide_eq_true h2] at h
        refine br_f (by rw [decide_eq_true (show (x.length : Int) ≤ 4 by omega)]; rfl) ?_
        walk_at "go"
        cases h3 : inV (.str x) (takenL.map toV) with
        | true =>
          rw [h3] at h
          refine br_t h3 ?_
          walk_at "go"
          exact h _ .refl
        | false =>
          rw [h3] at h
          refine br_f h3 ?_
          walk_at "go"
          refine w_compR (ws := x.cps.toList.map fun c => .str ⟨#[c]⟩) (fun _ w y => ∃ c, w = .str ⟨#[c]⟩ ∧ y = .bl (isLet c)) (fun _ h => h) (fun _ => true) ?_ walks_seq (fun w C1 hw g1 => ?_) (fun ys C1 g1 hp => ?_)
          · rw [List.length_map]
            show x.length < 1000000
            omega
          · obtain ⟨c, _, rfl⟩ := List.mem_map.mp hw
            refine ⟨_, rfl, ?_⟩
            walk_at "go"
            refine ⟨.refl, rfl, fun _ => ?_⟩
            walk_at "go"
            exact ⟨.refl, c, rfl, rfl⟩
          · rw [List.filter_eq_self.mpr (fun _ _ => rfl)] at hp
            have ey : ys = (x.cps.toList.map isLet).map W.bl := by
              revert hp
              generalize x.cps.toList = l
              clear h h3 h1 h2 hx
              intro hp
              induction l generalizing ys with
              | nil => cases hp; rfl
              | cons a l ih =>
                cases hp with
                | cons h1 h2 =>
                  obtain ⟨c, e1, e2⟩ := h1
                  cases e1
                  rw [e2, ih _ h2]
                  rfl
            subst ey
            walk_at "go"
            refine v_all new_self (bools_of _) ?_
            have e : (x.cps.toList.map isLet).all id = x.cps.toList.all isLet := by rw [List.all_map]; rfl
            rw [e]
            exact h _ (g1.trans Ge.new)
      · rw [decide_eq_false h2] at h
        refine br_t (by rw [decide_eq_false (show ¬ (x.length : Int) ≤ 4 by omega)]; rfl) ?_
        walk_at "go"
        exact h _ .refl
    · rw [decide_eq_false h1] at h
      refine br_f (decide_eq_false (by omega)) ?_
      walk_at "go"
      exact h _ .refl
end K05
set_option Elab.async false
set_option linter.all false
set_option maxRecDepth 100000
set_option maxHeartbeats 1000000
namespace BL
open PySem L2
/-- a list or a tuple of these -/
def Items (C : Hc) (w : W) (ws : List W) : Prop := w = .tup ws ∨ ∃ a, w = .ref a ∧ C.get a = some (.lst ws)
theorem Items.ge {C C' : Hc} {w : W} {ws : List W} (h : Items C w ws) (g : Ge C C') : Items C' w ws := by
  rcases h with h | ⟨a, h, e⟩
  · exact .inl h
  · exact .inr ⟨a, h, g.at e⟩
theorem Items.tag {C : Hc} {w : W} {ws : List W} {cls : List Cd} (h : Items C w ws) : ∃ t, tagW cls C w = some t ∧ isAny cls t [.ty .list, .ty .tuple] = some true := by
  rcases h with rfl | ⟨a, rfl, e⟩
  · exact ⟨_, rfl, rfl⟩
  · refine ⟨.ty .list, ?_, rfl⟩
    unfold tagW
    simp only [e]
theorem Items.walk {C : Hc} {w : W} {ws : List W} {QI : It' → Hc → Prop} {E : Xn → Hc → Prop} (h : Items C w ws) (k : ∀ J, Walks J ws C → QI J C) : wpM (walkW w) C QI E := by
  rcases h with rfl | ⟨a, rfl, e⟩
  · exact v_wT (k _ walks_seq)
  · exact v_wL e (k _ (walks_lst e))
theorem Items.tuple {G : Sg} {cf : Cf} {C : Hc} {w : W} {ws : List W} {Q : W → Hc → Prop} {E : Xn → Hc → Prop} (h : Items C w ws) (k : Q (.tup ws) C) : wpM (bltC G cf .tuple [w]) C Q E := by
  rcases h with rfl | ⟨a, rfl, e⟩
  · exact v_tupT k
  · exact v_tupL e k
theorem Items.len {G : Sg} {cf : Cf} {C : Hc} {w : W} {ws : List W} {Q : W → Hc → Prop} {E : Xn → Hc → Prop} (h : Items C w ws) (k : Q (.int ws.length) C) : wpM (bltC G cf .len [w]) C Q E := by
  rcases h with rfl | ⟨a, rfl, e⟩
  · exact v_lenT k
  · exact v_lenL e k
theorem Items.star {C : Hc} {w : W} {ws : List W} {QL : List W → Hc → Prop} {E : Xn → Hc → Prop} (h : Items C w ws) (k : QL ws C) : wpM (itemsW w) C QL E := by
  rcases h with rfl | ⟨a, rfl, e⟩
  · exact v_itT k
  · exact v_itL e k
theorem filter_true {α : Type} (l : List α) : l.filter (fun _ => true) = l := List.filter_eq_self.mpr (fun _ _ => rfl)
theorem paired_map {α : Type} {f : α → W} {g : α → W} {R : W → W → Prop} (hR : ∀ a y, R (f a) y → y = g a) : ∀ {l : List α} {ys : List W}, Paired R (l.map f) ys → ys = l.map g
  | [], _, h => by cases h; rfl
  | a :: l, _, h => by
    cases h with
    | cons h1 h2 => rw [hR a _ h1, paired_map hR h2]; rfl
/-! ### texts as data -/
theorem rdL_strs {C : Hc} {n : Nat} : ∀ ls : List Str, rdL (rdW C (n + 1)) (ls.map W.str) = some (ls.map PyData.str)
  | [] => rfl
  | i :: ns => by
    rw [List.map_cons]
    unfold rdL
    rw [show rdW C (n + 1) (.str i) = some (.str i) from rfl, rdL_strs ns]
    rfl
theorem rd_strs {C : Hc} (ls : List Str) : rdW C DEEP (.tup (ls.map W.str)) = some (.tuple (ls.map PyData.str)) := by
  show rdW C (69 + 1) _ = _
  unfold rdW
  dsimp only
  rw [show (69 : Nat) = 68 + 1 from rfl, rdL_strs]
  rfl
def okS (x : Str) : Bool := x.cps.toList.all fun c => decide (c < 1114112)
theorem okS_strOk {x : Str} (h : okS x = true) : PyData.canLay0 (.str x) = true := by
  unfold okS at h
  show x.cps.all (fun c => decide (c < 1114112)) = true
  rw [← Array.all_toList]
  exact h
theorem okS_app {x y : Str} (h : okS x = true) (k : okS y = true) : okS (x ++ y) = true := by
  unfold okS at *
  have e : (x ++ y).cps.toList = x.cps.toList ++ y.cps.toList := by
    show (x.cps ++ y.cps).toList = _
    simp
  rw [e, List.all_append, h, k]
  rfl
theorem shaped_strs {ls : List Str} (h : ∀ x ∈ ls, okS x = true) : SeqAt.shaped (.tuple (ls.map PyData.str)) = true := by
  have h1 : PyData.canLayAll0 (ls.map PyData.str) = true := by
    induction ls with
    | nil => rfl
    | cons i ns ih =>
      rw [List.map_cons]
      unfold PyData.canLayAll0
      rw [okS_strOk (h i List.mem_cons_self), ih fun x hx => h x (List.mem_cons_of_mem _ hx)]
      rfl
  have h2 : PyData.depthAll (ls.map PyData.str) = 0 := by
    clear h1 h
    induction ls with
    | nil => rfl
    | cons i ns ih => simp [PyData.depthAll, PyData.depth, ih]
  unfold SeqAt.shaped
  simp [PyData.canLay0, h1, PyData.depth, h2]
theorem eqv_strs : ∀ (ls ms : List Str), PyData.eqvAll (ls.map PyData.str) (ms.map PyData.str) = decide (ls = ms)
  | [], [] => rfl
  | [], m :: ms => by simp [PyData.eqvAll]
  | l :: ls, [] => by simp [PyData.eqvAll]
  | l :: ls, m :: ms => by
    rw [List.map_cons, List.map_cons]
    unfold PyData.eqvAll
    rw [eqv_strs ls ms]
    by_cases e : l = m
    · subst e
      simp [PyData.eqv]
    · have : PyData.eqv (.str l) (.str m) = false := by
        unfold PyData.eqv
        exact beq_eq_false_iff_ne.mpr e
      rw [this]
      simp [e]
def wt (ls : List Str) : Nat := (ls.map fun y => y.length + 1).sum
theorem wt_nil : wt [] = 0 := rfl
theorem wt_cons (x : Str) (ls : List Str) : wt (x :: ls) = x.length + 1 + wt ls := by unfold wt; rw [List.map_cons, List.sum_cons]
theorem wt_app (ls ms : List Str) : wt (ls ++ ms) = wt ls + wt ms := by unfold wt; rw [List.map_append, List.sum_append]
theorem len_app (x y : Str) : (x ++ y).length = x.length + y.length := by
  show (x.cps ++ y.cps).size = x.cps.size + y.cps.size
  exact Array.size_append
end BL
namespace K05
open PySem L2 BL
local macro_rules | `(tactic| walk_at "hp") => `(tactic| first | assumption | exact new_self | (refine new_old ?_; walk_at "hp") | (refine Ge.at (by assumption) ?_; walk_at "hp") | exact put_self (by walk_at "hp") | (refine (put_ne (by walk_at "hp") (by omega)).trans ?_; walk_at "hp"))
local macro_rules | `(tactic| walk_at "ex") => `(tactic| first | ((with_reducible refine' e_var ?h0 ?_); (case h0 => exact rfl)) | with_reducible refine e_cst ?_ | with_reducible refine e_tup ?_ | with_reducible refine e_lst ?_ | with_reducible refine e_bin ?_ | with_reducible refine e_cmp ?_ | with_reducible refine e_cmp2 ?_ | with_reducible refine e_isN ?_ | with_reducible refine e_not ?_ | with_reducible refine e_neg ?_ | with_reducible refine e_ite ?_ | with_reducible refine e_call ?_ | with_reducible refine e_callk ?_ | with_reducible refine e_mk ?_ | with_reducible refine e_mkk ?_ | with_reducible refine e_blt ?_ | with_reducible refine e_isi ?_ | with_reducible refine e_meth ?_ | with_reducible refine e_bm ?_ | with_reducible refine e_bm0 ?_ | with_reducible refine e_att ?_ | with_reducible refine e_sub ?_ | with_reducible refine e_slc ?_ | with_reducible refine e_rev ?_ | with_reducible refine e_comp ?_ | with_reducible refine e_fst ?_ | with_reducible refine e_fmt ?_ | with_reducible refine e_boo ?_ | with_reducible refine l_nil ?_ | with_reducible refine l_star ?_ | with_reducible refine j_nil ?_ | with_reducible refine j_cons ?_ | with_reducible refine b_one ?_ | with_reducible refine b_and ?_ | with_reducible refine b_or ?_ | with_reducible refine bt_one ?_ | with_reducible refine bt_and ?_ | with_reducible refine bt_or ?_ | with_reducible refine t_boo ?_ | with_reducible refine t_not ?_ | with_reducible refine t_ite ?_ | with_reducible refine tru ?_ | with_reducible refine i_rng1 ?_ | with_reducible refine i_enm ?_ | with_reducible refine i_zip ?_ | with_reducible refine ts_nil ?_ | with_reducible refine ts_one ?_ | ((with_reducible refine' e_glo ?h0 ?_); (case h0 => exact rfl)) | ((with_reducible refine' e_absent ?h0 ?_); (case h0 => exact rfl)) | ((with_reducible refine' e_part ?h0 ?_); (case h0 => exact rfl)) | ((with_reducible refine' l_cons ?h0 ?_); (case h0 => exact rfl)) | ((with_reducible refine' t_val ?h0 ?_); (case h0 => exact rfl)) | ((with_reducible refine' i_val ?h0 ?_); (case h0 => exact rfl)))
local macro_rules | `(tactic| walk_at "sx") => `(tactic| first | with_reducible refine q_nx ?_ | with_reducible refine q_rt ?_ | with_reducible refine q_br ?_ | with_reducible refine q_ct ?_ | with_reducible refine q_exc ?_ | with_reducible refine q_end ?_ | with_reducible refine q_endN ?_ | with_reducible refine q_endX ?_ | with_reducible refine q_tnx ?_ | with_reducible refine q_tct ?_ | with_reducible refine q_tbr ?_ | with_reducible refine q_trt ?_ | with_reducible refine q_tex ?_ | with_reducible refine x_cons ?_ | with_reducible refine x_nil ?_ | with_reducible refine x_asgN ?_ | with_reducible refine x_asgT ?_ | with_reducible refine x_par ?_ | with_reducible refine x_fld ?_ | with_reducible refine x_setI ?_ | with_reducible refine x_expr ?_ | with_reducible refine x_ife ?_ | with_reducible refine x_for ?_ | with_reducible refine x_whl ?_ | with_reducible refine x_ret ?_ | with_reducible refine x_retN ?_ | with_reducible refine x_cont ?_ | with_reducible refine x_brk ?_ | with_reducible refine x_pass ?_)
local macro_rules | `(tactic| walk_at "vx") => `(tactic| first | with_reducible refine v_addI ?_ | with_reducible refine v_subI ?_ | with_reducible refine v_eqS ?_ | with_reducible refine v_neS ?_ | with_reducible refine v_eqI ?_ | with_reducible refine v_neI ?_ | with_reducible refine v_ltI ?_ | with_reducible refine v_leI ?_ | with_reducible refine v_gtI ?_ | with_reducible refine v_geI ?_ | with_reducible refine v_inS ?_ | with_reducible refine v_notIn ?_ | with_reducible refine v_itT ?_ | with_reducible refine v_wT ?_ | with_reducible refine v_wS ?_ | with_reducible refine v_zipT ?_ | with_reducible refine v_lenT ?_ | with_reducible refine v_tupT ?_ | with_reducible refine v_lstT ?_ | with_reducible refine v_intI ?_ | with_reducible refine v_intB ?_ | with_reducible refine v_absI ?_ | with_reducible refine v_strS ?_ | with_reducible refine v_okJ ?_ | ((with_reducible refine' v_mulI ?h0 ?_); (case h0 => exact rfl)) | ((with_reducible refine' v_modI ?h0 ?_); (case h0 => decide)) | ((with_reducible refine' v_divI ?h0 ?h1 ?_); (case h0 => decide); (case h1 => decide)) | ((with_reducible refine' v_powI ?h0 ?h1 ?h2 ?_); (case h0 => decide); (case h1 => decide); (case h2 => decide)) | ((with_reducible refine' v_inT ?h0 ?_); (case h0 => exact rfl)) | ((with_reducible refine' v_subT ?h0 ?_); (case h0 => exact rfl)) | ((with_reducible refine' v_subL ?h0 ?h1 ?_); (case h0 => walk_at "hp"); (case h1 => exact rfl)) | ((with_reducible refine' v_slcT ?h0 ?h1 ?_); (case h0 => exact rfl); (case h1 => exact rfl)) | ((with_reducible refine' v_slcL ?h0 ?h1 ?h2 ?_); (case h0 => walk_at "hp"); (case h1 => exact rfl); (case h2 => exact rfl)) | ((with_reducible refine' v_slcX ?h0 ?h1 ?_); (case h0 => exact rfl); (case h1 => exact rfl)) | ((with_reducible refine' v_rev ?h0 ?_); (case h0 => walk_at "hp")) | ((with_reducible refine' v_itL ?h0 ?_); (case h0 => walk_at "hp")) | ((with_reducible refine' v_att ?h0 ?h1 ?h2 ?_); (case h0 => walk_at "hp"); (case h1 => exact rfl); (case h2 => exact rfl)) | ((with_reducible refine' v_setF ?h0 ?h1 ?_); (case h0 => walk_at "hp"); (case h1 => exact rfl)) | ((with_reducible refine' v_wL ?h0 ?_); (case h0 => walk_at "hp")) | ((with_reducible refine' v_enm ?h0 ?_); (case h0 => walk_at "hp")) | ((with_reducible refine' v_zipL ?h0 ?h1 ?_); (case h0 => walk_at "hp"); (case h1 => walk_at "hp")) | ((with_reducible refine' v_lenL ?h0 ?_); (case h0 => walk_at "hp")) | ((with_reducible refine' v_tupL ?h0 ?_); (case h0 => walk_at "hp")) | ((with_reducible refine' v_lstL ?h0 ?_); (case h0 => walk_at "hp")) | ((with_reducible refine' v_okA ?h0 ?_); (case h0 => walk_at "hp")) | ((with_reducible refine' v_okE ?h0 ?_); (case h0 => walk_at "hp")) | ((with_reducible refine' v_okP ?h0 ?_); (case h0 => walk_at "hp")))
local macro_rules | `(tactic| walk_at "is") => `(tactic| refine ⟨_, _, by exact rfl, by exact rfl, ?_⟩)
local macro_rules | `(tactic| walk_at "ck") => `(tactic| ((with_reducible refine' w_callK ?h0 ?h1 ?_); (case h0 => exact rfl); (case h1 => exact rfl)))
local macro_rules | `(tactic| walk_at "br") => `(tactic| first | ((with_reducible refine br_t ?h0 ?_); (case h0 => exact rfl)) | ((with_reducible refine br_f ?h0 ?_); (case h0 => exact rfl)))
local macro_rules | `(tactic| walk_at "go") => `(tactic| repeat (first | walk_at "ex" | walk_at "sx" | walk_at "vx" | with_reducible refine ⟨_, rfl, ?_⟩ | walk_at "br" | walk_at "ck"))
variable {n : Nat} {C : Hc} {Q : W → Hc → Prop} {E : Xn → Hc → Prop}
theorem sp_need (hn : 1 ≤ n) {w : W} (h : Q .non C) : wpM (callF G n k_need [.bl true, w]) C Q E := by
  match n, hn with
  | n + 1, _ =>
    refine (w_callF (fd := f_need) rfl rfl rfl).mpr ?_
    delta f_need
    dsimp only
    walk_at "go"
    exact h
theorem sp_is_sequence (hn : 1 ≤ n) {w : W} {ws : List W} (hi : Items C w ws) (h : Q (.bl true) C) : wpM (callF G n k_is_sequence [w]) C Q E := by
  match n, hn with
  | n + 1, _ =>
    refine (w_callF (fd := f_is_sequence) rfl rfl rfl).mpr ?_
    delta f_is_sequence
    dsimp only
    walk_at "go"
    obtain ⟨t, h1, h2⟩ := hi.tag (cls := G.cls)
    refine ⟨t, _, h1, h2, ?_⟩
    exact h
theorem sp_are_names (hn : 2 ≤ n) {w : W} {xs : List Str} (hi : Items C w (xs.map W.str)) (hl : xs.length < 1000000) (hx : ∀ x ∈ xs, x.length ≤ LINE) (h : ∀ C', Ge C C' → Q (.bl (xs.all isNm)) C') : wpM (callF G n k_are_names [w]) C Q E := by
  match n, hn with
  | n + 1, hn =>
    refine (w_callF (fd := f_are_names) rfl rfl rfl).mpr ?_
    delta f_are_names
    dsimp only
    walk_at "go"
    refine sp_is_sequence (by omega) hi ?_
    walk_at "go"
    refine hi.walk fun J hJ => ?_
    refine w_compR (ws := xs.map W.str) (fun _ w y => ∃ x, w = .str x ∧ y = .bl (isNm x)) (fun _ h => h) (fun _ => true) (by rw [List.length_map]; exact hl) hJ (fun w C1 hw g1 => ?_) (fun ys C1 g1 hp => ?_)
    · obtain ⟨x, hxm, rfl⟩ := List.mem_map.mp hw
      refine ⟨_, rfl, ?_⟩
      walk_at "go"
      refine ⟨.refl, rfl, fun _ => ?_⟩
      walk_at "go"
      refine sp_is_name (by omega) (hx x hxm) fun C2 g2 => ?_
      exact ⟨g2, x, rfl, rfl⟩
    · rw [filter_true] at hp
      have ey := paired_map (f := W.str) (g := fun x => W.bl (isNm x)) (fun a y h => by obtain ⟨x, e1, e2⟩ := h; cases e1; exact e2) hp
      have ey : ys = (xs.map isNm).map W.bl := by rw [ey, List.map_map]; rfl
      subst ey
      walk_at "go"
      refine v_all new_self (bools_of _) ?_
      have e : (xs.map isNm).all id = xs.all isNm := by rw [List.all_map]; rfl
      rw [e]
      exact h _ (g1.trans Ge.new)
/-! ### rows -/
def rowC (c : Nat) : Bool := match clsP G.cls c with
  | some d => Nat.beq d.eq k_Row___eq__ && (Nat.beq d.str k_Row___str__ && ((isTag G.cls (.cls c) (.cls c_Row) == some true) && fldOk G c n_script))
  | none => false
/-- the object a is a row of the class c with these lines -/
structure IsRow (C : Hc) (a c : Nat) (ls : List Str) : Prop where
  ex : ∃ fs, C.get a = some (.ins c fs) ∧ lk n_script fs = some (.tup (ls.map W.str))
  cl : rowC c = true
  ok : ∀ x ∈ ls, okS x = true
  sm : wt ls ≤ 1000000
theorem IsRow.ge {C C' : Hc} {a c : Nat} {ls : List Str} (h : IsRow C a c ls) (g : Ge C C') : IsRow C' a c ls := by
  obtain ⟨fs, h1, h2⟩ := h.ex
  exact ⟨⟨fs, g.at h1, h2⟩, h.cl, h.ok, h.sm⟩
theorem rowC_ok {c : Nat} (h : rowC c = true) : ∃ d, clsP G.cls c = some d ∧ d.eq = k_Row___eq__ ∧ d.str = k_Row___str__ ∧ isTag G.cls (.cls c) (.cls c_Row) = some true ∧ fldOk G c n_script = true := by
  unfold rowC at h
  split at h
  · rename_i d e
    obtain ⟨h1, h⟩ := b2 h
    obtain ⟨h2, h⟩ := b2 h
    obtain ⟨h3, h4⟩ := b2 h
    exact ⟨d, e, Nat.eq_of_beq_eq_true h1, Nat.eq_of_beq_eq_true h2, eq_of_beq h3, h4⟩
  · cases h
theorem IsRow.tag {C : Hc} {a c : Nat} {ls : List Str} (h : IsRow C a c ls) : tagW G.cls C (.ref a) = some (.cls c) := by
  obtain ⟨fs, h1, h2⟩ := h.ex
  obtain ⟨d, e, _⟩ := rowC_ok h.cl
  unfold tagW
  simp only [h1, e]
theorem sp_Row_eq (hn : 1 ≤ n) {a b c c' : Nat} {ls ms : List Str} (ha : IsRow C a c ls) (hb : IsRow C b c' ms) (h : Q (.bl (decide (ls = ms))) C) : wpM (callF G n k_Row___eq__ [.ref a, .ref b]) C Q E := by
  match n, hn with
  | n + 1, _ =>
    obtain ⟨fs, a1, a2⟩ := ha.ex
    obtain ⟨gs, b1, b2'⟩ := hb.ex
    obtain ⟨d, e, _, _, _, hf⟩ := rowC_ok ha.cl
    obtain ⟨d', e', _, _, ht, hf'⟩ := rowC_ok hb.cl
    refine (w_callF (fd := f_Row___eq__) rfl rfl rfl).mpr ?_
    delta f_Row___eq__
    dsimp only
    walk_at "go"
    refine ⟨_, true, hb.tag, by unfold isAny; rw [ht], ?_⟩
    walk_at "go"
    refine v_att a1 hf a2 ?_
    walk_at "go"
    refine v_att b1 hf' b2' ?_
    refine v_eqT (rd_strs ls) (rd_strs ms) (shaped_strs ha.ok) (shaped_strs hb.ok) ?_
    rw [eqv_strs]
    exact h
theorem sp_Row_str (hn : 1 ≤ n) {a c : Nat} {ls : List Str} (ha : IsRow C a c ls) (h : Q (.str (Txt.join s__0a ls)) C) : wpM (callF G n k_Row___str__ [.ref a]) C Q E := by
  match n, hn with
  | n + 1, _ =>
    obtain ⟨fs, a1, a2⟩ := ha.ex
    obtain ⟨d, e, _, _, _, hf⟩ := rowC_ok ha.cl
    refine (w_callF (fd := f_Row___str__) rfl rfl rfl).mpr ?_
    delta f_Row___str__
    dsimp only
    walk_at "go"
    refine v_att a1 hf a2 ?_
    walk_at "go"
    refine v_joinT (strs_of ls) (Nat.ble_eq_true_of_le (by
      have := ha.sm
      unfold wt at this
      show (ls.map fun y => y.length + 1).sum ≤ 16777216
      omega)) ?_
    exact h
theorem sp_eq (hn : 1 ≤ n) {a b c : Nat} {ls ms : List Str} {QB : Bool → Hc → Prop} (ha : IsRow C a c ls) (hb : IsRow C b c ms) (h : QB (decide (ls = ms)) C) : wpM (cmpW G (callF G n) .Eq (.ref a) (.ref b)) C QB E := by
  obtain ⟨fs, a1, a2⟩ := ha.ex
  obtain ⟨d, e, e1, e2, _, hf⟩ := rowC_ok ha.cl
  refine v_eqO a1 e ⟨_, hb.tag, by simp⟩ ?_
  rw [e1]
  walk_at "go"
  exact sp_Row_eq hn ha hb ⟨_, rfl, h⟩
theorem sp_str (hn : 1 ≤ n) {a c : Nat} {ls : List Str} (ha : IsRow C a c ls) (h : Q (.str (Txt.join s__0a ls)) C) : wpM (bltC G (callF G n) .str [.ref a]) C Q E := by
  obtain ⟨fs, a1, a2⟩ := ha.ex
  obtain ⟨d, e, e1, e2, _, hf⟩ := rowC_ok ha.cl
  refine v_strO a1 e ?_
  rw [e2]
  walk_at "go"
  exact sp_Row_str hn ha ⟨_, rfl, h⟩
/-- the fields that Row.__init__ sets -/
def rowF (fs : List (Nat × W)) (ls : List W) (xs ys : List W) : List (Nat × W) := putW n_second_block (.tup ys) (putW n_first_block (.tup xs) (putW n_script (.tup ls) fs))
theorem sp_Row_init (hn : 1 ≤ n) {a c : Nat} {w x y : W} {ls xs ys : List W} (ha : C.get a = some (.ins c [])) (hc : (fldOk G c n_script && (fldOk G c n_first_block && fldOk G c n_second_block)) = true) (hl : Items C w ls) (hx : Items C x xs) (hy : Items C y ys)
    (h : ∀ C', Upd C a (.ins c (rowF [] ls xs ys)) C' → Q .non C') : wpM (callF G n k_Row___init__ [.ref a, w, x, y]) C Q E := by
  obtain ⟨c1, hc⟩ := b2 hc
  obtain ⟨c2, c3⟩ := b2 hc
  match n, hn with
  | n + 1, _ =>
    refine (w_callF (fd := f_Row___init__) rfl rfl rfl).mpr ?_
    delta f_Row___init__
    dsimp only
    have it : ∀ {C1 : Hc} {o : O} {z : W} {zs : List W}, Upd C a o C1 → Items C z zs → Items C1 z zs := fun {C1 o z zs} u hz => by
      rcases hz with hz | ⟨b, hz, e⟩
      · exact .inl hz
      · refine .inr ⟨b, hz, u.old ?_ e⟩
        intro eb
        subst eb
        rw [ha] at e
        cases e
    walk_at "go"
    refine hl.tuple ?_
    walk_at "go"
    refine v_setF ha (by rw [c1]; rfl) ?_
    have u1 := Upd.put (o := .ins c (putW n_script (.tup ls) [])) ha
    walk_at "go"
    refine (it u1 hx).tuple ?_
    walk_at "go"
    refine v_setF u1.at_ (by rw [c2]; rfl) ?_
    have u2 := u1.trans (Upd.put (o := .ins c (putW n_first_block (.tup xs) (putW n_script (.tup ls) []))) u1.at_)
    walk_at "go"
    refine (it u2 hy).tuple ?_
    walk_at "go"
    refine v_setF u2.at_ (by rw [c3]; rfl) ?_
    exact h _ (u2.trans (Upd.put u2.at_))
end K05
set_option Elab.async false
set_option linter.all false
set_option maxRecDepth 100000
set_option maxHeartbeats 1000000
namespace BL
open PySem L2
/-- all but one object as it was -/
structure GeX (C : Hc) (a : Nat) (C' : Hc) : Prop where
  nx : C.next ≤ C'.next
  get : ∀ i, i < C.next → i ≠ a → C'.get i = C.get i
theorem GeX.of {C C1 C2 : Hc} {a : Nat} {o : O} (g : Ge C C1) (u : Upd C1 a o C2) : GeX C a C2 := ⟨by rw [u.nx]; exact g.nx, fun i hi ha => (u.ne i ha).trans (g.get i hi)⟩
theorem GeX.up {C C1 C2 : Hc} {a : Nat} {o : O} (u : Upd C1 a o C2) (g : Ge C C1) : GeX C a C2 := GeX.of g u
theorem GeX.made {C C' : Hc} {o : O} (g : GeX (C.new o) C.next C') : Ge C C' := ⟨Nat.le_trans (Nat.le_succ _) g.nx, fun i hi => (g.get i (Nat.lt_succ_of_lt hi) (Nat.ne_of_lt hi)).trans (by rw [Hc.get_new, if_neg (Nat.ne_of_lt hi)])⟩
theorem fit_and {n : Nat} {P : Prop} (h : n ≤ 16777216) (k : P) : fitB n = true ∧ P := ⟨Nat.ble_eq_true_of_le h, k⟩
theorem len_and {xs : List W} {ys : List BL.E} {P : Prop} (h : xs.length = ys.length) (k : P) : xs.length = ys.length ∧ P := ⟨h, k⟩
theorem empty_len : Str.empty.length = 0 := rfl
theorem okS_empty : okS Str.empty = true := rfl
end BL
namespace K05
open PySem L2 BL
theorem ln__20_3d_20new : s__20_3d_20new.length = 6 := by decide +kernel
theorem ok__20_3d_20new : okS s__20_3d_20new = true := by decide +kernel
theorem ln__20_3d_20 : s__20_3d_20.length = 3 := by decide +kernel
theorem ok__20_3d_20 : okS s__20_3d_20 = true := by decide +kernel
theorem ln__20 : s__20.length = 1 := by decide +kernel
theorem ok__20 : okS s__20 = true := by decide +kernel
theorem ln__20_3d_20none : s__20_3d_20none.length = 7 := by decide +kernel
theorem ok__20_3d_20none : okS s__20_3d_20none = true := by decide +kernel
theorem ln_use_20 : s_use_20.length = 4 := by decide +kernel
theorem ok_use_20 : okS s_use_20 = true := by decide +kernel
theorem ln_free_20 : s_free_20.length = 5 := by decide +kernel
theorem ok_free_20 : okS s_free_20 = true := by decide +kernel
theorem ln_back_20 : s_back_20.length = 5 := by decide +kernel
theorem ok_back_20 : okS s_back_20 = true := by decide +kernel
theorem ln__20_3d_20do_20 : s__20_3d_20do_20.length = 6 := by decide +kernel
theorem ok__20_3d_20do_20 : okS s__20_3d_20do_20 = true := by decide +kernel
theorem ln_if_20 : s_if_20.length = 3 := by decide +kernel
theorem ok_if_20 : okS s_if_20 = true := by decide +kernel
theorem ln_return_20 : s_return_20.length = 7 := by decide +kernel
theorem ok_return_20 : okS s_return_20 = true := by decide +kernel
theorem ln_return : s_return.length = 6 := by decide +kernel
theorem ok_return : okS s_return = true := by decide +kernel
theorem ln_throw : s_throw.length = 5 := by decide +kernel
theorem ok_throw : okS s_throw = true := by decide +kernel
theorem ln_any : s_any.length = 3 := by decide +kernel
theorem ok_any : okS s_any = true := by decide +kernel
theorem ln_frame : s_frame.length = 5 := by decide +kernel
theorem ok_frame : okS s_frame = true := by decide +kernel
theorem ln_end : s_end.length = 3 := by decide +kernel
theorem ok_end : okS s_end = true := by decide +kernel
theorem ln_while_20any : s_while_20any.length = 9 := by decide +kernel
theorem ok_while_20any : okS s_while_20any = true := by decide +kernel
theorem ln_try : s_try.length = 3 := by decide +kernel
theorem ok_try : okS s_try = true := by decide +kernel
theorem ln_catch : s_catch.length = 5 := by decide +kernel
theorem ok_catch : okS s_catch = true := by decide +kernel
theorem ln_else : s_else.length = 4 := by decide +kernel
theorem ok_else : okS s_else = true := by decide +kernel
theorem ln_local : s_local.length = 5 := by decide +kernel
theorem ok_local : okS s_local = true := by decide +kernel
theorem ln_global : s_global.length = 6 := by decide +kernel
theorem ok_global : okS s_global = true := by decide +kernel
theorem ln_weak : s_weak.length = 4 := by decide +kernel
theorem ok_weak : okS s_weak = true := by decide +kernel
local macro_rules | `(tactic| walk_at "lb") => `(tactic| first | (show _ ≤ 16777216; omega) | (show _ ≤ 16777216; simp only [len_app, empty_len, List.length_cons, List.length_nil, List.length_append, List.length_map, ln__20_3d_20new, ln__20_3d_20, ln__20, ln__20_3d_20none, ln_use_20, ln_free_20, ln_back_20, ln__20_3d_20do_20, ln_if_20, ln_return_20, ln_return, ln_throw, ln_any, ln_frame, ln_end, ln_while_20any, ln_try, ln_catch, ln_else, ln_local, ln_global, ln_weak]; omega))
local macro_rules | `(tactic| walk_at "hp") => `(tactic| first | assumption | exact new_self | (refine new_old ?_; walk_at "hp") | (refine Ge.at (by assumption) ?_; walk_at "hp") | exact put_self (by walk_at "hp") | (refine (put_ne (by walk_at "hp") (by omega)).trans ?_; walk_at "hp"))
local macro_rules | `(tactic| walk_at "ex") => `(tactic| first | ((with_reducible refine' e_var ?h0 ?_); (case h0 => exact rfl)) | with_reducible refine e_cst ?_ | with_reducible refine e_tup ?_ | with_reducible refine e_lst ?_ | with_reducible refine e_bin ?_ | with_reducible refine e_cmp ?_ | with_reducible refine e_cmp2 ?_ | with_reducible refine e_isN ?_ | with_reducible refine e_not ?_ | with_reducible refine e_neg ?_ | with_reducible refine e_ite ?_ | with_reducible refine e_call ?_ | with_reducible refine e_callk ?_ | with_reducible refine e_mk ?_ | with_reducible refine e_mkk ?_ | with_reducible refine e_blt ?_ | with_reducible refine e_isi ?_ | with_reducible refine e_meth ?_ | with_reducible refine e_bm ?_ | with_reducible refine e_bm0 ?_ | with_reducible refine e_att ?_ | with_reducible refine e_sub ?_ | with_reducible refine e_slc ?_ | with_reducible refine e_rev ?_ | with_reducible refine e_comp ?_ | with_reducible refine e_fst ?_ | with_reducible refine e_fmt ?_ | with_reducible refine e_boo ?_ | with_reducible refine l_nil ?_ | with_reducible refine l_star ?_ | with_reducible refine j_nil ?_ | with_reducible refine j_cons ?_ | with_reducible refine b_one ?_ | with_reducible refine b_and ?_ | with_reducible refine b_or ?_ | with_reducible refine bt_one ?_ | with_reducible refine bt_and ?_ | with_reducible refine bt_or ?_ | with_reducible refine t_boo ?_ | with_reducible refine t_not ?_ | with_reducible refine t_ite ?_ | with_reducible refine tru ?_ | with_reducible refine i_rng1 ?_ | with_reducible refine i_enm ?_ | with_reducible refine i_zip ?_ | with_reducible refine ts_nil ?_ | with_reducible refine ts_one ?_ | ((with_reducible refine' e_glo ?h0 ?_); (case h0 => exact rfl)) | ((with_reducible refine' e_absent ?h0 ?_); (case h0 => exact rfl)) | ((with_reducible refine' e_part ?h0 ?_); (case h0 => exact rfl)) | ((with_reducible refine' l_cons ?h0 ?_); (case h0 => exact rfl)) | ((with_reducible refine' t_val ?h0 ?_); (case h0 => exact rfl)) | ((with_reducible refine' i_val ?h0 ?_); (case h0 => exact rfl)))
local macro_rules | `(tactic| walk_at "sx") => `(tactic| first | with_reducible refine q_nx ?_ | with_reducible refine q_rt ?_ | with_reducible refine q_br ?_ | with_reducible refine q_ct ?_ | with_reducible refine q_exc ?_ | with_reducible refine q_end ?_ | with_reducible refine q_endN ?_ | with_reducible refine q_endX ?_ | with_reducible refine q_tnx ?_ | with_reducible refine q_tct ?_ | with_reducible refine q_tbr ?_ | with_reducible refine q_trt ?_ | with_reducible refine q_tex ?_ | with_reducible refine x_cons ?_ | with_reducible refine x_nil ?_ | with_reducible refine x_asgN ?_ | with_reducible refine x_asgT ?_ | with_reducible refine x_par ?_ | with_reducible refine x_fld ?_ | with_reducible refine x_setI ?_ | with_reducible refine x_expr ?_ | with_reducible refine x_ife ?_ | with_reducible refine x_for ?_ | with_reducible refine x_whl ?_ | with_reducible refine x_ret ?_ | with_reducible refine x_retN ?_ | with_reducible refine x_cont ?_ | with_reducible refine x_brk ?_ | with_reducible refine x_pass ?_)
local macro_rules | `(tactic| walk_at "vx") => `(tactic| first | with_reducible refine v_addI ?_ | with_reducible refine v_subI ?_ | with_reducible refine v_eqS ?_ | with_reducible refine v_neS ?_ | with_reducible refine v_eqI ?_ | with_reducible refine v_neI ?_ | with_reducible refine v_ltI ?_ | with_reducible refine v_leI ?_ | with_reducible refine v_gtI ?_ | with_reducible refine v_geI ?_ | with_reducible refine v_inS ?_ | with_reducible refine v_notIn ?_ | with_reducible refine v_itT ?_ | with_reducible refine v_wT ?_ | with_reducible refine v_wS ?_ | with_reducible refine v_zipT ?_ | with_reducible refine v_lenT ?_ | with_reducible refine v_tupT ?_ | with_reducible refine v_lstT ?_ | with_reducible refine v_intI ?_ | with_reducible refine v_intB ?_ | with_reducible refine v_absI ?_ | with_reducible refine v_strS ?_ | with_reducible refine v_okJ ?_ | ((with_reducible refine' v_mulI ?h0 ?_); (case h0 => exact rfl)) | ((with_reducible refine' v_modI ?h0 ?_); (case h0 => decide)) | ((with_reducible refine' v_divI ?h0 ?h1 ?_); (case h0 => decide); (case h1 => decide)) | ((with_reducible refine' v_powI ?h0 ?h1 ?h2 ?_); (case h0 => decide); (case h1 => decide); (case h2 => decide)) | ((with_reducible refine' v_inT ?h0 ?_); (case h0 => exact rfl)) | ((with_reducible refine' v_subT ?h0 ?_); (case h0 => exact rfl)) | ((with_reducible refine' v_subL ?h0 ?h1 ?_); (case h0 => walk_at "hp"); (case h1 => exact rfl)) | ((with_reducible refine' v_slcT ?h0 ?h1 ?_); (case h0 => exact rfl); (case h1 => exact rfl)) | ((with_reducible refine' v_slcL ?h0 ?h1 ?h2 ?_); (case h0 => walk_at "hp"); (case h1 => exact rfl); (case h2 => exact rfl)) | ((with_reducible refine' v_slcX ?h0 ?h1 ?_); (case h0 => exact rfl); (case h1 => exact rfl)) | ((with_reducible refine' v_rev ?h0 ?_); (case h0 => walk_at "hp")) | ((with_reducible refine' v_itL ?h0 ?_); (case h0 => walk_at "hp")) | ((with_reducible refine' v_att ?h0 ?h1 ?h2 ?_); (case h0 => walk_at "hp"); (case h1 => exact rfl); (case h2 => exact rfl)) | ((with_reducible refine' v_setF ?h0 ?h1 ?_); (case h0 => walk_at "hp"); (case h1 => exact rfl)) | ((with_reducible refine' v_wL ?h0 ?_); (case h0 => walk_at "hp")) | ((with_reducible refine' v_enm ?h0 ?_); (case h0 => walk_at "hp")) | ((with_reducible refine' v_zipL ?h0 ?h1 ?_); (case h0 => walk_at "hp"); (case h1 => walk_at "hp")) | ((with_reducible refine' v_lenL ?h0 ?_); (case h0 => walk_at "hp")) | ((with_reducible refine' v_tupL ?h0 ?_); (case h0 => walk_at "hp")) | ((with_reducible refine' v_lstL ?h0 ?_); (case h0 => walk_at "hp")) | ((with_reducible refine' v_okA ?h0 ?_); (case h0 => walk_at "hp")) | ((with_reducible refine' v_okE ?h0 ?_); (case h0 => walk_at "hp")) | ((with_reducible refine' v_okP ?h0 ?_); (case h0 => walk_at "hp")))
local macro_rules | `(tactic| walk_at "is") => `(tactic| refine ⟨_, _, by exact rfl, by exact rfl, ?_⟩)
local macro_rules | `(tactic| walk_at "ck") => `(tactic| ((with_reducible refine' w_callK ?h0 ?h1 ?_); (case h0 => exact rfl); (case h1 => exact rfl)))
local macro_rules | `(tactic| walk_at "br") => `(tactic| first | ((with_reducible refine br_t ?h0 ?_); (case h0 => exact rfl)) | ((with_reducible refine br_f ?h0 ?_); (case h0 => exact rfl)))
local macro_rules | `(tactic| walk_at "ge") => `(tactic| first | exact Ge.refl | assumption | exact Ge.new | (refine Ge.trans ?_ Ge.new; walk_at "ge") | (refine Ge.trans ?_ (by assumption); walk_at "ge"))
local macro_rules | `(tactic| walk_at "go") => `(tactic| repeat (first | walk_at "ex" | walk_at "sx" | walk_at "vx" | with_reducible refine ⟨_, rfl, ?_⟩ | walk_at "br" | walk_at "ck" | ((with_reducible refine fit_and ?h0 ?_); (case h0 => walk_at "lb")) | ((with_reducible refine len_and ?h0 ?_); (case h0 => exact rfl)) | ((with_reducible refine v_fmtS ?h0 ?_); (case h0 => walk_at "lb"))))
local macro_rules | `(tactic| walk_at "nm") => `(tactic| (refine sp_is_name (by omega) (by walk_at "lb") fun _ _ => ?_; rw [show isNm _ = true by assumption]; walk_at "go"; refine sp_need (by omega) ?_; walk_at "go"))
local macro_rules | `(tactic| walk_at "su") => `(tactic| (refine x_sup (fs := []) rfl rfl (by walk_at "hp") ?_; walk_at "go"))
local macro_rules | `(tactic| walk_at "up") => `(tactic| first | assumption | (refine' Upd.trans ?_ (Upd.put (by walk_at "hp")); walk_at "up"))
local macro_rules | `(tactic| walk_at "ri") => `(tactic| (refine sp_Row_init (by omega) (by walk_at "hp") rfl (.inr ⟨_, rfl, by walk_at "hp"⟩) (.inl rfl) (.inl rfl) fun _ u => ?_; have e1 := u.at_; walk_at "go"))
local macro_rules | `(tactic| walk_at "fi") => `(tactic| exact h _ (.up (by walk_at "up") (by walk_at "ge")) (by walk_at "hp"))
theorem nm_len {x : Str} (h : isNm x = true) : x.length ≤ 4 := by
  unfold isNm at h
  obtain ⟨_, h⟩ := b2 h
  obtain ⟨h, _⟩ := b2 h
  exact of_decide_eq_true h
theorem nm_ok {x : Str} (h : isNm x = true) : okS x = true := by
  unfold isNm at h
  obtain ⟨_, h⟩ := b2 h
  obtain ⟨_, h⟩ := b2 h
  obtain ⟨_, h⟩ := b2 h
  unfold okS
  rw [List.all_eq_true] at h ⊢
  intro c hc
  have z := of_decide_eq_true (h c hc)
  have : ∀ d ∈ s_26_abcdefghijklmnopqrst.cps.toList, d < 1114112 := by decide +kernel
  exact decide_eq_true (this c z)
variable {n : Nat} {C : Hc} {Q : W → Hc → Prop} {E : Xn → Hc → Prop} {a : Nat} {x y z : Str}
theorem sp_need' (hn : 1 ≤ n) {b : Bool} {w : W} (hb : b = true) (h : Q .non C) : wpM (callF G n k_need [.bl b, w]) C Q E := by subst hb; exact sp_need hn h
def lNew (x : Str) : Str := Str.empty ++ x ++ s__20_3d_20new
def fNew (x : Str) : List (Nat × W) := putW n_target (.str x) (rowF [] [.str (lNew x)] [] [])
theorem sp_New_init (hn : 2 ≤ n) (ha : C.get a = some (.ins c_New [])) (hx : isNm x = true) (h : ∀ C', GeX C a C' → C'.get a = some (.ins c_New (fNew x)) → Q .non C') : wpM (callF G n k_New___init__ [.ref a, .str x]) C Q E := by
  have lx := nm_len hx
  match n, hn with
  | n + 1, hn =>
    refine (w_callF (fd := f_New___init__) rfl rfl rfl).mpr ?_
    delta f_New___init__
    dsimp only
    walk_at "go"
    walk_at "nm"
    walk_at "su"
    refine sp_Row_init (by omega) (by walk_at "hp") rfl (.inr ⟨_, rfl, by walk_at "hp"⟩) (.inl rfl) (.inl rfl) fun C' u => ?_
    have e1 := u.at_
    walk_at "go"
    exact h _ (.of (by walk_at "ge") (u.trans (.put (u.at_)))) (put_self (u.at_))
def kindsL : List W := [.str s_local, .str s_global, .str s_weak]
def lHold (x : Str) (z : Str) (y : Str) : Str := Str.empty ++ x ++ s__20_3d_20 ++ z ++ s__20 ++ y
def fHold (x : Str) (z : Str) (y : Str) : List (Nat × W) := putW n_source (.str y) (putW n_kind (.str z) (putW n_target (.str x) (rowF [] [.str (lHold x z y)] [] [])))
theorem sp_Hold_init (hn : 2 ≤ n) (ha : C.get a = some (.ins c_Hold [])) (hx : isNm x = true) (hz : inV (.str z) (kindsL.map toV) = true) (lz : z.length ≤ 6) (hy : isNm y = true) (h : ∀ C', GeX C a C' → C'.get a = some (.ins c_Hold (fHold x z y)) → Q .non C') : wpM (callF G n k_Hold___init__ [.ref a, .str x, .str z, .str y]) C Q E := by
  have lx := nm_len hx
  have ly := nm_len hy
  match n, hn with
  | n + 1, hn =>
    refine (w_callF (fd := f_Hold___init__) rfl rfl rfl).mpr ?_
    delta f_Hold___init__
    dsimp only
    walk_at "go"
    walk_at "nm"
    walk_at "is"
    walk_at "go"
    refine sp_need' (by omega) hz ?_
    walk_at "go"
    walk_at "nm"
    walk_at "su"
    refine sp_Row_init (by omega) (by walk_at "hp") rfl (.inr ⟨_, rfl, by walk_at "hp"⟩) (.inl rfl) (.inl rfl) fun C' u => ?_
    have e1 := u.at_
    walk_at "go"
    exact h _ (.of (by walk_at "ge") (((u.trans (.put (u.at_))).trans (.put (put_self (u.at_)))).trans (.put (put_self (put_self (u.at_)))))) (put_self (put_self (put_self (u.at_))))
def lCopy (x : Str) (y : Str) : Str := Str.empty ++ x ++ s__20_3d_20 ++ y
def fCopy (x : Str) (y : Str) : List (Nat × W) := putW n_source (.str y) (putW n_target (.str x) (rowF [] [.str (lCopy x y)] [] []))
theorem sp_Copy_init (hn : 2 ≤ n) (ha : C.get a = some (.ins c_Copy [])) (hx : isNm x = true) (hy : isNm y = true) (h : ∀ C', GeX C a C' → C'.get a = some (.ins c_Copy (fCopy x y)) → Q .non C') : wpM (callF G n k_Copy___init__ [.ref a, .str x, .str y]) C Q E := by
  have lx := nm_len hx
  have ly := nm_len hy
  match n, hn with
  | n + 1, hn =>
    refine (w_callF (fd := f_Copy___init__) rfl rfl rfl).mpr ?_
    delta f_Copy___init__
    dsimp only
    walk_at "go"
    walk_at "nm"
    walk_at "nm"
    walk_at "su"
    refine sp_Row_init (by omega) (by walk_at "hp") rfl (.inr ⟨_, rfl, by walk_at "hp"⟩) (.inl rfl) (.inl rfl) fun C' u => ?_
    have e1 := u.at_
    walk_at "go"
    exact h _ (.of (by walk_at "ge") ((u.trans (.put (u.at_))).trans (.put (put_self (u.at_))))) (put_self (put_self (u.at_)))
def lClear (x : Str) : Str := Str.empty ++ x ++ s__20_3d_20none
def fClear (x : Str) : List (Nat × W) := putW n_target (.str x) (rowF [] [.str (lClear x)] [] [])
theorem sp_Clear_init (hn : 2 ≤ n) (ha : C.get a = some (.ins c_Clear [])) (hx : isNm x = true) (h : ∀ C', GeX C a C' → C'.get a = some (.ins c_Clear (fClear x)) → Q .non C') : wpM (callF G n k_Clear___init__ [.ref a, .str x]) C Q E := by
  have lx := nm_len hx
  match n, hn with
  | n + 1, hn =>
    refine (w_callF (fd := f_Clear___init__) rfl rfl rfl).mpr ?_
    delta f_Clear___init__
    dsimp only
    walk_at "go"
    walk_at "nm"
    walk_at "su"
    refine sp_Row_init (by omega) (by walk_at "hp") rfl (.inr ⟨_, rfl, by walk_at "hp"⟩) (.inl rfl) (.inl rfl) fun C' u => ?_
    have e1 := u.at_
    walk_at "go"
    exact h _ (.of (by walk_at "ge") (u.trans (.put (u.at_)))) (put_self (u.at_))
def lUse (x : Str) : Str := Str.empty ++ s_use_20 ++ x
def fUse (x : Str) : List (Nat × W) := putW n_name (.str x) (rowF [] [.str (lUse x)] [] [])
theorem sp_Use_init (hn : 2 ≤ n) (ha : C.get a = some (.ins c_Use [])) (hx : isNm x = true) (h : ∀ C', GeX C a C' → C'.get a = some (.ins c_Use (fUse x)) → Q .non C') : wpM (callF G n k_Use___init__ [.ref a, .str x]) C Q E := by
  have lx := nm_len hx
  match n, hn with
  | n + 1, hn =>
    refine (w_callF (fd := f_Use___init__) rfl rfl rfl).mpr ?_
    delta f_Use___init__
    dsimp only
    walk_at "go"
    walk_at "nm"
    walk_at "su"
    refine sp_Row_init (by omega) (by walk_at "hp") rfl (.inr ⟨_, rfl, by walk_at "hp"⟩) (.inl rfl) (.inl rfl) fun C' u => ?_
    have e1 := u.at_
    walk_at "go"
    exact h _ (.of (by walk_at "ge") (u.trans (.put (u.at_)))) (put_self (u.at_))
def lFree (x : Str) : Str := Str.empty ++ s_free_20 ++ x
def fFree (x : Str) : List (Nat × W) := putW n_name (.str x) (rowF [] [.str (lFree x)] [] [])
theorem sp_Free_init (hn : 2 ≤ n) (ha : C.get a = some (.ins c_Free [])) (hx : isNm x = true) (h : ∀ C', GeX C a C' → C'.get a = some (.ins c_Free (fFree x)) → Q .non C') : wpM (callF G n k_Free___init__ [.ref a, .str x]) C Q E := by
  have lx := nm_len hx
  match n, hn with
  | n + 1, hn =>
    refine (w_callF (fd := f_Free___init__) rfl rfl rfl).mpr ?_
    delta f_Free___init__
    dsimp only
    walk_at "go"
    walk_at "nm"
    walk_at "su"
    refine sp_Row_init (by omega) (by walk_at "hp") rfl (.inr ⟨_, rfl, by walk_at "hp"⟩) (.inl rfl) (.inl rfl) fun C' u => ?_
    have e1 := u.at_
    walk_at "go"
    exact h _ (.of (by walk_at "ge") (u.trans (.put (u.at_)))) (put_self (u.at_))
def lBack (x : Str) : Str := Str.empty ++ s_back_20 ++ x
def fBack (x : Str) : List (Nat × W) := putW n_name (.str x) (rowF [] [.str (lBack x)] [] [])
theorem sp_Back_init (hn : 2 ≤ n) (ha : C.get a = some (.ins c_Back [])) (hx : isNm x = true) (h : ∀ C', GeX C a C' → C'.get a = some (.ins c_Back (fBack x)) → Q .non C') : wpM (callF G n k_Back___init__ [.ref a, .str x]) C Q E := by
  have lx := nm_len hx
  match n, hn with
  | n + 1, hn =>
    refine (w_callF (fd := f_Back___init__) rfl rfl rfl).mpr ?_
    delta f_Back___init__
    dsimp only
    walk_at "go"
    walk_at "nm"
    walk_at "su"
    refine sp_Row_init (by omega) (by walk_at "hp") rfl (.inr ⟨_, rfl, by walk_at "hp"⟩) (.inl rfl) (.inl rfl) fun C' u => ?_
    have e1 := u.at_
    walk_at "go"
    exact h _ (.of (by walk_at "ge") (u.trans (.put (u.at_)))) (put_self (u.at_))
def fThrow : List (Nat × W) := rowF [] [.str s_throw] [] []
theorem sp_Throw_init (hn : 2 ≤ n) (ha : C.get a = some (.ins c_Throw [])) (h : ∀ C', GeX C a C' → C'.get a = some (.ins c_Throw fThrow) → Q .non C') : wpM (callF G n k_Throw___init__ [.ref a]) C Q E := by
  match n, hn with
  | n + 1, hn =>
    refine (w_callF (fd := f_Throw___init__) rfl rfl rfl).mpr ?_
    delta f_Throw___init__
    dsimp only
    walk_at "go"
    walk_at "su"
    refine sp_Row_init (by omega) (by walk_at "hp") rfl (.inr ⟨_, rfl, by walk_at "hp"⟩) (.inl rfl) (.inl rfl) fun C' u => ?_
    have e1 := u.at_
    walk_at "go"
    exact h _ (.of (by walk_at "ge") u) (u.at_)
def lReturn (x : Str) : Str := Str.empty ++ s_return_20 ++ x
def fReturn (x : Str) : List (Nat × W) := putW n_name (.str x) (rowF [] [.str (lReturn x)] [] [])
def fReturn0 : List (Nat × W) := putW n_name .non (rowF [] [.str s_return] [] [])
theorem sp_Return_init (hn : 2 ≤ n) (ha : C.get a = some (.ins c_Return [])) (hx : isNm x = true) (h : ∀ C', GeX C a C' → C'.get a = some (.ins c_Return (fReturn x)) → Q .non C') : wpM (callF G n k_Return___init__ [.ref a, .str x]) C Q E := by
  have lx := nm_len hx
  match n, hn with
  | n + 1, hn =>
    refine (w_callF (fd := f_Return___init__) rfl rfl rfl).mpr ?_
    delta f_Return___init__
    dsimp only
    walk_at "go"
    walk_at "nm"
    walk_at "su"
    refine sp_Row_init (by omega) (by walk_at "hp") rfl (.inr ⟨_, rfl, by walk_at "hp"⟩) (.inl rfl) (.inl rfl) fun C' u => ?_
    have e1 := u.at_
    walk_at "go"
    exact h _ (.of (by walk_at "ge") (u.trans (.put (u.at_)))) (put_self (u.at_))
theorem sp_Return0_init (hn : 2 ≤ n) (ha : C.get a = some (.ins c_Return [])) (h : ∀ C', GeX C a C' → C'.get a = some (.ins c_Return fReturn0) → Q .non C') : wpM (callF G n k_Return___init__ [.ref a, .non]) C Q E := by
  match n, hn with
  | n + 1, hn =>
    refine (w_callF (fd := f_Return___init__) rfl rfl rfl).mpr ?_
    delta f_Return___init__
    dsimp only
    walk_at "go"
    refine sp_need (by omega) ?_
    walk_at "go"
    walk_at "su"
    refine sp_Row_init (by omega) (by walk_at "hp") rfl (.inr ⟨_, rfl, by walk_at "hp"⟩) (.inl rfl) (.inl rfl) fun C' u => ?_
    have e1 := u.at_
    walk_at "go"
    exact h _ (.of (by walk_at "ge") (u.trans (.put (u.at_)))) (put_self (u.at_))
end K05
set_option Elab.async false
set_option linter.all false
set_option maxRecDepth 100000
set_option maxHeartbeats 1000000
namespace BL
open PySem L2
theorem join_eq (a : Str) (l : List Str) : Txt.join a l = Str.join a l := StrLaws.glued_eq_join a l
theorem okS_join {a : Str} (ha : okS a = true) : ∀ {l : List Str}, (∀ x ∈ l, okS x = true) → okS (Str.join a l) = true
  | [], _ => rfl
  | [x], h => h x List.mem_cons_self
  | x :: y :: r, h => okS_app (okS_app (h x List.mem_cons_self) ha) (okS_join ha (l := y :: r) fun z hz => h z (List.mem_cons_of_mem _ hz))
theorem Items.upd {C C1 : Hc} {a c : Nat} {fs : List (Nat × W)} {o : O} {z : W} {zs : List W} (h : Items C z zs) (ha : C.get a = some (.ins c fs)) (u : Upd C a o C1) : Items C1 z zs := by
  rcases h with h | ⟨b, h, e⟩
  · exact .inl h
  · refine .inr ⟨b, h, u.old ?_ e⟩
    intro eb
    subst eb
    rw [ha] at e
    cases e
theorem Items.walk' {C C1 : Hc} {w : W} {ws : List W} {QI : It' → Hc → Prop} {E : Xn → Hc → Prop} (h : Items C w ws) (g : Ge C C1) (k : ∀ J, Walks J ws C → QI J C1) : wpM (walkW w) C1 QI E := by
  rcases h with rfl | ⟨a, rfl, e⟩
  · exact v_wT (k _ walks_seq)
  · exact v_wL (g.at e) (k _ (walks_lst e))
theorem paired_len {α β : Type} {R : α → β → Prop} : ∀ {l : List α} {m : List β}, Paired R l m → l.length = m.length
  | _, _, .nil => rfl
  | _, _, .cons _ t => by rw [List.length_cons, List.length_cons, paired_len t]
theorem paired_at {α β : Type} {R : α → β → Prop} : ∀ {l : List α} {m : List β} {i : Nat} {a : α}, Paired R l m → l[i]? = some a → ∃ b, m[i]? = some b ∧ R a b
  | _, _, _, _, .nil, h => by simp at h
  | _, _, 0, _, .cons r _, h => by simp at h; subst h; exact ⟨_, rfl, r⟩
  | _, _, i + 1, _, .cons _ t, h => by
    obtain ⟨b, h1, h2⟩ := paired_at (i := i) t (by simpa using h)
    exact ⟨b, by simpa using h1, h2⟩
theorem paired_mono {α β : Type} {R S : α → β → Prop} (h : ∀ a b, R a b → S a b) : ∀ {l : List α} {m : List β}, Paired R l m → Paired S l m
  | _, _, .nil => .nil
  | _, _, .cons r t => .cons (h _ _ r) (paired_mono h t)
theorem paired_mem {α β : Type} {R : α → β → Prop} : ∀ {l : List α} {m : List β} {a : α}, Paired R l m → a ∈ l → ∃ b, b ∈ m ∧ R a b
  | _, _, _, .nil, h => by cases h
  | _, _, _, .cons r t, h => by
    rcases List.mem_cons.mp h with rfl | h
    · exact ⟨_, List.mem_cons_self, r⟩
    · obtain ⟨b, h1, h2⟩ := paired_mem t h
      exact ⟨b, List.mem_cons_of_mem _ h1, h2⟩
theorem len_le_wt : ∀ ls : List Str, ls.length ≤ wt ls
  | [] => Nat.le_refl _
  | x :: ls => by
    rw [wt_cons, List.length_cons]
    have := len_le_wt ls
    omega
theorem wt_flat_le {lss : List (List Str)} {i : Nat} : wt (lss.take i).flatten ≤ wt lss.flatten := by
  have e : lss = lss.take i ++ lss.drop i := (List.take_append_drop i lss).symm
  have : lss.flatten = (lss.take i).flatten ++ (lss.drop i).flatten := by
    conv => lhs; rw [e]
    rw [List.flatten_append]
  rw [this, wt_app]
  omega
end BL
namespace K05
open PySem L2 BL
local macro_rules | `(tactic| walk_at "lb") => `(tactic| first | (show _ ≤ 16777216; omega) | (show _ ≤ 16777216; simp only [len_app, empty_len, List.length_cons, List.length_nil, List.length_append, List.length_map, ln__20_3d_20new, ln__20_3d_20, ln__20, ln__20_3d_20none, ln_use_20, ln_free_20, ln_back_20, ln__20_3d_20do_20, ln_if_20, ln_return_20, ln_return, ln_throw, ln_any, ln_frame, ln_end, ln_while_20any, ln_try, ln_catch, ln_else, ln_local, ln_global, ln_weak]; omega))
local macro_rules | `(tactic| walk_at "hp") => `(tactic| first | assumption | exact new_self | (refine new_old ?_; walk_at "hp") | (refine Ge.at (by assumption) ?_; walk_at "hp") | exact put_self (by walk_at "hp") | (refine (put_ne (by walk_at "hp") (by omega)).trans ?_; walk_at "hp"))
local macro_rules | `(tactic| walk_at "ex") => `(tactic| first | ((with_reducible refine' e_var ?h0 ?_); (case h0 => exact rfl)) | with_reducible refine e_cst ?_ | with_reducible refine e_tup ?_ | with_reducible refine e_lst ?_ | with_reducible refine e_bin ?_ | with_reducible refine e_cmp ?_ | with_reducible refine e_cmp2 ?_ | with_reducible refine e_isN ?_ | with_reducible refine e_not ?_ | with_reducible refine e_neg ?_ | with_reducible refine e_ite ?_ | with_reducible refine e_call ?_ | with_reducible refine e_callk ?_ | with_reducible refine e_mk ?_ | with_reducible refine e_mkk ?_ | with_reducible refine e_blt ?_ | with_reducible refine e_isi ?_ | with_reducible refine e_meth ?_ | with_reducible refine e_bm ?_ | with_reducible refine e_bm0 ?_ | with_reducible refine e_att ?_ | with_reducible refine e_sub ?_ | with_reducible refine e_slc ?_ | with_reducible refine e_rev ?_ | with_reducible refine e_comp ?_ | with_reducible refine e_fst ?_ | with_reducible refine e_fmt ?_ | with_reducible refine e_boo ?_ | with_reducible refine l_nil ?_ | with_reducible refine l_star ?_ | with_reducible refine j_nil ?_ | with_reducible refine j_cons ?_ | with_reducible refine b_one ?_ | with_reducible refine b_and ?_ | with_reducible refine b_or ?_ | with_reducible refine bt_one ?_ | with_reducible refine bt_and ?_ | with_reducible refine bt_or ?_ | with_reducible refine t_boo ?_ | with_reducible refine t_not ?_ | with_reducible refine t_ite ?_ | with_reducible refine tru ?_ | with_reducible refine i_rng1 ?_ | with_reducible refine i_enm ?_ | with_reducible refine i_zip ?_ | with_reducible refine ts_nil ?_ | with_reducible refine ts_one ?_ | ((with_reducible refine' e_glo ?h0 ?_); (case h0 => exact rfl)) | ((with_reducible refine' e_absent ?h0 ?_); (case h0 => exact rfl)) | ((with_reducible refine' e_part ?h0 ?_); (case h0 => exact rfl)) | ((with_reducible refine' l_cons ?h0 ?_); (case h0 => exact rfl)) | ((with_reducible refine' t_val ?h0 ?_); (case h0 => exact rfl)) | ((with_reducible refine' i_val ?h0 ?_); (case h0 => exact rfl)))
local macro_rules | `(tactic| walk_at "sx") => `(tactic| first | with_reducible refine q_nx ?_ | with_reducible refine q_rt ?_ | with_reducible refine q_br ?_ | with_reducible refine q_ct ?_ | with_reducible refine q_exc ?_ | with_reducible refine q_end ?_ | with_reducible refine q_endN ?_ | with_reducible refine q_endX ?_ | with_reducible refine q_tnx ?_ | with_reducible refine q_tct ?_ | with_reducible refine q_tbr ?_ | with_reducible refine q_trt ?_ | with_reducible refine q_tex ?_ | with_reducible refine x_cons ?_ | with_reducible refine x_nil ?_ | with_reducible refine x_asgN ?_ | with_reducible refine x_asgT ?_ | with_reducible refine x_par ?_ | with_reducible refine x_fld ?_ | with_reducible refine x_setI ?_ | with_reducible refine x_expr ?_ | with_reducible refine x_ife ?_ | with_reducible refine x_for ?_ | with_reducible refine x_whl ?_ | with_reducible refine x_ret ?_ | with_reducible refine x_retN ?_ | with_reducible refine x_cont ?_ | with_reducible refine x_brk ?_ | with_reducible refine x_pass ?_)
local macro_rules | `(tactic| walk_at "vx") => `(tactic| first | with_reducible refine v_addI ?_ | with_reducible refine v_subI ?_ | with_reducible refine v_eqS ?_ | with_reducible refine v_neS ?_ | with_reducible refine v_eqI ?_ | with_reducible refine v_neI ?_ | with_reducible refine v_ltI ?_ | with_reducible refine v_leI ?_ | with_reducible refine v_gtI ?_ | with_reducible refine v_geI ?_ | with_reducible refine v_inS ?_ | with_reducible refine v_notIn ?_ | with_reducible refine v_itT ?_ | with_reducible refine v_wT ?_ | with_reducible refine v_wS ?_ | with_reducible refine v_zipT ?_ | with_reducible refine v_lenT ?_ | with_reducible refine v_tupT ?_ | with_reducible refine v_lstT ?_ | with_reducible refine v_intI ?_ | with_reducible refine v_intB ?_ | with_reducible refine v_absI ?_ | with_reducible refine v_strS ?_ | with_reducible refine v_okJ ?_ | ((with_reducible refine' v_mulI ?h0 ?_); (case h0 => exact rfl)) | ((with_reducible refine' v_modI ?h0 ?_); (case h0 => decide)) | ((with_reducible refine' v_divI ?h0 ?h1 ?_); (case h0 => decide); (case h1 => decide)) | ((with_reducible refine' v_powI ?h0 ?h1 ?h2 ?_); (case h0 => decide); (case h1 => decide); (case h2 => decide)) | ((with_reducible refine' v_inT ?h0 ?_); (case h0 => exact rfl)) | ((with_reducible refine' v_subT ?h0 ?_); (case h0 => exact rfl)) | ((with_reducible refine' v_subL ?h0 ?h1 ?_); (case h0 => walk_at "hp"); (case h1 => exact rfl)) | ((with_reducible refine' v_slcT ?h0 ?h1 ?_); (case h0 => exact rfl); (case h1 => exact rfl)) | ((with_reducible refine' v_slcL ?h0 ?h1 ?h2 ?_); (case h0 => walk_at "hp"); (case h1 => exact rfl); (case h2 => exact rfl)) | ((with_reducible refine' v_slcX ?h0 ?h1 ?_); (case h0 => exact rfl); (case h1 => exact rfl)) | ((with_reducible refine' v_rev ?h0 ?_); (case h0 => walk_at "hp")) | ((with_reducible refine' v_itL ?h0 ?_); (case h0 => walk_at "hp")) | ((with_reducible refine' v_att ?h0 ?h1 ?h2 ?_); (case h0 => walk_at "hp"); (case h1 => exact rfl); (case h2 => exact rfl)) | ((with_reducible refine' v_setF ?h0 ?h1 ?_); (case h0 => walk_at "hp"); (case h1 => exact rfl)) | ((with_reducible refine' v_wL ?h0 ?_); (case h0 => walk_at "hp")) | ((with_reducible refine' v_enm ?h0 ?_); (case h0 => walk_at "hp")) | ((with_reducible refine' v_zipL ?h0 ?h1 ?_); (case h0 => walk_at "hp"); (case h1 => walk_at "hp")) | ((with_reducible refine' v_lenL ?h0 ?_); (case h0 => walk_at "hp")) | ((with_reducible refine' v_tupL ?h0 ?_); (case h0 => walk_at "hp")) | ((with_reducible refine' v_lstL ?h0 ?_); (case h0 => walk_at "hp")) | ((with_reducible refine' v_okA ?h0 ?_); (case h0 => walk_at "hp")) | ((with_reducible refine' v_okE ?h0 ?_); (case h0 => walk_at "hp")) | ((with_reducible refine' v_okP ?h0 ?_); (case h0 => walk_at "hp")))
local macro_rules | `(tactic| walk_at "is") => `(tactic| refine ⟨_, _, by exact rfl, by exact rfl, ?_⟩)
local macro_rules | `(tactic| walk_at "ck") => `(tactic| ((with_reducible refine' w_callK ?h0 ?h1 ?_); (case h0 => exact rfl); (case h1 => exact rfl)))
local macro_rules | `(tactic| walk_at "br") => `(tactic| first | ((with_reducible refine br_t ?h0 ?_); (case h0 => exact rfl)) | ((with_reducible refine br_f ?h0 ?_); (case h0 => exact rfl)))
local macro_rules | `(tactic| walk_at "ge") => `(tactic| first | exact Ge.refl | assumption | exact Ge.new | (refine Ge.trans ?_ Ge.new; walk_at "ge") | (refine Ge.trans ?_ (by assumption); walk_at "ge"))
local macro_rules | `(tactic| walk_at "go") => `(tactic| repeat (first | walk_at "ex" | walk_at "sx" | walk_at "vx" | with_reducible refine ⟨_, rfl, ?_⟩ | walk_at "br" | walk_at "ck" | ((with_reducible refine fit_and ?h0 ?_); (case h0 => walk_at "lb")) | ((with_reducible refine len_and ?h0 ?_); (case h0 => exact rfl)) | ((with_reducible refine v_fmtS ?h0 ?_); (case h0 => walk_at "lb"))))
local macro_rules | `(tactic| walk_at "nm") => `(tactic| (refine sp_is_name (by omega) (by walk_at "lb") fun _ _ => ?_; rw [show isNm _ = true by assumption]; walk_at "go"; refine sp_need (by omega) ?_; walk_at "go"))
local macro_rules | `(tactic| walk_at "su") => `(tactic| (refine x_sup (fs := []) rfl rfl (by walk_at "hp") ?_; walk_at "go"))
local macro_rules | `(tactic| walk_at "up") => `(tactic| first | assumption | (refine' Upd.trans ?_ (Upd.put (by walk_at "hp")); walk_at "up"))
local macro_rules | `(tactic| walk_at "ri") => `(tactic| (refine sp_Row_init (by omega) (by walk_at "hp") rfl (.inr ⟨_, rfl, by walk_at "hp"⟩) (.inl rfl) (.inl rfl) fun _ u => ?_; have e1 := u.at_; walk_at "go"))
variable {n : Nat} {C : Hc} {Q : W → Hc → Prop} {E : Xn → Hc → Prop} {a : Nat} {x y z : Str}
def RowL (C : Hc) (ws : List W) (lss : List (List Str)) : Prop := Paired (fun w ls => ∃ a c, w = .ref a ∧ IsRow C a c ls) ws lss
theorem RowL.ge {C C' : Hc} {ws : List W} {lss : List (List Str)} (h : RowL C ws lss) (g : Ge C C') : RowL C' ws lss := paired_mono (fun _ _ ⟨a, c, e, r⟩ => ⟨a, c, e, r.ge g⟩) h
theorem sp_are_rows (hn : 2 ≤ n) {w : W} {ws : List W} {lss : List (List Str)} (hi : Items C w ws) (hr : RowL C ws lss) (hl : ws.length < 1000000) (h : ∀ C', Ge C C' → Q (.bl true) C') : wpM (callF G n k_are_rows [w]) C Q E := by
  match n, hn with
  | n + 1, hn =>
    refine (w_callF (fd := f_are_rows) rfl rfl rfl).mpr ?_
    delta f_are_rows
    dsimp only
    walk_at "go"
    refine sp_is_sequence (by omega) hi ?_
    walk_at "go"
    refine hi.walk fun J hJ => ?_
    refine w_compR (ws := ws) (fun _ w y => y = .bl true) (fun _ h => h) (fun _ => true) hl hJ (fun w C1 hw g1 => ?_) (fun ys C1 g1 hp => ?_)
    · obtain ⟨ls, _, b, c, rfl, ir⟩ := paired_mem hr hw
      obtain ⟨d, e, _, _, ht, hf⟩ := rowC_ok ir.cl
      refine ⟨_, rfl, ?_⟩
      walk_at "go"
      refine ⟨.refl, rfl, fun _ => ?_⟩
      walk_at "go"
      exact ⟨_, true, (ir.ge g1).tag, by unfold isAny; rw [ht], .refl, rfl⟩
    · rw [filter_true] at hp
      have ey : ys = (ws.map fun _ => true).map W.bl := by
        clear h hr hl hJ hi g1 w
        induction hp with
        | nil => rfl
        | cons h1 h2 ih => rw [h1, ih]; rfl
      subst ey
      walk_at "go"
      refine v_all new_self (bools_of _) ?_
      have e : (ws.map fun _ => true).all id = true := by simp
      rw [e]
      exact h _ (g1.trans Ge.new)
theorem sp_lines_of (hn : 1 ≤ n) {w : W} {ws : List W} {lss : List (List Str)} (hi : Items C w ws) (hr : RowL C ws lss) (hl : ws.length < 1000000) (hb : wt lss.flatten ≤ 1000000) (h : ∀ C' b, Ge C C' → C'.get b = some (.lst (lss.flatten.map W.str)) → Q (.ref b) C') : wpM (callF G n k_lines_of [w]) C Q E := by
  match n, hn with
  | n + 1, hn =>
    refine (w_callF (fd := f_lines_of) rfl rfl rfl).mpr ?_
    delta f_lines_of
    dsimp only
    walk_at "go"
    refine hi.walk' Ge.new fun J hJ => ?_
    refine w_for (ws := ws) (fun i v1 C1 => ∃ y, v1 = [some w, some (.ref C.next), y] ∧ Ge C C1 ∧ C1.get C.next = some (.lst ((lss.take i).flatten.map W.str))) ⟨none, rfl, Ge.new, new_self⟩ hl (fun i v1 C1 hI => by obtain ⟨y, _, g, _⟩ := hI; exact hJ C1 g i) (fun i r v1 C1 e hI => ?_) (fun v1 C1 hI => ?_)
    · obtain ⟨y, rfl, g1, hf⟩ := hI
      obtain ⟨ls, e2, b, c, rfl, ir⟩ := paired_at hr e
      have ir := ir.ge g1
      obtain ⟨fs, b1, b2⟩ := ir.ex
      obtain ⟨d, _, _, _, _, hfld⟩ := rowC_ok ir.cl
      refine ⟨_, rfl, ?_⟩
      walk_at "go"
      refine v_att b1 hfld b2 ?_
      walk_at "go"
      have et : (lss.take (i + 1)).flatten = (lss.take i).flatten ++ ls := by
        rw [List.take_add_one, e2, Option.toList, List.flatten_append]
        simp
      refine v_extT hf ?_ ?_
      · have h1 := wt_flat_le (lss := lss) (i := i + 1)
        rw [et, wt_app] at h1
        have h2 := len_le_wt (lss.take i).flatten
        have h3 := len_le_wt ls
        rw [List.length_map, List.length_map]
        show _ ≤ 16777216
        omega
      · walk_at "go"
        refine ⟨g1.put (Nat.le_refl _) (Hc.lt_of_get hf), ?_⟩
        rw [et, List.map_append]
        exact put_self hf
    · obtain ⟨y, rfl, g1, hf⟩ := hI
      have el : ws.length = lss.length := paired_len hr
      rw [el, List.take_length] at hf
      walk_at "go"
      exact h _ _ g1 hf
def lDo (x y : Str) (xs : List Str) : Str := Txt.join s__20 ((Str.empty ++ x ++ s__20_3d_20do_20 ++ y) :: xs)
def fDo (x y : Str) (xs : List Str) : List (Nat × W) := putW n_given (.tup (xs.map W.str)) (putW n_function (.str y) (putW n_target (.str x) (rowF [] [.str (lDo x y xs)] [] [])))
theorem sp_Do_init (hn : 3 ≤ n) (ha : C.get a = some (.ins c_Do [])) (hx : isNm x = true) (hy : isNm y = true) {w : W} {xs : List Str} (hi : Items C w (xs.map W.str)) (hl : xs.length ≤ 1000) (hxs : ∀ x ∈ xs, isNm x = true)
    (h : ∀ C', GeX C a C' → C'.get a = some (.ins c_Do (fDo x y xs)) → Q .non C') : wpM (callF G n k_Do___init__ [.ref a, .str x, .str y, w]) C Q E := by
  have lx := nm_len hx
  have ly := nm_len hy
  have hall : xs.all isNm = true := List.all_eq_true.mpr hxs
  have hw : (xs.map fun y => y.length + 1).sum ≤ 5000 := by
    have : ∀ l : List Str, (∀ x ∈ l, isNm x = true) → (l.map fun y => y.length + 1).sum ≤ 5 * l.length := by
      intro l hl
      induction l with
      | nil => simp
      | cons z l ih =>
        have h1 := nm_len (hl z List.mem_cons_self)
        have h2 := ih fun x hx => hl x (List.mem_cons_of_mem _ hx)
        rw [List.map_cons, List.sum_cons, List.length_cons]
        omega
    have := this xs hxs
    omega
  match n, hn with
  | n + 1, hn =>
    refine (w_callF (fd := f_Do___init__) rfl rfl rfl).mpr ?_
    delta f_Do___init__
    dsimp only
    walk_at "go"
    refine sp_is_name (by omega) (by walk_at "lb") fun C1 g1 => ?_
    rw [hx]
    walk_at "go"
    refine sp_need (by omega) ?_
    walk_at "go"
    refine sp_is_name (by omega) (by walk_at "lb") fun C2 g2 => ?_
    rw [hy]
    walk_at "go"
    refine sp_need (by omega) ?_
    walk_at "go"
    refine sp_are_names (by omega) (hi.ge (g1.trans g2)) (by omega) (fun x hx => by have := nm_len (hxs x hx); show _ ≤ 16777216; omega) fun C3 g3 => ?_
    rw [hall]
    walk_at "go"
    refine sp_need (by omega) ?_
    walk_at "go"
    walk_at "su"
    refine (hi.ge ((g1.trans g2).trans g3)).star ?_
    walk_at "go"
    rw [List.append_nil]
    refine v_joinL (zs := (Str.empty ++ x ++ s__20_3d_20do_20 ++ y) :: xs) new_self (by
      show strsW (W.str _ :: xs.map W.str) = _
      unfold strsW
      rw [strs_of]
      rfl) (Nat.ble_eq_true_of_le (by
      rw [List.map_cons, List.sum_cons]
      show _ + (xs.map fun y => y.length + 1).sum ≤ 16777216
      simp only [len_app, empty_len, ln__20_3d_20do_20, ln__20]
      omega)) ?_
    walk_at "go"
    refine sp_Row_init (by omega) (by walk_at "hp") rfl (.inr ⟨_, rfl, by walk_at "hp"⟩) (.inl rfl) (.inl rfl) fun C' u => ?_
    have e1 := u.at_
    walk_at "go"
    have hi2 := (((hi.ge ((g1.trans g2).trans g3)).ge Ge.new).ge Ge.new).upd (by walk_at "hp") u
    refine Items.tuple ((hi2.upd u.at_ (Upd.put u.at_)).upd (put_self u.at_) (Upd.put (put_self u.at_))) ?_
    walk_at "go"
    exact h _ (.of (by walk_at "ge") (((u.trans (.put u.at_)).trans (.put (put_self u.at_))).trans (.put (put_self (put_self u.at_))))) (put_self (put_self (put_self u.at_)))
end K05
set_option Elab.async false
set_option linter.all false
set_option maxRecDepth 100000
set_option maxHeartbeats 1000000
namespace K05
open PySem L2 BL
local macro_rules | `(tactic| walk_at "lb") => `(tactic| first | (show _ ≤ 16777216; omega) | (show _ ≤ 16777216; simp only [len_app, empty_len, List.length_cons, List.length_nil, List.length_append, List.length_map, ln__20_3d_20new, ln__20_3d_20, ln__20, ln__20_3d_20none, ln_use_20, ln_free_20, ln_back_20, ln__20_3d_20do_20, ln_if_20, ln_return_20, ln_return, ln_throw, ln_any, ln_frame, ln_end, ln_while_20any, ln_try, ln_catch, ln_else, ln_local, ln_global, ln_weak]; omega))
local macro_rules | `(tactic| walk_at "hp") => `(tactic| first | assumption | exact new_self | (refine new_old ?_; walk_at "hp") | (refine Ge.at (by assumption) ?_; walk_at "hp") | exact put_self (by walk_at "hp") | (refine (put_ne (by walk_at "hp") (by omega)).trans ?_; walk_at "hp"))
local macro_rules | `(tactic| walk_at "ex") => `(tactic| first | ((with_reducible refine' e_var ?h0 ?_); (case h0 => exact rfl)) | with_reducible refine e_cst ?_ | with_reducible refine e_tup ?_ | with_reducible refine e_lst ?_ | with_reducible refine e_bin ?_ | with_reducible refine e_cmp ?_ | with_reducible refine e_cmp2 ?_ | with_reducible refine e_isN ?_ | with_reducible refine e_not ?_ | with_reducible refine e_neg ?_ | with_reducible refine e_ite ?_ | with_reducible refine e_call ?_ | with_reducible refine e_callk ?_ | with_reducible refine e_mk ?_ | with_reducible refine e_mkk ?_ | with_reducible refine e_blt ?_ | with_reducible refine e_isi ?_ | with_reducible refine e_meth ?_ | with_reducible refine e_bm ?_ | with_reducible refine e_bm0 ?_ | with_reducible refine e_att ?_ | with_reducible refine e_sub ?_ | with_reducible refine e_slc ?_ | with_reducible refine e_rev ?_ | with_reducible refine e_comp ?_ | with_reducible refine e_fst ?_ | with_reducible refine e_fmt ?_ | with_reducible refine e_boo ?_ | with_reducible refine l_nil ?_ | with_reducible refine l_star ?_ | with_reducible refine j_nil ?_ | with_reducible refine j_cons ?_ | with_reducible refine b_one ?_ | with_reducible refine b_and ?_ | with_reducible refine b_or ?_ | with_reducible refine bt_one ?_ | with_reducible refine bt_and ?_ | with_reducible refine bt_or ?_ | with_reducible refine t_boo ?_ | with_reducible refine t_not ?_ | with_reducible refine t_ite ?_ | with_reducible refine tru ?_ | with_reducible refine i_rng1 ?_ | with_reducible refine i_enm ?_ | with_reducible refine i_zip ?_ | with_reducible refine ts_nil ?_ | with_reducible refine ts_one ?_ | ((with_reducible refine' e_glo ?h0 ?_); (case h0 => exact rfl)) | ((with_reducible refine' e_absent ?h0 ?_); (case h0 => exact rfl)) | ((with_reducible refine' e_part ?h0 ?_); (case h0 => exact rfl)) | ((with_reducible refine' l_cons ?h0 ?_); (case h0 => exact rfl)) | ((with_reducible refine' t_val ?h0 ?_); (case h0 => exact rfl)) | ((with_reducible refine' i_val ?h0 ?_); (case h0 => exact rfl)))
local macro_rules | `(tactic| walk_at "sx") => `(tactic| first | with_reducible refine q_nx ?_ | with_reducible refine q_rt ?_ | with_reducible refine q_br ?_ | with_reducible refine q_ct ?_ | with_reducible refine q_exc ?_ | with_reducible refine q_end ?_ | with_reducible refine q_endN ?_ | with_reducible refine q_endX ?_ | with_reducible refine q_tnx ?_ | with_reducible refine q_tct ?_ | with_reducible refine q_tbr ?_ | with_reducible refine q_trt ?_ | with_reducible refine q_tex ?_ | with_reducible refine x_cons ?_ | with_reducible refine x_nil ?_ | with_reducible refine x_asgN ?_ | with_reducible refine x_asgT ?_ | with_reducible refine x_par ?_ | with_reducible refine x_fld ?_ | with_reducible refine x_setI ?_ | with_reducible refine x_expr ?_ | with_reducible refine x_ife ?_ | with_reducible refine x_for ?_ | with_reducible refine x_whl ?_ | with_reducible refine x_ret ?_ | with_reducible refine x_retN ?_ | with_reducible refine x_cont ?_ | with_reducible refine x_brk ?_ | with_reducible refine x_pass ?_)
local macro_rules | `(tactic| walk_at "vx") => `(tactic| first | with_reducible refine v_addI ?_ | with_reducible refine v_subI ?_ | with_reducible refine v_eqS ?_ | with_reducible refine v_neS ?_ | with_reducible refine v_eqI ?_ | with_reducible refine v_neI ?_ | with_reducible refine v_ltI ?_ | with_reducible refine v_leI ?_ | with_reducible refine v_gtI ?_ | with_reducible refine v_geI ?_ | with_reducible refine v_inS ?_ | with_reducible refine v_notIn ?_ | with_reducible refine v_itT ?_ | with_reducible refine v_wT ?_ | with_reducible refine v_wS ?_ | with_reducible refine v_zipT ?_ | with_reducible refine v_lenT ?_ | with_reducible refine v_tupT ?_ | with_reducible refine v_lstT ?_ | with_reducible refine v_intI ?_ | with_reducible refine v_intB ?_ | with_reducible refine v_absI ?_ | with_reducible refine v_strS ?_ | with_reducible refine v_okJ ?_ | ((with_reducible refine' v_mulI ?h0 ?_); (case h0 => exact rfl)) | ((with_reducible refine' v_modI ?h0 ?_); (case h0 => decide)) | ((with_reducible refine' v_divI ?h0 ?h1 ?_); (case h0 => decide); (case h1 => decide)) | ((with_reducible refine' v_powI ?h0 ?h1 ?h2 ?_); (case h0 => decide); (case h1 => decide); (case h2 => decide)) | ((with_reducible refine' v_inT ?h0 ?_); (case h0 => exact rfl)) | ((with_reducible refine' v_subT ?h0 ?_); (case h0 => exact rfl)) | ((with_reducible refine' v_subL ?h0 ?h1 ?_); (case h0 => walk_at "hp"); (case h1 => exact rfl)) | ((with_reducible refine' v_slcT ?h0 ?h1 ?_); (case h0 => exact rfl); (case h1 => exact rfl)) | ((with_reducible refine' v_slcL ?h0 ?h1 ?h2 ?_); (case h0 => walk_at "hp"); (case h1 => exact rfl); (case h2 => exact rfl)) | ((with_reducible refine' v_slcX ?h0 ?h1 ?_); (case h0 => exact rfl); (case h1 => exact rfl)) | ((with_reducible refine' v_rev ?h0 ?_); (case h0 => walk_at "hp")) | ((with_reducible refine' v_itL ?h0 ?_); (case h0 => walk_at "hp")) | ((with_reducible refine' v_att ?h0 ?h1 ?h2 ?_); (case h0 => walk_at "hp"); (case h1 => exact rfl); (case h2 => exact rfl)) | ((with_reducible refine' v_setF ?h0 ?h1 ?_); (case h0 => walk_at "hp"); (case h1 => exact rfl)) | ((with_reducible refine' v_wL ?h0 ?_); (case h0 => walk_at "hp")) | ((with_reducible refine' v_enm ?h0 ?_); (case h0 => walk_at "hp")) | ((with_reducible refine' v_zipL ?h0 ?h1 ?_); (case h0 => walk_at "hp"); (case h1 => walk_at "hp")) | ((with_reducible refine' v_lenL ?h0 ?_); (case h0 => walk_at "hp")) | ((with_reducible refine' v_tupL ?h0 ?_); (case h0 => walk_at "hp")) | ((with_reducible refine' v_lstL ?h0 ?_); (case h0 => walk_at "hp")) | ((with_reducible refine' v_okA ?h0 ?_); (case h0 => walk_at "hp")) | ((with_reducible refine' v_okE ?h0 ?_); (case h0 => walk_at "hp")) | ((with_reducible refine' v_okP ?h0 ?_); (case h0 => walk_at "hp")))
local macro_rules | `(tactic| walk_at "is") => `(tactic| refine ⟨_, _, by exact rfl, by exact rfl, ?_⟩)
local macro_rules | `(tactic| walk_at "ck") => `(tactic| ((with_reducible refine' w_callK ?h0 ?h1 ?_); (case h0 => exact rfl); (case h1 => exact rfl)))
local macro_rules | `(tactic| walk_at "br") => `(tactic| first | ((with_reducible refine br_t ?h0 ?_); (case h0 => exact rfl)) | ((with_reducible refine br_f ?h0 ?_); (case h0 => exact rfl)))
local macro_rules | `(tactic| walk_at "ge") => `(tactic| first | exact Ge.refl | assumption | exact Ge.new | (refine Ge.trans ?_ Ge.new; walk_at "ge") | (refine Ge.trans ?_ (by assumption); walk_at "ge"))
local macro_rules | `(tactic| walk_at "go") => `(tactic| repeat (first | walk_at "ex" | walk_at "sx" | walk_at "vx" | with_reducible refine ⟨_, rfl, ?_⟩ | walk_at "br" | walk_at "ck" | ((with_reducible refine fit_and ?h0 ?_); (case h0 => walk_at "lb")) | ((with_reducible refine len_and ?h0 ?_); (case h0 => exact rfl)) | ((with_reducible refine v_fmtS ?h0 ?_); (case h0 => walk_at "lb"))))
local macro_rules | `(tactic| walk_at "nm") => `(tactic| (refine sp_is_name (by omega) (by walk_at "lb") fun _ _ => ?_; rw [show isNm _ = true by assumption]; walk_at "go"; refine sp_need (by omega) ?_; walk_at "go"))
local macro_rules | `(tactic| walk_at "su") => `(tactic| (refine x_sup (fs := []) rfl rfl (by walk_at "hp") ?_; walk_at "go"))
local macro_rules | `(tactic| walk_at "up") => `(tactic| first | assumption | (refine' Upd.trans ?_ (Upd.put (by walk_at "hp")); walk_at "up"))
local macro_rules | `(tactic| walk_at "ri") => `(tactic| (refine sp_Row_init (by omega) (by walk_at "hp") rfl (.inr ⟨_, rfl, by walk_at "hp"⟩) (.inl rfl) (.inl rfl) fun _ u => ?_; have e1 := u.at_; walk_at "go"))
variable {n : Nat} {C : Hc} {Q : W → Hc → Prop} {E : Xn → Hc → Prop} {a : Nat} {x y z : Str}
theorem rows_len {ws : List W} {lss : List (List Str)} (hr : RowL C ws lss) (hb : wt lss.flatten ≤ 1000000) (hl : ws.length < 1000000) : lss.flatten.length ≤ 1000000 := Nat.le_trans (len_le_wt _) hb
def lFrame (ls : List Str) : List Str := s_frame :: (ls ++ [s_end])
def fFrame (ws : List W) (ls : List Str) : List (Nat × W) := putW n_rows (.tup ws) (rowF [] ((lFrame ls).map W.str) ws [])
theorem sp_Frame_init (hn : 3 ≤ n) (ha : C.get a = some (.ins c_Frame [])) {w : W} {ws : List W} {lss : List (List Str)} (hi : Items C w ws) (hr : RowL C ws lss) (hl : ws.length < 1000000) (hb : wt lss.flatten ≤ 100000)
    (h : ∀ C', GeX C a C' → C'.get a = some (.ins c_Frame (fFrame ws lss.flatten)) → Q .non C') : wpM (callF G n k_Frame___init__ [.ref a, w]) C Q E := by
  have hlen : lss.flatten.length ≤ 100000 := Nat.le_trans (len_le_wt _) hb
  match n, hn with
  | n + 1, hn =>
    refine (w_callF (fd := f_Frame___init__) rfl rfl rfl).mpr ?_
    delta f_Frame___init__
    dsimp only
    walk_at "go"
    refine sp_are_rows (by omega) hi hr hl fun C1 g1 => ?_
    walk_at "go"
    refine sp_need (by omega) ?_
    walk_at "go"
    walk_at "su"
    refine sp_lines_of (by omega) (hi.ge g1) (hr.ge g1) hl (by omega) fun C2 b g2 hb2 => ?_
    walk_at "go"
    have e : W.str s_frame :: (lss.flatten.map W.str ++ [W.str s_end]) = (lFrame lss.flatten).map W.str := by simp [lFrame]
    rw [e]
    refine sp_Row_init (by omega) (by walk_at "hp") rfl (.inr ⟨_, rfl, by walk_at "hp"⟩) ((hi.ge (g1.trans g2)).ge Ge.new) (.inl rfl) fun C' u => ?_
    have e1 := u.at_
    walk_at "go"
    refine Items.tuple (((hi.ge (g1.trans g2)).ge Ge.new).upd (by walk_at "hp") u) ?_
    walk_at "go"
    exact h _ (.of (by walk_at "ge") (u.trans (.put u.at_))) (put_self u.at_)
def lWhile (ls : List Str) : List Str := s_while_20any :: (ls ++ [s_end])
def fWhile (ws : List W) (ls : List Str) : List (Nat × W) := putW n_rows (.tup ws) (rowF [] ((lWhile ls).map W.str) ws [])
theorem sp_While_init (hn : 3 ≤ n) (ha : C.get a = some (.ins c_While [])) {w : W} {ws : List W} {lss : List (List Str)} (hi : Items C w ws) (hr : RowL C ws lss) (hl : ws.length < 1000000) (hb : wt lss.flatten ≤ 100000)
    (h : ∀ C', GeX C a C' → C'.get a = some (.ins c_While (fWhile ws lss.flatten)) → Q .non C') : wpM (callF G n k_While___init__ [.ref a, w]) C Q E := by
  have hlen : lss.flatten.length ≤ 100000 := Nat.le_trans (len_le_wt _) hb
  match n, hn with
  | n + 1, hn =>
    refine (w_callF (fd := f_While___init__) rfl rfl rfl).mpr ?_
    delta f_While___init__
    dsimp only
    walk_at "go"
    refine sp_are_rows (by omega) hi hr hl fun C1 g1 => ?_
    walk_at "go"
    refine sp_need (by omega) ?_
    walk_at "go"
    walk_at "su"
    refine sp_lines_of (by omega) (hi.ge g1) (hr.ge g1) hl (by omega) fun C2 b g2 hb2 => ?_
    walk_at "go"
    have e : W.str s_while_20any :: (lss.flatten.map W.str ++ [W.str s_end]) = (lWhile lss.flatten).map W.str := by simp [lWhile]
    rw [e]
    refine sp_Row_init (by omega) (by walk_at "hp") rfl (.inr ⟨_, rfl, by walk_at "hp"⟩) ((hi.ge (g1.trans g2)).ge Ge.new) (.inl rfl) fun C' u => ?_
    have e1 := u.at_
    walk_at "go"
    refine Items.tuple (((hi.ge (g1.trans g2)).ge Ge.new).upd (by walk_at "hp") u) ?_
    walk_at "go"
    exact h _ (.of (by walk_at "ge") (u.trans (.put u.at_))) (put_self u.at_)
def lTry (ls ms : List Str) : List Str := s_try :: (ls ++ s_catch :: (ms ++ [s_end]))
def fTry (ws us : List W) (ls ms : List Str) : List (Nat × W) := putW n_others (.tup us) (putW n_rows (.tup ws) (rowF [] ((lTry ls ms).map W.str) ws us))
theorem sp_Try_init (hn : 3 ≤ n) (ha : C.get a = some (.ins c_Try [])) {w u : W} {ws us : List W} {lss mss : List (List Str)} (hi : Items C w ws) (hr : RowL C ws lss) (hl : ws.length < 1000000) (hb : wt lss.flatten ≤ 100000)
    (hi' : Items C u us) (hr' : RowL C us mss) (hl' : us.length < 1000000) (hb' : wt mss.flatten ≤ 100000)
    (h : ∀ C', GeX C a C' → C'.get a = some (.ins c_Try (fTry ws us lss.flatten mss.flatten)) → Q .non C') : wpM (callF G n k_Try___init__ [.ref a, w, u]) C Q E := by
  have hlen : lss.flatten.length ≤ 100000 := Nat.le_trans (len_le_wt _) hb
  have hlen' : mss.flatten.length ≤ 100000 := Nat.le_trans (len_le_wt _) hb'
  match n, hn with
  | n + 1, hn =>
    refine (w_callF (fd := f_Try___init__) rfl rfl rfl).mpr ?_
    delta f_Try___init__
    dsimp only
    walk_at "go"
    refine sp_are_rows (by omega) hi hr hl fun C1 g1 => ?_
    walk_at "go"
    refine sp_need (by omega) ?_
    walk_at "go"
    refine sp_are_rows (by omega) (hi'.ge g1) (hr'.ge g1) hl' fun C2 g2 => ?_
    walk_at "go"
    refine sp_need (by omega) ?_
    walk_at "go"
    walk_at "su"
    have g12 := g1.trans g2
    refine sp_lines_of (by omega) (hi.ge g12) (hr.ge g12) hl (by omega) fun C3 b g3 hb3 => ?_
    walk_at "go"
    have g13 := g12.trans g3
    refine sp_lines_of (by omega) (hi'.ge g13) (hr'.ge g13) hl' (by omega) fun C4 b' g4 hb4 => ?_
    walk_at "go"
    have e : W.str s_try :: (lss.flatten.map W.str ++ W.str s_catch :: (mss.flatten.map W.str ++ [W.str s_end])) = (lTry lss.flatten mss.flatten).map W.str := by simp [lTry]
    rw [e]
    have g14 := g13.trans g4
    refine sp_Row_init (by omega) (new_old (g14.at ha)) rfl (.inr ⟨_, rfl, by walk_at "hp"⟩) ((hi.ge g14).ge Ge.new) ((hi'.ge g14).ge Ge.new) fun C' v => ?_
    have e1 := v.at_
    walk_at "go"
    refine Items.tuple (((hi.ge g14).ge Ge.new).upd (new_old (g14.at ha)) v) ?_
    walk_at "go"
    refine Items.tuple ((((hi'.ge g14).ge Ge.new).upd (new_old (g14.at ha)) v).upd v.at_ (Upd.put v.at_)) ?_
    walk_at "go"
    exact h _ (.of (g14.trans Ge.new) ((v.trans (.put v.at_)).trans (.put (put_self v.at_)))) (put_self (put_self v.at_))
def lIf (x : Str) (ls ms : List Str) : List Str := (Str.empty ++ s_if_20 ++ x) :: (ls ++ (s_else :: ms) ++ [s_end])
def fIf (x : Str) (ws us : List W) (ls ms : List Str) : List (Nat × W) := putW n_others (.tup us) (putW n_rows (.tup ws) (putW n_name (.str x) (rowF [] ((lIf x ls ms).map W.str) ws us)))
/-- if any, with others -/
theorem sp_If_init (hn : 3 ≤ n) (ha : C.get a = some (.ins c_If [])) {w u : W} {ws us : List W} {lss mss : List (List Str)} (hi : Items C w ws) (hr : RowL C ws lss) (hl : ws.length < 1000000) (hb : wt lss.flatten ≤ 100000)
    (hi' : Items C u us) (hr' : RowL C us mss) (hl' : us.length < 1000000) (hb' : wt mss.flatten ≤ 100000) (hne : 0 < us.length)
    (h : ∀ C', GeX C a C' → C'.get a = some (.ins c_If (fIf s_any ws us lss.flatten mss.flatten)) → Q .non C') : wpM (callF G n k_If___init__ [.ref a, .str s_any, w, u]) C Q E := by
  have hlen : lss.flatten.length ≤ 100000 := Nat.le_trans (len_le_wt _) hb
  have hlen' : mss.flatten.length ≤ 100000 := Nat.le_trans (len_le_wt _) hb'
  match n, hn with
  | n + 1, hn =>
    refine (w_callF (fd := f_If___init__) rfl rfl rfl).mpr ?_
    delta f_If___init__
    dsimp only
    walk_at "go"
    walk_at "is"
    walk_at "go"
    refine sp_need' (by omega) (by decide +kernel) ?_
    walk_at "go"
    refine sp_are_rows (by omega) hi hr hl fun C1 g1 => ?_
    walk_at "go"
    refine sp_need (by omega) ?_
    walk_at "go"
    refine sp_are_rows (by omega) (hi'.ge g1) (hr'.ge g1) hl' fun C2 g2 => ?_
    walk_at "go"
    refine sp_need (by omega) ?_
    walk_at "go"
    have g12 := g1.trans g2
    refine (hi'.ge g12).len ?_
    walk_at "go"
    refine br_t (decide_eq_true (by omega)) ?_
    walk_at "go"
    refine sp_lines_of (by omega) (hi'.ge g12) (hr'.ge g12) hl' (by omega) fun C3 b g3 hb3 => ?_
    walk_at "go"
    rw [List.append_nil]
    have g13 := g12.trans g3
    have g13' := g13.trans (Ge.new (C := C3) (o := .lst (W.str s_else :: mss.flatten.map W.str)))
    clear g12
    walk_at "su"
    refine sp_lines_of (by omega) (hi.ge g13') (hr.ge g13') hl (by omega) fun C4 b' g4 hb4 => ?_
    walk_at "go"
    have e : W.str (Str.empty ++ s_if_20 ++ s_any) :: (lss.flatten.map W.str ++ (W.str s_else :: mss.flatten.map W.str ++ [W.str s_end])) = (lIf s_any lss.flatten mss.flatten).map W.str := by simp [lIf]
    rw [e]
    have g14 := g13'.trans g4
    refine sp_Row_init (by omega) (new_old (g14.at ha)) rfl (.inr ⟨_, rfl, new_self⟩) ((hi.ge g14).ge Ge.new) ((hi'.ge g14).ge Ge.new) fun C' v => ?_
    have e1 := v.at_
    walk_at "go"
    refine Items.tuple ((((hi.ge g14).ge Ge.new).upd (new_old (g14.at ha)) v).upd v.at_ (Upd.put v.at_)) ?_
    walk_at "go"
    refine Items.tuple (((((hi'.ge g14).ge Ge.new).upd (new_old (g14.at ha)) v).upd v.at_ (Upd.put v.at_)).upd (put_self v.at_) (Upd.put (put_self v.at_))) ?_
    walk_at "go"
    exact h _ (.of (g14.trans Ge.new) (((v.trans (.put v.at_)).trans (.put (put_self v.at_))).trans (.put (put_self (put_self v.at_))))) (put_self (put_self (put_self v.at_)))
end K05
set_option Elab.async false
set_option linter.all false
set_option maxRecDepth 100000
set_option maxHeartbeats 1000000
namespace K05
open PySem L2 BL
local macro_rules | `(tactic| walk_at "lb") => `(tactic| first | (show _ ≤ 16777216; omega) | (show _ ≤ 16777216; simp only [len_app, empty_len, List.length_cons, List.length_nil, List.length_append, List.length_map, ln__20_3d_20new, ln__20_3d_20, ln__20, ln__20_3d_20none, ln_use_20, ln_free_20, ln_back_20, ln__20_3d_20do_20, ln_if_20, ln_return_20, ln_return, ln_throw, ln_any, ln_frame, ln_end, ln_while_20any, ln_try, ln_catch, ln_else, ln_local, ln_global, ln_weak]; omega))
local macro_rules | `(tactic| walk_at "hp") => `(tactic| first | assumption | exact new_self | (refine new_old ?_; walk_at "hp") | (refine Ge.at (by assumption) ?_; walk_at "hp") | exact put_self (by walk_at "hp") | (refine (put_ne (by walk_at "hp") (by omega)).trans ?_; walk_at "hp"))
local macro_rules | `(tactic| walk_at "ex") => `(tactic| first | ((with_reducible refine' e_var ?h0 ?_); (case h0 => exact rfl)) | with_reducible refine e_cst ?_ | with_reducible refine e_tup ?_ | with_reducible refine e_lst ?_ | with_reducible refine e_bin ?_ | with_reducible refine e_cmp ?_ | with_reducible refine e_cmp2 ?_ | with_reducible refine e_isN ?_ | with_reducible refine e_not ?_ | with_reducible refine e_neg ?_ | with_reducible refine e_ite ?_ | with_reducible refine e_call ?_ | with_reducible refine e_callk ?_ | with_reducible refine e_mk ?_ | with_reducible refine e_mkk ?_ | with_reducible refine e_blt ?_ | with_reducible refine e_isi ?_ | with_reducible refine e_meth ?_ | with_reducible refine e_bm ?_ | with_reducible refine e_bm0 ?_ | with_reducible refine e_att ?_ | with_reducible refine e_sub ?_ | with_reducible refine e_slc ?_ | with_reducible refine e_rev ?_ | with_reducible refine e_comp ?_ | with_reducible refine e_fst ?_ | with_reducible refine e_fmt ?_ | with_reducible refine e_boo ?_ | with_reducible refine l_nil ?_ | with_reducible refine l_star ?_ | with_reducible refine j_nil ?_ | with_reducible refine j_cons ?_ | with_reducible refine b_one ?_ | with_reducible refine b_and ?_ | with_reducible refine b_or ?_ | with_reducible refine bt_one ?_ | with_reducible refine bt_and ?_ | with_reducible refine bt_or ?_ | with_reducible refine t_boo ?_ | with_reducible refine t_not ?_ | with_reducible refine t_ite ?_ | with_reducible refine tru ?_ | with_reducible refine i_rng1 ?_ | with_reducible refine i_enm ?_ | with_reducible refine i_zip ?_ | with_reducible refine ts_nil ?_ | with_reducible refine ts_one ?_ | ((with_reducible refine' e_glo ?h0 ?_); (case h0 => exact rfl)) | ((with_reducible refine' e_absent ?h0 ?_); (case h0 => exact rfl)) | ((with_reducible refine' e_part ?h0 ?_); (case h0 => exact rfl)) | ((with_reducible refine' l_cons ?h0 ?_); (case h0 => exact rfl)) | ((with_reducible refine' t_val ?h0 ?_); (case h0 => exact rfl)) | ((with_reducible refine' i_val ?h0 ?_); (case h0 => exact rfl)))
local macro_rules | `(tactic| walk_at "sx") => `(tactic| first | with_reducible refine q_nx ?_ | with_reducible refine q_rt ?_ | with_reducible refine q_br ?_ | with_reducible refine q_ct ?_ | with_reducible refine q_exc ?_ | with_reducible refine q_end ?_ | with_reducible refine q_endN ?_ | with_reducible refine q_endX ?_ | with_reducible refine q_tnx ?_ | with_reducible refine q_tct ?_ | with_reducible refine q_tbr ?_ | with_reducible refine q_trt ?_ | with_reducible refine q_tex ?_ | with_reducible refine x_cons ?_ | with_reducible refine x_nil ?_ | with_reducible refine x_asgN ?_ | with_reducible refine x_asgT ?_ | with_reducible refine x_par ?_ | with_reducible refine x_fld ?_ | with_reducible refine x_setI ?_ | with_reducible refine x_expr ?_ | with_reducible refine x_ife ?_ | with_reducible refine x_for ?_ | with_reducible refine x_whl ?_ | with_reducible refine x_ret ?_ | with_reducible refine x_retN ?_ | with_reducible refine x_cont ?_ | with_reducible refine x_brk ?_ | with_reducible refine x_pass ?_)
local macro_rules | `(tactic| walk_at "vx") => `(tactic| first | with_reducible refine v_addI ?_ | with_reducible refine v_subI ?_ | with_reducible refine v_eqS ?_ | with_reducible refine v_neS ?_ | with_reducible refine v_eqI ?_ | with_reducible refine v_neI ?_ | with_reducible refine v_ltI ?_ | with_reducible refine v_leI ?_ | with_reducible refine v_gtI ?_ | with_reducible refine v_geI ?_ | with_reducible refine v_inS ?_ | with_reducible refine v_notIn ?_ | with_reducible refine v_itT ?_ | with_reducible refine v_wT ?_ | with_reducible refine v_wS ?_ | with_reducible refine v_zipT ?_ | with_reducible refine v_lenT ?_ | with_reducible refine v_tupT ?_ | with_reducible refine v_lstT ?_ | with_reducible refine v_intI ?_ | with_reducible refine v_intB ?_ | with_reducible refine v_absI ?_ | with_reducible refine v_strS ?_ | with_reducible refine v_okJ ?_ | ((with_reducible refine' v_mulI ?h0 ?_); (case h0 => exact rfl)) | ((with_reducible refine' v_modI ?h0 ?_); (case h0 => decide)) | ((with_reducible refine' v_divI ?h0 ?h1 ?_); (case h0 => decide); (case h1 => decide)) | ((with_reducible refine' v_powI ?h0 ?h1 ?h2 ?_); (case h0 => decide); (case h1 => decide); (case h2 => decide)) | ((with_reducible refine' v_inT ?h0 ?_); (case h0 => exact rfl)) | ((with_reducible refine' v_subT ?h0 ?_); (case h0 => exact rfl)) | ((with_reducible refine' v_subL ?h0 ?h1 ?_); (case h0 => walk_at "hp"); (case h1 => exact rfl)) | ((with_reducible refine' v_slcT ?h0 ?h1 ?_); (case h0 => exact rfl); (case h1 => exact rfl)) | ((with_reducible refine' v_slcL ?h0 ?h1 ?h2 ?_); (case h0 => walk_at "hp"); (case h1 => exact rfl); (case h2 => exact rfl)) | ((with_reducible refine' v_slcX ?h0 ?h1 ?_); (case h0 => exact rfl); (case h1 => exact rfl)) | ((with_reducible refine' v_rev ?h0 ?_); (case h0 => walk_at "hp")) | ((with_reducible refine' v_itL ?h0 ?_); (case h0 => walk_at "hp")) | ((with_reducible refine' v_att ?h0 ?h1 ?h2 ?_); (case h0 => walk_at "hp"); (case h1 => exact rfl); (case h2 => exact rfl)) | ((with_reducible refine' v_setF ?h0 ?h1 ?_); (case h0 => walk_at "hp"); (case h1 => exact rfl)) | ((with_reducible refine' v_wL ?h0 ?_); (case h0 => walk_at "hp")) | ((with_reducible refine' v_enm ?h0 ?_); (case h0 => walk_at "hp")) | ((with_reducible refine' v_zipL ?h0 ?h1 ?_); (case h0 => walk_at "hp"); (case h1 => walk_at "hp")) | ((with_reducible refine' v_lenL ?h0 ?_); (case h0 => walk_at "hp")) | ((with_reducible refine' v_tupL ?h0 ?_); (case h0 => walk_at "hp")) | ((with_reducible refine' v_lstL ?h0 ?_); (case h0 => walk_at "hp")) | ((with_reducible refine' v_okA ?h0 ?_); (case h0 => walk_at "hp")) | ((with_reducible refine' v_okE ?h0 ?_); (case h0 => walk_at "hp")) | ((with_reducible refine' v_okP ?h0 ?_); (case h0 => walk_at "hp")))
local macro_rules | `(tactic| walk_at "is") => `(tactic| refine ⟨_, _, by exact rfl, by exact rfl, ?_⟩)
local macro_rules | `(tactic| walk_at "ck") => `(tactic| ((with_reducible refine' w_callK ?h0 ?h1 ?_); (case h0 => exact rfl); (case h1 => exact rfl)))
local macro_rules | `(tactic| walk_at "br") => `(tactic| first | ((with_reducible refine br_t ?h0 ?_); (case h0 => exact rfl)) | ((with_reducible refine br_f ?h0 ?_); (case h0 => exact rfl)))
local macro_rules | `(tactic| walk_at "ge") => `(tactic| first | exact Ge.refl | assumption | exact Ge.new | (refine Ge.trans ?_ Ge.new; walk_at "ge") | (refine Ge.trans ?_ (by assumption); walk_at "ge"))
local macro_rules | `(tactic| walk_at "go") => `(tactic| repeat (first | walk_at "ex" | walk_at "sx" | walk_at "vx" | with_reducible refine ⟨_, rfl, ?_⟩ | walk_at "br" | walk_at "ck" | ((with_reducible refine fit_and ?h0 ?_); (case h0 => walk_at "lb")) | ((with_reducible refine len_and ?h0 ?_); (case h0 => exact rfl)) | ((with_reducible refine v_fmtS ?h0 ?_); (case h0 => walk_at "lb"))))
local macro_rules | `(tactic| walk_at "nm") => `(tactic| (refine sp_is_name (by omega) (by walk_at "lb") fun _ _ => ?_; rw [show isNm _ = true by assumption]; walk_at "go"; refine sp_need (by omega) ?_; walk_at "go"))
local macro_rules | `(tactic| walk_at "su") => `(tactic| (refine x_sup (fs := []) rfl rfl (by walk_at "hp") ?_; walk_at "go"))
local macro_rules | `(tactic| walk_at "up") => `(tactic| first | assumption | (refine' Upd.trans ?_ (Upd.put (by walk_at "hp")); walk_at "up"))
local macro_rules | `(tactic| walk_at "ri") => `(tactic| (refine sp_Row_init (by omega) (by walk_at "hp") rfl (.inr ⟨_, rfl, by walk_at "hp"⟩) (.inl rfl) (.inl rfl) fun _ u => ?_; have e1 := u.at_; walk_at "go"))
variable {n : Nat} {C : Hc} {Q : W → Hc → Prop} {E : Xn → Hc → Prop} {a : Nat} {x y z : Str}
structure SRow (C : Hc) (a c : Nat) (ls : List Str) : Prop extends IsRow C a c ls where
  few : wt ls ≤ 1000
theorem one_ok {l : Str} (h : okS l = true) : ∀ x ∈ [l], okS x = true := fun x hx => by rw [List.mem_singleton.mp hx]; exact h
theorem row_New {C : Hc} {a : Nat} {x : Str} (hx : isNm x = true) (e : C.get a = some (.ins c_New (fNew x))) : SRow C a c_New [lNew x] := by
  have lx := nm_len hx
  have hw : wt [lNew x] ≤ 1000 := by
    rw [wt_cons, wt_nil]
    unfold lNew
    simp only [len_app, empty_len, ln__20_3d_20new]
    omega
  exact ⟨⟨⟨_, e, rfl⟩, by decide +kernel, one_ok (by unfold lNew; exact okS_app (okS_app okS_empty (nm_ok hx)) ok__20_3d_20new), by omega⟩, hw⟩
theorem mk_New (hn : 2 ≤ n) (hx : isNm x = true) (h : ∀ C' a, Ge C C' → SRow C' a c_New [lNew x] → Q (.ref a) C') : wpM (mkI G c_New fun k s => callK G (callF G n) k (s :: [.str x])) C Q E := by
  refine w_mkI rfl ?_
  refine w_callK rfl rfl ?_
  exact sp_New_init (by omega) new_self hx fun C' g e => ⟨rfl, h _ _ g.made (row_New hx e)⟩
theorem mkk_New (hn : 2 ≤ n) (hx : isNm x = true) (h : ∀ C' a, Ge C C' → SRow C' a c_New [lNew x] → Q (.ref a) C') : wpM (mkI G c_New fun k s => callKw G (callF G n) k (s :: []) [s_target] [.str x]) C Q E := by
  refine w_mkI rfl ?_
  refine w_callKw rfl rfl rfl ?_
  exact sp_New_init (by omega) new_self hx fun C' g e => ⟨rfl, h _ _ g.made (row_New hx e)⟩
theorem row_Hold {C : Hc} {a : Nat} {x z y : Str} (hx : isNm x = true) (hz : inV (.str z) (kindsL.map toV) = true) (lz : z.length ≤ 6) (oz : okS z = true) (hy : isNm y = true) (e : C.get a = some (.ins c_Hold (fHold x z y))) : SRow C a c_Hold [lHold x z y] := by
  have lx := nm_len hx
  have ly := nm_len hy
  have hw : wt [lHold x z y] ≤ 1000 := by
    rw [wt_cons, wt_nil]
    unfold lHold
    simp only [len_app, empty_len, ln__20_3d_20, ln__20]
    omega
  exact ⟨⟨⟨_, e, rfl⟩, by decide +kernel, one_ok (by unfold lHold; exact okS_app (okS_app (okS_app (okS_app (okS_app okS_empty (nm_ok hx)) ok__20_3d_20) oz) ok__20) (nm_ok hy)), by omega⟩, hw⟩
theorem mk_Hold (hn : 2 ≤ n) (hx : isNm x = true) (hz : inV (.str z) (kindsL.map toV) = true) (lz : z.length ≤ 6) (oz : okS z = true) (hy : isNm y = true) (h : ∀ C' a, Ge C C' → SRow C' a c_Hold [lHold x z y] → Q (.ref a) C') : wpM (mkI G c_Hold fun k s => callK G (callF G n) k (s :: [.str x, .str z, .str y])) C Q E := by
  refine w_mkI rfl ?_
  refine w_callK rfl rfl ?_
  exact sp_Hold_init (by omega) new_self hx hz lz hy fun C' g e => ⟨rfl, h _ _ g.made (row_Hold hx hz lz oz hy e)⟩
theorem mkk_Hold (hn : 2 ≤ n) (hx : isNm x = true) (hz : inV (.str z) (kindsL.map toV) = true) (lz : z.length ≤ 6) (oz : okS z = true) (hy : isNm y = true) (h : ∀ C' a, Ge C C' → SRow C' a c_Hold [lHold x z y] → Q (.ref a) C') : wpM (mkI G c_Hold fun k s => callKw G (callF G n) k (s :: []) [s_source, s_kind, s_target] [.str y, .str z, .str x]) C Q E := by
  refine w_mkI rfl ?_
  refine w_callKw rfl rfl rfl ?_
  exact sp_Hold_init (by omega) new_self hx hz lz hy fun C' g e => ⟨rfl, h _ _ g.made (row_Hold hx hz lz oz hy e)⟩
theorem row_Copy {C : Hc} {a : Nat} {x y : Str} (hx : isNm x = true) (hy : isNm y = true) (e : C.get a = some (.ins c_Copy (fCopy x y))) : SRow C a c_Copy [lCopy x y] := by
  have lx := nm_len hx
  have ly := nm_len hy
  have hw : wt [lCopy x y] ≤ 1000 := by
    rw [wt_cons, wt_nil]
    unfold lCopy
    simp only [len_app, empty_len, ln__20_3d_20]
    omega
  exact ⟨⟨⟨_, e, rfl⟩, by decide +kernel, one_ok (by unfold lCopy; exact okS_app (okS_app (okS_app okS_empty (nm_ok hx)) ok__20_3d_20) (nm_ok hy)), by omega⟩, hw⟩
theorem mk_Copy (hn : 2 ≤ n) (hx : isNm x = true) (hy : isNm y = true) (h : ∀ C' a, Ge C C' → SRow C' a c_Copy [lCopy x y] → Q (.ref a) C') : wpM (mkI G c_Copy fun k s => callK G (callF G n) k (s :: [.str x, .str y])) C Q E := by
  refine w_mkI rfl ?_
  refine w_callK rfl rfl ?_
  exact sp_Copy_init (by omega) new_self hx hy fun C' g e => ⟨rfl, h _ _ g.made (row_Copy hx hy e)⟩
theorem mkk_Copy (hn : 2 ≤ n) (hx : isNm x = true) (hy : isNm y = true) (h : ∀ C' a, Ge C C' → SRow C' a c_Copy [lCopy x y] → Q (.ref a) C') : wpM (mkI G c_Copy fun k s => callKw G (callF G n) k (s :: []) [s_source, s_target] [.str y, .str x]) C Q E := by
  refine w_mkI rfl ?_
  refine w_callKw rfl rfl rfl ?_
  exact sp_Copy_init (by omega) new_self hx hy fun C' g e => ⟨rfl, h _ _ g.made (row_Copy hx hy e)⟩
theorem row_Clear {C : Hc} {a : Nat} {x : Str} (hx : isNm x = true) (e : C.get a = some (.ins c_Clear (fClear x))) : SRow C a c_Clear [lClear x] := by
  have lx := nm_len hx
  have hw : wt [lClear x] ≤ 1000 := by
    rw [wt_cons, wt_nil]
    unfold lClear
    simp only [len_app, empty_len, ln__20_3d_20none]
    omega
  exact ⟨⟨⟨_, e, rfl⟩, by decide +kernel, one_ok (by unfold lClear; exact okS_app (okS_app okS_empty (nm_ok hx)) ok__20_3d_20none), by omega⟩, hw⟩
theorem mk_Clear (hn : 2 ≤ n) (hx : isNm x = true) (h : ∀ C' a, Ge C C' → SRow C' a c_Clear [lClear x] → Q (.ref a) C') : wpM (mkI G c_Clear fun k s => callK G (callF G n) k (s :: [.str x])) C Q E := by
  refine w_mkI rfl ?_
  refine w_callK rfl rfl ?_
  exact sp_Clear_init (by omega) new_self hx fun C' g e => ⟨rfl, h _ _ g.made (row_Clear hx e)⟩
theorem mkk_Clear (hn : 2 ≤ n) (hx : isNm x = true) (h : ∀ C' a, Ge C C' → SRow C' a c_Clear [lClear x] → Q (.ref a) C') : wpM (mkI G c_Clear fun k s => callKw G (callF G n) k (s :: []) [s_target] [.str x]) C Q E := by
  refine w_mkI rfl ?_
  refine w_callKw rfl rfl rfl ?_
  exact sp_Clear_init (by omega) new_self hx fun C' g e => ⟨rfl, h _ _ g.made (row_Clear hx e)⟩
theorem row_Use {C : Hc} {a : Nat} {x : Str} (hx : isNm x = true) (e : C.get a = some (.ins c_Use (fUse x))) : SRow C a c_Use [lUse x] := by
  have lx := nm_len hx
  have hw : wt [lUse x] ≤ 1000 := by
    rw [wt_cons, wt_nil]
    unfold lUse
    simp only [len_app, empty_len, ln_use_20]
    omega
  exact ⟨⟨⟨_, e, rfl⟩, by decide +kernel, one_ok (by unfold lUse; exact okS_app (okS_app okS_empty ok_use_20) (nm_ok hx)), by omega⟩, hw⟩
theorem mk_Use (hn : 2 ≤ n) (hx : isNm x = true) (h : ∀ C' a, Ge C C' → SRow C' a c_Use [lUse x] → Q (.ref a) C') : wpM (mkI G c_Use fun k s => callK G (callF G n) k (s :: [.str x])) C Q E := by
  refine w_mkI rfl ?_
  refine w_callK rfl rfl ?_
  exact sp_Use_init (by omega) new_self hx fun C' g e => ⟨rfl, h _ _ g.made (row_Use hx e)⟩
theorem mkk_Use (hn : 2 ≤ n) (hx : isNm x = true) (h : ∀ C' a, Ge C C' → SRow C' a c_Use [lUse x] → Q (.ref a) C') : wpM (mkI G c_Use fun k s => callKw G (callF G n) k (s :: []) [s_name] [.str x]) C Q E := by
  refine w_mkI rfl ?_
  refine w_callKw rfl rfl rfl ?_
  exact sp_Use_init (by omega) new_self hx fun C' g e => ⟨rfl, h _ _ g.made (row_Use hx e)⟩
theorem row_Free {C : Hc} {a : Nat} {x : Str} (hx : isNm x = true) (e : C.get a = some (.ins c_Free (fFree x))) : SRow C a c_Free [lFree x] := by
  have lx := nm_len hx
  have hw : wt [lFree x] ≤ 1000 := by
    rw [wt_cons, wt_nil]
    unfold lFree
    simp only [len_app, empty_len, ln_free_20]
    omega
  exact ⟨⟨⟨_, e, rfl⟩, by decide +kernel, one_ok (by unfold lFree; exact okS_app (okS_app okS_empty ok_free_20) (nm_ok hx)), by omega⟩, hw⟩
theorem mk_Free (hn : 2 ≤ n) (hx : isNm x = true) (h : ∀ C' a, Ge C C' → SRow C' a c_Free [lFree x] → Q (.ref a) C') : wpM (mkI G c_Free fun k s => callK G (callF G n) k (s :: [.str x])) C Q E := by
  refine w_mkI rfl ?_
  refine w_callK rfl rfl ?_
  exact sp_Free_init (by omega) new_self hx fun C' g e => ⟨rfl, h _ _ g.made (row_Free hx e)⟩
theorem mkk_Free (hn : 2 ≤ n) (hx : isNm x = true) (h : ∀ C' a, Ge C C' → SRow C' a c_Free [lFree x] → Q (.ref a) C') : wpM (mkI G c_Free fun k s => callKw G (callF G n) k (s :: []) [s_name] [.str x]) C Q E := by
  refine w_mkI rfl ?_
  refine w_callKw rfl rfl rfl ?_
  exact sp_Free_init (by omega) new_self hx fun C' g e => ⟨rfl, h _ _ g.made (row_Free hx e)⟩
theorem row_Back {C : Hc} {a : Nat} {x : Str} (hx : isNm x = true) (e : C.get a = some (.ins c_Back (fBack x))) : SRow C a c_Back [lBack x] := by
  have lx := nm_len hx
  have hw : wt [lBack x] ≤ 1000 := by
    rw [wt_cons, wt_nil]
    unfold lBack
    simp only [len_app, empty_len, ln_back_20]
    omega
  exact ⟨⟨⟨_, e, rfl⟩, by decide +kernel, one_ok (by unfold lBack; exact okS_app (okS_app okS_empty ok_back_20) (nm_ok hx)), by omega⟩, hw⟩
theorem mk_Back (hn : 2 ≤ n) (hx : isNm x = true) (h : ∀ C' a, Ge C C' → SRow C' a c_Back [lBack x] → Q (.ref a) C') : wpM (mkI G c_Back fun k s => callK G (callF G n) k (s :: [.str x])) C Q E := by
  refine w_mkI rfl ?_
  refine w_callK rfl rfl ?_
  exact sp_Back_init (by omega) new_self hx fun C' g e => ⟨rfl, h _ _ g.made (row_Back hx e)⟩
theorem mkk_Back (hn : 2 ≤ n) (hx : isNm x = true) (h : ∀ C' a, Ge C C' → SRow C' a c_Back [lBack x] → Q (.ref a) C') : wpM (mkI G c_Back fun k s => callKw G (callF G n) k (s :: []) [s_name] [.str x]) C Q E := by
  refine w_mkI rfl ?_
  refine w_callKw rfl rfl rfl ?_
  exact sp_Back_init (by omega) new_self hx fun C' g e => ⟨rfl, h _ _ g.made (row_Back hx e)⟩
theorem row_Return {C : Hc} {a : Nat} {x : Str} (hx : isNm x = true) (e : C.get a = some (.ins c_Return (fReturn x))) : SRow C a c_Return [lReturn x] := by
  have lx := nm_len hx
  have hw : wt [lReturn x] ≤ 1000 := by
    rw [wt_cons, wt_nil]
    unfold lReturn
    simp only [len_app, empty_len, ln_return_20]
    omega
  exact ⟨⟨⟨_, e, rfl⟩, by decide +kernel, one_ok (by unfold lReturn; exact okS_app (okS_app okS_empty ok_return_20) (nm_ok hx)), by omega⟩, hw⟩
theorem mk_Return (hn : 2 ≤ n) (hx : isNm x = true) (h : ∀ C' a, Ge C C' → SRow C' a c_Return [lReturn x] → Q (.ref a) C') : wpM (mkI G c_Return fun k s => callK G (callF G n) k (s :: [.str x])) C Q E := by
  refine w_mkI rfl ?_
  refine w_callK rfl rfl ?_
  exact sp_Return_init (by omega) new_self hx fun C' g e => ⟨rfl, h _ _ g.made (row_Return hx e)⟩
theorem mkk_Return (hn : 2 ≤ n) (hx : isNm x = true) (h : ∀ C' a, Ge C C' → SRow C' a c_Return [lReturn x] → Q (.ref a) C') : wpM (mkI G c_Return fun k s => callKw G (callF G n) k (s :: []) [s_name] [.str x]) C Q E := by
  refine w_mkI rfl ?_
  refine w_callKw rfl rfl rfl ?_
  exact sp_Return_init (by omega) new_self hx fun C' g e => ⟨rfl, h _ _ g.made (row_Return hx e)⟩
theorem row_Return0 {C : Hc} {a : Nat} (e : C.get a = some (.ins c_Return fReturn0)) : SRow C a c_Return [s_return] :=
  ⟨⟨⟨_, e, rfl⟩, by decide +kernel, one_ok ok_return, by decide +kernel⟩, by decide +kernel⟩
theorem mk_Return0 (hn : 2 ≤ n) (h : ∀ C' a, Ge C C' → SRow C' a c_Return [s_return] → Q (.ref a) C') : wpM (mkI G c_Return fun k s => callK G (callF G n) k (s :: [])) C Q E := by
  refine w_mkI rfl ?_
  refine w_callK rfl rfl ?_
  exact sp_Return0_init (by omega) new_self fun C' g e => ⟨rfl, h _ _ g.made (row_Return0 e)⟩
theorem mkk_Return0 (hn : 2 ≤ n) (h : ∀ C' a, Ge C C' → SRow C' a c_Return [s_return] → Q (.ref a) C') : wpM (mkI G c_Return fun k s => callKw G (callF G n) k (s :: []) [s_name] [.non]) C Q E := by
  refine w_mkI rfl ?_
  refine w_callKw rfl rfl rfl ?_
  exact sp_Return0_init (by omega) new_self fun C' g e => ⟨rfl, h _ _ g.made (row_Return0 e)⟩
theorem row_Throw {C : Hc} {a : Nat} (e : C.get a = some (.ins c_Throw fThrow)) : SRow C a c_Throw [s_throw] :=
  ⟨⟨⟨_, e, rfl⟩, by decide +kernel, one_ok ok_throw, by decide +kernel⟩, by decide +kernel⟩
theorem mk_Throw (hn : 2 ≤ n) (h : ∀ C' a, Ge C C' → SRow C' a c_Throw [s_throw] → Q (.ref a) C') : wpM (mkI G c_Throw fun k s => callK G (callF G n) k (s :: [])) C Q E := by
  refine w_mkI rfl ?_
  refine w_callK rfl rfl ?_
  exact sp_Throw_init (by omega) new_self fun C' g e => ⟨rfl, h _ _ g.made (row_Throw e)⟩
theorem row_Do {C : Hc} {a : Nat} (hx : isNm x = true) (hy : isNm y = true) (hz : isNm z = true) (e : C.get a = some (.ins c_Do (fDo x y [y, z]))) : SRow C a c_Do [lDo x y [y, z]] := by
  have lx := nm_len hx
  have ly := nm_len hy
  have lz := nm_len hz
  have hw : wt [lDo x y [y, z]] ≤ 1000 := by
    rw [wt_cons, wt_nil]
    unfold lDo
    rw [join_eq]
    have := StrLaws.join_length_le s__20 [Str.empty ++ x ++ s__20_3d_20do_20 ++ y, y, z]
    simp only [List.map_cons, List.map_nil, List.sum_cons, List.sum_nil, List.length_cons, List.length_nil, len_app, empty_len, ln__20_3d_20do_20, ln__20] at this
    omega
  refine ⟨⟨⟨_, e, rfl⟩, by decide +kernel, one_ok ?_, by omega⟩, hw⟩
  unfold lDo
  rw [join_eq]
  refine okS_join ok__20 fun w hw => ?_
  rcases List.mem_cons.mp hw with rfl | hw
  · exact okS_app (okS_app (okS_app okS_empty (nm_ok hx)) ok__20_3d_20do_20) (nm_ok hy)
  · rcases List.mem_cons.mp hw with rfl | hw
    · exact nm_ok hy
    · rw [List.mem_singleton.mp hw]; exact nm_ok hz
theorem names2 {C : Hc} {b : Nat} (hb : C.get b = some (.lst [.str y, .str z])) : Items C (.ref b) ([y, z].map W.str) := .inr ⟨b, rfl, hb⟩
theorem nm2 (hy : isNm y = true) (hz : isNm z = true) : ∀ x ∈ [y, z], isNm x = true := fun x hx => by
  rcases List.mem_cons.mp hx with rfl | hx
  · exact hy
  · rw [List.mem_singleton.mp hx]; exact hz
theorem mk_Do {b : Nat} (hn : 3 ≤ n) (hx : isNm x = true) (hy : isNm y = true) (hz : isNm z = true) (hb : C.get b = some (.lst [.str y, .str z])) (h : ∀ C' a, Ge C C' → SRow C' a c_Do [lDo x y [y, z]] → Q (.ref a) C') : wpM (mkI G c_Do fun k w => callK G (callF G n) k (w :: [.str x, .str y, .ref b])) C Q E := by
  refine w_mkI rfl ?_
  refine w_callK rfl rfl ?_
  exact sp_Do_init (by omega) new_self hx hy (names2 (new_old hb)) (show 2 ≤ 1000 by decide) (nm2 hy hz) fun C' g e => ⟨rfl, h _ _ g.made (row_Do hx hy hz e)⟩
theorem mkk_Do {b : Nat} (hn : 3 ≤ n) (hx : isNm x = true) (hy : isNm y = true) (hz : isNm z = true) (hb : C.get b = some (.lst [.str y, .str z])) (h : ∀ C' a, Ge C C' → SRow C' a c_Do [lDo x y [y, z]] → Q (.ref a) C') : wpM (mkI G c_Do fun k w => callKw G (callF G n) k (w :: []) [s_given, s_function, s_target] [.ref b, .str y, .str x]) C Q E := by
  refine w_mkI rfl ?_
  refine w_callKw rfl rfl rfl ?_
  exact sp_Do_init (by omega) new_self hx hy (names2 (new_old hb)) (show 2 ≤ 1000 by decide) (nm2 hy hz) fun C' g e => ⟨rfl, h _ _ g.made (row_Do hx hy hz e)⟩
end K05
set_option Elab.async false
set_option linter.all false
set_option maxRecDepth 100000
set_option maxHeartbeats 1000000
namespace BL
open PySem L2
/-- instances stay -/
def KeepI (C C' : Hc) : Prop := ∀ i c fs, C.get i = some (.ins c fs) → C'.get i = some (.ins c fs)
theorem KeepI.refl {C : Hc} : KeepI C C := fun _ _ _ h => h
theorem KeepI.trans {C C1 C2 : Hc} (k : KeepI C C1) (g : KeepI C1 C2) : KeepI C C2 := fun i c fs h => g i c fs (k i c fs h)
theorem KeepI.ge {C C1 C2 : Hc} (k : KeepI C C1) (g : Ge C1 C2) : KeepI C C2 := fun i c fs h => g.at (k i c fs h)
theorem KeepI.put {C C1 : Hc} {a : Nat} {o : O} {xs : List W} (k : KeepI C C1) (h : C1.get a = some (.lst xs)) : KeepI C (C1.put a o) := fun i c fs e => by
  have e1 := k i c fs e
  by_cases q : i = a
  · subst q
    rw [h] at e1
    cases e1
  · rw [put_ne h q]
    exact e1
/-- an append to a list that is younger than C0 -/
theorem v_appG {C0 C : Hc} {a : Nat} {xs : List W} {w : W} {Q : W → Hc → Prop} {E : Xn → Hc → Prop} (h : C.get a = some (.lst xs)) (hf : xs.length < LINE) (g : Ge C0 C) (ha : C0.next ≤ a)
    (k : ∀ D, Ge C0 D → KeepI C D → D.get a = some (.lst (xs ++ [w])) → Q .non D) : wpM (metW (.ref a) .append [w]) C Q E :=
  v_app h hf (k _ (g.put ha (Hc.lt_of_get h)) (KeepI.refl.put h) (put_self h))
end BL
namespace K05
open PySem L2 BL
local macro_rules | `(tactic| walk_at "lb") => `(tactic| first | (show _ ≤ 16777216; omega) | (show _ ≤ 16777216; simp only [len_app, empty_len, List.length_cons, List.length_nil, List.length_append, List.length_map, ln__20_3d_20new, ln__20_3d_20, ln__20, ln__20_3d_20none, ln_use_20, ln_free_20, ln_back_20, ln__20_3d_20do_20, ln_if_20, ln_return_20, ln_return, ln_throw, ln_any, ln_frame, ln_end, ln_while_20any, ln_try, ln_catch, ln_else, ln_local, ln_global, ln_weak]; omega))
local macro_rules | `(tactic| walk_at "hp") => `(tactic| first | assumption | exact new_self | (refine new_old ?_; walk_at "hp") | (refine Ge.at (by assumption) ?_; walk_at "hp") | exact put_self (by walk_at "hp") | (refine (put_ne (by walk_at "hp") (by omega)).trans ?_; walk_at "hp"))
local macro_rules | `(tactic| walk_at "ex") => `(tactic| first | ((with_reducible refine' e_var ?h0 ?_); (case h0 => exact rfl)) | with_reducible refine e_cst ?_ | with_reducible refine e_tup ?_ | with_reducible refine e_lst ?_ | with_reducible refine e_bin ?_ | with_reducible refine e_cmp ?_ | with_reducible refine e_cmp2 ?_ | with_reducible refine e_isN ?_ | with_reducible refine e_not ?_ | with_reducible refine e_neg ?_ | with_reducible refine e_ite ?_ | with_reducible refine e_call ?_ | with_reducible refine e_callk ?_ | with_reducible refine e_mk ?_ | with_reducible refine e_mkk ?_ | with_reducible refine e_blt ?_ | with_reducible refine e_isi ?_ | with_reducible refine e_meth ?_ | with_reducible refine e_bm ?_ | with_reducible refine e_bm0 ?_ | with_reducible refine e_att ?_ | with_reducible refine e_sub ?_ | with_reducible refine e_slc ?_ | with_reducible refine e_rev ?_ | with_reducible refine e_comp ?_ | with_reducible refine e_fst ?_ | with_reducible refine e_fmt ?_ | with_reducible refine e_boo ?_ | with_reducible refine l_nil ?_ | with_reducible refine l_star ?_ | with_reducible refine j_nil ?_ | with_reducible refine j_cons ?_ | with_reducible refine b_one ?_ | with_reducible refine b_and ?_ | with_reducible refine b_or ?_ | with_reducible refine bt_one ?_ | with_reducible refine bt_and ?_ | with_reducible refine bt_or ?_ | with_reducible refine t_boo ?_ | with_reducible refine t_not ?_ | with_reducible refine t_ite ?_ | with_reducible refine tru ?_ | with_reducible refine i_rng1 ?_ | with_reducible refine i_enm ?_ | with_reducible refine i_zip ?_ | with_reducible refine ts_nil ?_ | with_reducible refine ts_one ?_ | ((with_reducible refine' e_glo ?h0 ?_); (case h0 => exact rfl)) | ((with_reducible refine' e_absent ?h0 ?_); (case h0 => exact rfl)) | ((with_reducible refine' e_part ?h0 ?_); (case h0 => exact rfl)) | ((with_reducible refine' l_cons ?h0 ?_); (case h0 => exact rfl)) | ((with_reducible refine' t_val ?h0 ?_); (case h0 => exact rfl)) | ((with_reducible refine' i_val ?h0 ?_); (case h0 => exact rfl)))
local macro_rules | `(tactic| walk_at "sx") => `(tactic| first | with_reducible refine q_nx ?_ | with_reducible refine q_rt ?_ | with_reducible refine q_br ?_ | with_reducible refine q_ct ?_ | with_reducible refine q_exc ?_ | with_reducible refine q_end ?_ | with_reducible refine q_endN ?_ | with_reducible refine q_endX ?_ | with_reducible refine q_tnx ?_ | with_reducible refine q_tct ?_ | with_reducible refine q_tbr ?_ | with_reducible refine q_trt ?_ | with_reducible refine q_tex ?_ | with_reducible refine x_cons ?_ | with_reducible refine x_nil ?_ | with_reducible refine x_asgN ?_ | with_reducible refine x_asgT ?_ | with_reducible refine x_par ?_ | with_reducible refine x_fld ?_ | with_reducible refine x_setI ?_ | with_reducible refine x_expr ?_ | with_reducible refine x_ife ?_ | with_reducible refine x_for ?_ | with_reducible refine x_whl ?_ | with_reducible refine x_ret ?_ | with_reducible refine x_retN ?_ | with_reducible refine x_cont ?_ | with_reducible refine x_brk ?_ | with_reducible refine x_pass ?_)
local macro_rules | `(tactic| walk_at "vx") => `(tactic| first | with_reducible refine v_addI ?_ | with_reducible refine v_subI ?_ | with_reducible refine v_eqS ?_ | with_reducible refine v_neS ?_ | with_reducible refine v_eqI ?_ | with_reducible refine v_neI ?_ | with_reducible refine v_ltI ?_ | with_reducible refine v_leI ?_ | with_reducible refine v_gtI ?_ | with_reducible refine v_geI ?_ | with_reducible refine v_inS ?_ | with_reducible refine v_notIn ?_ | with_reducible refine v_itT ?_ | with_reducible refine v_wT ?_ | with_reducible refine v_wS ?_ | with_reducible refine v_zipT ?_ | with_reducible refine v_lenT ?_ | with_reducible refine v_tupT ?_ | with_reducible refine v_lstT ?_ | with_reducible refine v_intI ?_ | with_reducible refine v_intB ?_ | with_reducible refine v_absI ?_ | with_reducible refine v_strS ?_ | with_reducible refine v_okJ ?_ | ((with_reducible refine' v_mulI ?h0 ?_); (case h0 => exact rfl)) | ((with_reducible refine' v_modI ?h0 ?_); (case h0 => decide)) | ((with_reducible refine' v_divI ?h0 ?h1 ?_); (case h0 => decide); (case h1 => decide)) | ((with_reducible refine' v_powI ?h0 ?h1 ?h2 ?_); (case h0 => decide); (case h1 => decide); (case h2 => decide)) | ((with_reducible refine' v_inT ?h0 ?_); (case h0 => exact rfl)) | ((with_reducible refine' v_subT ?h0 ?_); (case h0 => exact rfl)) | ((with_reducible refine' v_subL ?h0 ?h1 ?_); (case h0 => walk_at "hp"); (case h1 => exact rfl)) | ((with_reducible refine' v_slcT ?h0 ?h1 ?_); (case h0 => exact rfl); (case h1 => exact rfl)) | ((with_reducible refine' v_slcL ?h0 ?h1 ?h2 ?_); (case h0 => walk_at "hp"); (case h1 => exact rfl); (case h2 => exact rfl)) | ((with_reducible refine' v_slcX ?h0 ?h1 ?_); (case h0 => exact rfl); (case h1 => exact rfl)) | ((with_reducible refine' v_rev ?h0 ?_); (case h0 => walk_at "hp")) | ((with_reducible refine' v_itL ?h0 ?_); (case h0 => walk_at "hp")) | ((with_reducible refine' v_att ?h0 ?h1 ?h2 ?_); (case h0 => walk_at "hp"); (case h1 => exact rfl); (case h2 => exact rfl)) | ((with_reducible refine' v_setF ?h0 ?h1 ?_); (case h0 => walk_at "hp"); (case h1 => exact rfl)) | ((with_reducible refine' v_wL ?h0 ?_); (case h0 => walk_at "hp")) | ((with_reducible refine' v_enm ?h0 ?_); (case h0 => walk_at "hp")) | ((with_reducible refine' v_zipL ?h0 ?h1 ?_); (case h0 => walk_at "hp"); (case h1 => walk_at "hp")) | ((with_reducible refine' v_lenL ?h0 ?_); (case h0 => walk_at "hp")) | ((with_reducible refine' v_tupL ?h0 ?_); (case h0 => walk_at "hp")) | ((with_reducible refine' v_lstL ?h0 ?_); (case h0 => walk_at "hp")) | ((with_reducible refine' v_okA ?h0 ?_); (case h0 => walk_at "hp")) | ((with_reducible refine' v_okE ?h0 ?_); (case h0 => walk_at "hp")) | ((with_reducible refine' v_okP ?h0 ?_); (case h0 => walk_at "hp")))
local macro_rules | `(tactic| walk_at "is") => `(tactic| refine ⟨_, _, by exact rfl, by exact rfl, ?_⟩)
local macro_rules | `(tactic| walk_at "ck") => `(tactic| ((with_reducible refine' w_callK ?h0 ?h1 ?_); (case h0 => exact rfl); (case h1 => exact rfl)))
local macro_rules | `(tactic| walk_at "br") => `(tactic| first | ((with_reducible refine br_t ?h0 ?_); (case h0 => exact rfl)) | ((with_reducible refine br_f ?h0 ?_); (case h0 => exact rfl)))
local macro_rules | `(tactic| walk_at "ge") => `(tactic| first | exact Ge.refl | assumption | exact Ge.new | (refine Ge.trans ?_ Ge.new; walk_at "ge") | (refine Ge.trans ?_ (by assumption); walk_at "ge"))
local macro_rules | `(tactic| walk_at "go") => `(tactic| repeat (first | walk_at "ex" | walk_at "sx" | walk_at "vx" | with_reducible refine ⟨_, rfl, ?_⟩ | walk_at "br" | walk_at "ck" | ((with_reducible refine fit_and ?h0 ?_); (case h0 => walk_at "lb")) | ((with_reducible refine len_and ?h0 ?_); (case h0 => exact rfl)) | ((with_reducible refine v_fmtS ?h0 ?_); (case h0 => walk_at "lb"))))
local macro_rules | `(tactic| walk_at "nm") => `(tactic| (refine sp_is_name (by omega) (by walk_at "lb") fun _ _ => ?_; rw [show isNm _ = true by assumption]; walk_at "go"; refine sp_need (by omega) ?_; walk_at "go"))
local macro_rules | `(tactic| walk_at "su") => `(tactic| (refine x_sup (fs := []) rfl rfl (by walk_at "hp") ?_; walk_at "go"))
local macro_rules | `(tactic| walk_at "up") => `(tactic| first | assumption | (refine' Upd.trans ?_ (Upd.put (by walk_at "hp")); walk_at "up"))
local macro_rules | `(tactic| walk_at "ri") => `(tactic| (refine sp_Row_init (by omega) (by walk_at "hp") rfl (.inr ⟨_, rfl, by walk_at "hp"⟩) (.inl rfl) (.inl rfl) fun _ u => ?_; have e1 := u.at_; walk_at "go"))
local macro_rules | `(tactic| walk_at "ki") => `(tactic| first | exact KeepI.refl | (refine KeepI.ge ?_ Ge.new; walk_at "ki") | (refine KeepI.put ?_ (by walk_at "hp"); walk_at "ki") | (refine KeepI.ge ?_ (by assumption); walk_at "ki"))
variable {n : Nat} {C : Hc} {Q : W → Hc → Prop} {E : Xn → Hc → Prop} {a : Nat} {x y z : Str}
theorem IsRow.keep {C C' : Hc} {a c : Nat} {ls : List Str} (h : IsRow C a c ls) (g : KeepI C C') : IsRow C' a c ls := by
  obtain ⟨fs, h1, h2⟩ := h.ex
  exact ⟨⟨fs, g _ _ _ h1, h2⟩, h.cl, h.ok, h.sm⟩
/-- two rows that are alike -/
def PairOk (B : Nat) (C : Hc) (w : W) : Prop := ∃ a b c ls, w = .tup [.ref a, .ref b] ∧ IsRow C a c ls ∧ IsRow C b c ls ∧ wt ls ≤ B
theorem PairOk.keep {B : Nat} {C C' : Hc} {w : W} (h : PairOk B C w) (g : KeepI C C') : PairOk B C' w := by
  obtain ⟨a, b, c, ls, e, h1, h2, h3⟩ := h
  exact ⟨a, b, c, ls, e, h1.keep g, h2.keep g, h3⟩
theorem PairOk.of {C C' : Hc} {a b c : Nat} {ls : List Str} (h1 : SRow C a c ls) (g : Ge C C') (h2 : SRow C' b c ls) : PairOk 1000 C' (.tup [.ref a, .ref b]) := ⟨a, b, c, ls, rfl, h1.toIsRow.ge g, h2.toIsRow, h1.few⟩
theorem sp_zpairs (hn : 4 ≤ n) (hx : isNm x = true) (hy : isNm y = true) (hz : inV (.str z) (kindsL.map toV) = true) (lz : z.length ≤ 6) (oz : okS z = true)
    (h : ∀ C' b ws, Ge C C' → C'.get b = some (.lst ws) → ws.length = 10 → (∀ w ∈ ws, PairOk 1000 C' w) → Q (.ref b) C') : wpM (callF G n k__law_zpairs [.str x, .str y, .str z]) C Q E := by
  match n, hn with
  | n + 1, hn =>
    refine (w_callF (fd := f__law_zpairs) rfl rfl rfl).mpr ?_
    delta f__law_zpairs
    dsimp only
    walk_at "go"
    refine mkk_New (by omega) hx fun C1 a1 g1 r1 => ?_
    walk_at "go"
    refine mk_New (by omega) hx fun C2 b1 g2 s1 => ?_
    have p1 := PairOk.of r1 g2 s1
    walk_at "go"
    refine mkk_Hold (by omega) hx hz lz oz hy fun C3 a2 g3 r2 => ?_
    walk_at "go"
    refine mk_Hold (by omega) hx hz lz oz hy fun C4 b2 g4 s2 => ?_
    have p2 := PairOk.of r2 g4 s2
    walk_at "go"
    refine mkk_Copy (by omega) hx hy fun C5 a3 g5 r3 => ?_
    walk_at "go"
    refine mk_Copy (by omega) hx hy fun C6 b3 g6 s3 => ?_
    have p3 := PairOk.of r3 g6 s3
    walk_at "go"
    refine mkk_Clear (by omega) hy fun C7 a4 g7 r4 => ?_
    walk_at "go"
    refine mk_Clear (by omega) hy fun C8 b4 g8 s4 => ?_
    have p4 := PairOk.of r4 g8 s4
    walk_at "go"
    refine v_addL (by walk_at "hp") (by walk_at "hp") (by walk_at "lb") ?_
    walk_at "go"
    refine mkk_Use (by omega) hx fun C9 a5 g9 r5 => ?_
    walk_at "go"
    refine mk_Use (by omega) hx fun C10 b5 g10 s5 => ?_
    have p5 := PairOk.of r5 g10 s5
    walk_at "go"
    refine mkk_Free (by omega) hy fun C11 a6 g11 r6 => ?_
    walk_at "go"
    refine mk_Free (by omega) hy fun C12 b6 g12 s6 => ?_
    have p6 := PairOk.of r6 g12 s6
    walk_at "go"
    refine mkk_Back (by omega) hx fun C13 a7 g13 r7 => ?_
    walk_at "go"
    refine mk_Back (by omega) hx fun C14 b7 g14 s7 => ?_
    have p7 := PairOk.of r7 g14 s7
    walk_at "go"
    refine v_addL (by walk_at "hp") (by walk_at "hp") (by walk_at "lb") ?_
    walk_at "go"
    refine mkk_Do (by omega) hx hy hx (by walk_at "hp") fun C15 a8 g15 r8 => ?_
    walk_at "go"
    refine mk_Do (by omega) hx hy hx (by walk_at "hp") fun C16 b8 g16 s8 => ?_
    have p8 := PairOk.of r8 (Ge.new.trans g16) s8
    walk_at "go"
    have hf : C16.get (C14.new (O.lst [W.tup [W.ref a5, W.ref b5], W.tup [W.ref a6, W.ref b6], W.tup [W.ref a7, W.ref b7]])).next = some (.lst ([W.tup [W.ref a1, W.ref b1], W.tup [W.ref a2, W.ref b2]] ++ [W.tup [W.ref a3, W.ref b3], W.tup [W.ref a4, W.ref b4]] ++ [W.tup [W.ref a5, W.ref b5], W.tup [W.ref a6, W.ref b6], W.tup [W.ref a7, W.ref b7]])) := by refine Ge.at g16 ?_; refine new_old ?_; refine Ge.at g15 ?_; exact new_old new_self
    have gA : Ge C C14 := by walk_at "ge"
    have gB : Ge C C16 := by walk_at "ge"
    refine v_appG hf (show 7 < 16777216 by decide) gB (by have := gA.nx; show _ ≤ C14.next + 1; omega) fun D gC kD hf2 => ?_
    clear gA gB
    have q1 := p1.keep (KeepI.trans (by clear gC kD; walk_at "ki") kD)
    have q2 := p2.keep (KeepI.trans (by clear gC kD; walk_at "ki") kD)
    have q3 := p3.keep (KeepI.trans (by clear gC kD; walk_at "ki") kD)
    have q4 := p4.keep (KeepI.trans (by clear gC kD; walk_at "ki") kD)
    have q5 := p5.keep (KeepI.trans (by clear gC kD; walk_at "ki") kD)
    have q6 := p6.keep (KeepI.trans (by clear gC kD; walk_at "ki") kD)
    have q7 := p7.keep (KeepI.trans (by clear gC kD; walk_at "ki") kD)
    have q8 := p8.keep (KeepI.trans (by clear gC kD; walk_at "ki") kD)
    clear kD hf p1 p2 p3 p4 p5 p6 p7 p8 r1 r2 r3 r4 r5 r6 r7 r8 s1 s2 s3 s4 s5 s6 s7 s8
    walk_at "go"
    refine mkk_Return (by omega) hx fun D1 a9 k1 t1 => ?_
    walk_at "go"
    refine mk_Return (by omega) hx fun D2 b9 k2 t2 => ?_
    have q9 := PairOk.of t1 k2 t2
    walk_at "go"
    refine mkk_Return0 (by omega) fun D3 a10 k3 t3 => ?_
    walk_at "go"
    refine mk_Return0 (by omega) fun D4 b10 k4 t4 => ?_
    have q10 := PairOk.of t3 k4 t4
    walk_at "go"
    refine v_addL (by walk_at "hp") (by walk_at "hp") (by walk_at "lb") ?_
    walk_at "go"
    have gX : Ge D ((D4.new (O.lst [W.tup [W.ref a9, W.ref b9], W.tup [W.ref a10, W.ref b10]])).new (O.lst ([W.tup [W.ref a1, W.ref b1], W.tup [W.ref a2, W.ref b2]] ++ [W.tup [W.ref a3, W.ref b3], W.tup [W.ref a4, W.ref b4]] ++ [W.tup [W.ref a5, W.ref b5], W.tup [W.ref a6, W.ref b6], W.tup [W.ref a7, W.ref b7]] ++ [W.tup [W.ref a8, W.ref b8]] ++ [W.tup [W.ref a9, W.ref b9], W.tup [W.ref a10, W.ref b10]]))) := (((k1.trans k2).trans k3).trans k4).trans (Ge.new.trans Ge.new)
    have gY : Ge D2 ((D4.new (O.lst [W.tup [W.ref a9, W.ref b9], W.tup [W.ref a10, W.ref b10]])).new (O.lst ([W.tup [W.ref a1, W.ref b1], W.tup [W.ref a2, W.ref b2]] ++ [W.tup [W.ref a3, W.ref b3], W.tup [W.ref a4, W.ref b4]] ++ [W.tup [W.ref a5, W.ref b5], W.tup [W.ref a6, W.ref b6], W.tup [W.ref a7, W.ref b7]] ++ [W.tup [W.ref a8, W.ref b8]] ++ [W.tup [W.ref a9, W.ref b9], W.tup [W.ref a10, W.ref b10]]))) := ((k3).trans k4).trans (Ge.new.trans Ge.new)
    have kX := KeepI.refl.ge gX
    have kY := KeepI.refl.ge gY
    refine h _ _ _ (gC.trans gX) new_self rfl fun w hw => ?_
    simp only [List.cons_append, List.nil_append, List.mem_cons, List.not_mem_nil, or_false] at hw
    rcases hw with rfl | rfl | rfl | rfl | rfl | rfl | rfl | rfl | rfl | rfl
    · exact q1.keep kX
    · exact q2.keep kX
    · exact q3.keep kX
    · exact q4.keep kX
    · exact q5.keep kX
    · exact q6.keep kX
    · exact q7.keep kX
    · exact q8.keep kX
    · exact q9.keep kY
    · exact q10.keep (KeepI.refl.ge (Ge.new.trans Ge.new))
end K05
set_option Elab.async false
set_option linter.all false
set_option maxRecDepth 100000
set_option maxHeartbeats 1000000
namespace K05
open PySem L2 BL
variable {n : Nat} {C : Hc} {Q : W → Hc → Prop} {E : Xn → Hc → Prop} {a : Nat} {x y z : Str} {w u : W} {lss mss : List (List Str)}
/-- a list of some rows, none of them large -/
def Rws (C : Hc) (w : W) (lss : List (List Str)) : Prop := ∃ ws, Items C w ws ∧ RowL C ws lss ∧ 0 < ws.length ∧ ws.length < 100 ∧ wt lss.flatten ≤ 20000
theorem Rws.ge {C C' : Hc} (h : Rws C w lss) (g : Ge C C') : Rws C' w lss := by
  obtain ⟨ws, h1, h2, h3⟩ := h
  exact ⟨ws, h1.ge g, h2.ge g, h3⟩
theorem rowL_ok {C : Hc} : ∀ {ws : List W} {lss : List (List Str)}, RowL C ws lss → ∀ x ∈ lss.flatten, okS x = true
  | _, _, .nil, x, hx => by cases hx
  | _, _, .cons ⟨a, c, _, r⟩ t, x, hx => by
    rw [List.flatten_cons] at hx
    rcases List.mem_append.mp hx with hx | hx
    · exact r.ok x hx
    · exact rowL_ok t x hx
theorem Rws.ok {C : Hc} (h : Rws C w lss) : ∀ x ∈ lss.flatten, okS x = true := by
  obtain ⟨ws, h1, h2, h3⟩ := h
  exact rowL_ok h2
theorem Rws.wt {C : Hc} (h : Rws C w lss) : BL.wt lss.flatten ≤ 20000 := by
  obtain ⟨ws, h1, h2, h3, h4, h5⟩ := h
  exact h5
theorem ok_c {x : Str} {ls : List Str} (h : okS x = true) (k : ∀ x ∈ ls, okS x = true) : ∀ y ∈ x :: ls, okS y = true := fun y hy => by
  rcases List.mem_cons.mp hy with rfl | hy
  · exact h
  · exact k y hy
theorem ok_a {ms ls : List Str} (h : ∀ x ∈ ms, okS x = true) (k : ∀ x ∈ ls, okS x = true) : ∀ y ∈ ms ++ ls, okS y = true := fun y hy => by
  rcases List.mem_append.mp hy with hy | hy
  · exact h y hy
  · exact k y hy
theorem row_Frame {ws : List W} (hr : Rws C w lss) {C' : Hc} (e : C'.get a = some (.ins c_Frame (fFrame ws lss.flatten))) : IsRow C' a c_Frame (lFrame lss.flatten) :=
  ⟨⟨_, e, rfl⟩, by decide +kernel, ok_c ok_frame (ok_a hr.ok (one_ok ok_end)), by have := hr.wt; unfold lFrame; simp only [wt_cons, wt_app, wt_nil, ln_frame, ln_end]; omega⟩
theorem row_While {ws : List W} (hr : Rws C w lss) {C' : Hc} (e : C'.get a = some (.ins c_While (fWhile ws lss.flatten))) : IsRow C' a c_While (lWhile lss.flatten) :=
  ⟨⟨_, e, rfl⟩, by decide +kernel, ok_c ok_while_20any (ok_a hr.ok (one_ok ok_end)), by have := hr.wt; unfold lWhile; simp only [wt_cons, wt_app, wt_nil, ln_while_20any, ln_end]; omega⟩
theorem row_Try {ws us : List W} (hr : Rws C w lss) (hs : Rws C u mss) {C' : Hc} (e : C'.get a = some (.ins c_Try (fTry ws us lss.flatten mss.flatten))) : IsRow C' a c_Try (lTry lss.flatten mss.flatten) :=
  ⟨⟨_, e, rfl⟩, by decide +kernel, ok_c ok_try (ok_a hr.ok (ok_c ok_catch (ok_a hs.ok (one_ok ok_end)))), by have := hr.wt; have := hs.wt; unfold lTry; simp only [wt_cons, wt_app, wt_nil, ln_try, ln_catch, ln_end]; omega⟩
theorem row_If {ws us : List W} (hr : Rws C w lss) (hs : Rws C u mss) {C' : Hc} (e : C'.get a = some (.ins c_If (fIf s_any ws us lss.flatten mss.flatten))) : IsRow C' a c_If (lIf s_any lss.flatten mss.flatten) :=
  ⟨⟨_, e, rfl⟩, by decide +kernel, ok_c (okS_app (okS_app okS_empty ok_if_20) ok_any) (ok_a (ok_a hr.ok (ok_c ok_else hs.ok)) (one_ok ok_end)), by have := hr.wt; have := hs.wt; unfold lIf; simp only [wt_cons, wt_app, wt_nil, len_app, empty_len, ln_if_20, ln_any, ln_else, ln_end]; omega⟩
theorem in_Frame (hn : 3 ≤ n) (hr : Rws C w lss) (h : ∀ C' a, Ge C C' → IsRow C' a c_Frame (lFrame lss.flatten) → Q (.ref a) C') : wpM (callF G n k_Frame___init__ [.ref C.next, w]) (C.new (.ins c_Frame [])) (fun r C' => r = .non ∧ Q (.ref C.next) C') E := by
  obtain ⟨ws, h1, h2, h3, h4, h5⟩ := hr
  exact sp_Frame_init hn new_self (h1.ge Ge.new) (h2.ge Ge.new) (by omega) (by omega) fun C' g e => ⟨rfl, h _ _ g.made (row_Frame ⟨ws, h1, h2, h3, h4, h5⟩ e)⟩
theorem mk_Frame (hn : 3 ≤ n) (hr : Rws C w lss) (h : ∀ C' a, Ge C C' → IsRow C' a c_Frame (lFrame lss.flatten) → Q (.ref a) C') : wpM (mkI G c_Frame fun k s => callK G (callF G n) k (s :: [w])) C Q E := by
  refine w_mkI rfl ?_
  refine w_callK rfl rfl ?_
  exact in_Frame hn hr h
theorem mkk_Frame (hn : 3 ≤ n) (hr : Rws C w lss) (h : ∀ C' a, Ge C C' → IsRow C' a c_Frame (lFrame lss.flatten) → Q (.ref a) C') : wpM (mkI G c_Frame fun k s => callKw G (callF G n) k (s :: []) [s_rows] [w]) C Q E := by
  refine w_mkI rfl ?_
  refine w_callKw rfl rfl rfl ?_
  exact in_Frame hn hr h
theorem in_While (hn : 3 ≤ n) (hr : Rws C w lss) (h : ∀ C' a, Ge C C' → IsRow C' a c_While (lWhile lss.flatten) → Q (.ref a) C') : wpM (callF G n k_While___init__ [.ref C.next, w]) (C.new (.ins c_While [])) (fun r C' => r = .non ∧ Q (.ref C.next) C') E := by
  obtain ⟨ws, h1, h2, h3, h4, h5⟩ := hr
  exact sp_While_init hn new_self (h1.ge Ge.new) (h2.ge Ge.new) (by omega) (by omega) fun C' g e => ⟨rfl, h _ _ g.made (row_While ⟨ws, h1, h2, h3, h4, h5⟩ e)⟩
theorem mk_While (hn : 3 ≤ n) (hr : Rws C w lss) (h : ∀ C' a, Ge C C' → IsRow C' a c_While (lWhile lss.flatten) → Q (.ref a) C') : wpM (mkI G c_While fun k s => callK G (callF G n) k (s :: [w])) C Q E := by
  refine w_mkI rfl ?_
  refine w_callK rfl rfl ?_
  exact in_While hn hr h
theorem mkk_While (hn : 3 ≤ n) (hr : Rws C w lss) (h : ∀ C' a, Ge C C' → IsRow C' a c_While (lWhile lss.flatten) → Q (.ref a) C') : wpM (mkI G c_While fun k s => callKw G (callF G n) k (s :: []) [s_rows] [w]) C Q E := by
  refine w_mkI rfl ?_
  refine w_callKw rfl rfl rfl ?_
  exact in_While hn hr h
theorem in_Try (hn : 3 ≤ n) (hr : Rws C w lss) (hs : Rws C u mss) (h : ∀ C' a, Ge C C' → IsRow C' a c_Try (lTry lss.flatten mss.flatten) → Q (.ref a) C') : wpM (callF G n k_Try___init__ [.ref C.next, w, u]) (C.new (.ins c_Try [])) (fun r C' => r = .non ∧ Q (.ref C.next) C') E := by
  obtain ⟨ws, h1, h2, h3, h4, h5⟩ := hr
  obtain ⟨us, i1, i2, i3, i4, i5⟩ := hs
  exact sp_Try_init hn new_self (h1.ge Ge.new) (h2.ge Ge.new) (by omega) (by omega) (i1.ge Ge.new) (i2.ge Ge.new) (by omega) (by omega) fun C' g e => ⟨rfl, h _ _ g.made (row_Try ⟨ws, h1, h2, h3, h4, h5⟩ ⟨us, i1, i2, i3, i4, i5⟩ e)⟩
theorem mk_Try (hn : 3 ≤ n) (hr : Rws C w lss) (hs : Rws C u mss) (h : ∀ C' a, Ge C C' → IsRow C' a c_Try (lTry lss.flatten mss.flatten) → Q (.ref a) C') : wpM (mkI G c_Try fun k s => callK G (callF G n) k (s :: [w, u])) C Q E := by
  refine w_mkI rfl ?_
  refine w_callK rfl rfl ?_
  exact in_Try hn hr hs h
theorem mkk_Try (hn : 3 ≤ n) (hr : Rws C w lss) (hs : Rws C u mss) (h : ∀ C' a, Ge C C' → IsRow C' a c_Try (lTry lss.flatten mss.flatten) → Q (.ref a) C') : wpM (mkI G c_Try fun k s => callKw G (callF G n) k (s :: []) [s_others, s_rows] [u, w]) C Q E := by
  refine w_mkI rfl ?_
  refine w_callKw rfl rfl rfl ?_
  exact in_Try hn hr hs h
theorem in_If (hn : 3 ≤ n) (hr : Rws C w lss) (hs : Rws C u mss) (h : ∀ C' a, Ge C C' → IsRow C' a c_If (lIf s_any lss.flatten mss.flatten) → Q (.ref a) C') : wpM (callF G n k_If___init__ [.ref C.next, .str s_any, w, u]) (C.new (.ins c_If [])) (fun r C' => r = .non ∧ Q (.ref C.next) C') E := by
  obtain ⟨ws, h1, h2, h3, h4, h5⟩ := hr
  obtain ⟨us, i1, i2, i3, i4, i5⟩ := hs
  exact sp_If_init hn new_self (h1.ge Ge.new) (h2.ge Ge.new) (by omega) (by omega) (i1.ge Ge.new) (i2.ge Ge.new) (by omega) (by omega) i3 fun C' g e => ⟨rfl, h _ _ g.made (row_If ⟨ws, h1, h2, h3, h4, h5⟩ ⟨us, i1, i2, i3, i4, i5⟩ e)⟩
theorem mk_If (hn : 3 ≤ n) (hr : Rws C w lss) (hs : Rws C u mss) (h : ∀ C' a, Ge C C' → IsRow C' a c_If (lIf s_any lss.flatten mss.flatten) → Q (.ref a) C') : wpM (mkI G c_If fun k s => callK G (callF G n) k (s :: [.str s_any, w, u])) C Q E := by
  refine w_mkI rfl ?_
  refine w_callK rfl rfl ?_
  exact in_If hn hr hs h
theorem mkk_If (hn : 3 ≤ n) (hr : Rws C w lss) (hs : Rws C u mss) (h : ∀ C' a, Ge C C' → IsRow C' a c_If (lIf s_any lss.flatten mss.flatten) → Q (.ref a) C') : wpM (mkI G c_If fun k s => callKw G (callF G n) k (s :: []) [s_others, s_rows, s_name] [u, w, .str s_any]) C Q E := by
  refine w_mkI rfl ?_
  refine w_callKw rfl rfl rfl ?_
  exact in_If hn hr hs h
/-! ### the picks -/
theorem sp_pick (hn : 2 ≤ n) {d b : Nat} {xs : List W} (hd : IsDeal C d) (hb : C.get b = some (.lst xs)) (h0 : 0 < xs.length) (h1 : xs.length < 1000) (h : ∀ w ∈ xs, Q w C) : wpM (callF G n k__law_pick [.ref d, .ref b]) C Q E := by
  match n, hn with
  | n + 2, hn =>
    refine (w_callF (fd := f__law_pick) rfl rfl rfl).mpr ?_
    delta f__law_pick
    dsimp only
    refine x_cons ?_
    refine x_ret ?_
    refine e_sub ?_
    refine e_var rfl ?_
    refine e_call ?_
    refine l_cons rfl ?_
    refine e_var rfl ?_
    refine l_cons rfl ?_
    refine e_blt ?_
    refine l_cons rfl ?_
    refine e_var rfl ?_
    refine l_nil ?_
    refine v_lenL hb ?_
    refine l_nil ?_
    refine w_callK rfl rfl ?_
    refine w_draw (m := (xs.length : Int)) (fd := f__law_draw) rfl rfl hd (by omega) (by omega) fun r hr => ?_
    have hr' : r < xs.length := by omega
    refine v_subL hb (w := xs[r]) ?_ ?_
    · exact atI_nat (List.getElem?_eq_getElem hr')
    · exact h _ (List.getElem_mem hr')
end K05
set_option Elab.async false
set_option linter.all false
set_option maxRecDepth 100000
set_option maxHeartbeats 1000000
namespace BL
open PySem L2
/-- all arguments given -/
theorem w_callKx {G : Sg} {cf : Cf} {k : Nat} {fd : Fd} {ws : List W} {C : Hc} {Q : W → Hc → Prop} {E : Xn → Hc → Prop} (hk : G.fns[k]? = some fd) (hf : fill fd ws = some ws) (h : wpM (cf k ws) C Q E) : wpM (callK G cf k ws) C Q E := w_callK hk hf h
end BL
namespace K05
open PySem L2 BL
local macro_rules | `(tactic| walk_at "lb") => `(tactic| first | (show _ ≤ 16777216; omega) | (show _ ≤ 16777216; simp only [len_app, empty_len, List.length_cons, List.length_nil, List.length_append, List.length_map, ln__20_3d_20new, ln__20_3d_20, ln__20, ln__20_3d_20none, ln_use_20, ln_free_20, ln_back_20, ln__20_3d_20do_20, ln_if_20, ln_return_20, ln_return, ln_throw, ln_any, ln_frame, ln_end, ln_while_20any, ln_try, ln_catch, ln_else, ln_local, ln_global, ln_weak]; omega))
local macro_rules | `(tactic| walk_at "hp") => `(tactic| first | assumption | exact new_self | (refine new_old ?_; walk_at "hp") | (refine Ge.at (by assumption) ?_; walk_at "hp") | exact put_self (by walk_at "hp") | (refine (put_ne (by walk_at "hp") (by omega)).trans ?_; walk_at "hp"))
local macro_rules | `(tactic| walk_at "ex") => `(tactic| first | ((with_reducible refine' e_var ?h0 ?_); (case h0 => exact rfl)) | with_reducible refine e_cst ?_ | with_reducible refine e_tup ?_ | with_reducible refine e_lst ?_ | with_reducible refine e_bin ?_ | with_reducible refine e_cmp ?_ | with_reducible refine e_cmp2 ?_ | with_reducible refine e_isN ?_ | with_reducible refine e_not ?_ | with_reducible refine e_neg ?_ | with_reducible refine e_ite ?_ | with_reducible refine e_call ?_ | with_reducible refine e_callk ?_ | with_reducible refine e_mk ?_ | with_reducible refine e_mkk ?_ | with_reducible refine e_blt ?_ | with_reducible refine e_isi ?_ | with_reducible refine e_meth ?_ | with_reducible refine e_bm ?_ | with_reducible refine e_bm0 ?_ | with_reducible refine e_att ?_ | with_reducible refine e_sub ?_ | with_reducible refine e_slc ?_ | with_reducible refine e_rev ?_ | with_reducible refine e_comp ?_ | with_reducible refine e_fst ?_ | with_reducible refine e_fmt ?_ | with_reducible refine e_boo ?_ | with_reducible refine l_nil ?_ | with_reducible refine l_star ?_ | with_reducible refine j_nil ?_ | with_reducible refine j_cons ?_ | with_reducible refine b_one ?_ | with_reducible refine b_and ?_ | with_reducible refine b_or ?_ | with_reducible refine bt_one ?_ | with_reducible refine bt_and ?_ | with_reducible refine bt_or ?_ | with_reducible refine t_boo ?_ | with_reducible refine t_not ?_ | with_reducible refine t_ite ?_ | with_reducible refine tru ?_ | with_reducible refine i_rng1 ?_ | with_reducible refine i_enm ?_ | with_reducible refine i_zip ?_ | with_reducible refine ts_nil ?_ | with_reducible refine ts_one ?_ | ((with_reducible refine' e_glo ?h0 ?_); (case h0 => exact rfl)) | ((with_reducible refine' e_absent ?h0 ?_); (case h0 => exact rfl)) | ((with_reducible refine' e_part ?h0 ?_); (case h0 => exact rfl)) | ((with_reducible refine' l_cons ?h0 ?_); (case h0 => exact rfl)) | ((with_reducible refine' t_val ?h0 ?_); (case h0 => exact rfl)) | ((with_reducible refine' i_val ?h0 ?_); (case h0 => exact rfl)))
local macro_rules | `(tactic| walk_at "sx") => `(tactic| first | with_reducible refine q_nx ?_ | with_reducible refine q_rt ?_ | with_reducible refine q_br ?_ | with_reducible refine q_ct ?_ | with_reducible refine q_exc ?_ | with_reducible refine q_end ?_ | with_reducible refine q_endN ?_ | with_reducible refine q_endX ?_ | with_reducible refine q_tnx ?_ | with_reducible refine q_tct ?_ | with_reducible refine q_tbr ?_ | with_reducible refine q_trt ?_ | with_reducible refine q_tex ?_ | with_reducible refine x_cons ?_ | with_reducible refine x_nil ?_ | with_reducible refine x_asgN ?_ | with_reducible refine x_asgT ?_ | with_reducible refine x_par ?_ | with_reducible refine x_fld ?_ | with_reducible refine x_setI ?_ | with_reducible refine x_expr ?_ | with_reducible refine x_ife ?_ | with_reducible refine x_for ?_ | with_reducible refine x_whl ?_ | with_reducible refine x_ret ?_ | with_reducible refine x_retN ?_ | with_reducible refine x_cont ?_ | with_reducible refine x_brk ?_ | with_reducible refine x_pass ?_)
local macro_rules | `(tactic| walk_at "vx") => `(tactic| first | with_reducible refine v_addI ?_ | with_reducible refine v_subI ?_ | with_reducible refine v_eqS ?_ | with_reducible refine v_neS ?_ | with_reducible refine v_eqI ?_ | with_reducible refine v_neI ?_ | with_reducible refine v_ltI ?_ | with_reducible refine v_leI ?_ | with_reducible refine v_gtI ?_ | with_reducible refine v_geI ?_ | with_reducible refine v_inS ?_ | with_reducible refine v_notIn ?_ | with_reducible refine v_itT ?_ | with_reducible refine v_wT ?_ | with_reducible refine v_wS ?_ | with_reducible refine v_zipT ?_ | with_reducible refine v_lenT ?_ | with_reducible refine v_tupT ?_ | with_reducible refine v_lstT ?_ | with_reducible refine v_intI ?_ | with_reducible refine v_intB ?_ | with_reducible refine v_absI ?_ | with_reducible refine v_strS ?_ | with_reducible refine v_okJ ?_ | ((with_reducible refine' v_mulI ?h0 ?_); (case h0 => exact rfl)) | ((with_reducible refine' v_modI ?h0 ?_); (case h0 => decide)) | ((with_reducible refine' v_divI ?h0 ?h1 ?_); (case h0 => decide); (case h1 => decide)) | ((with_reducible refine' v_powI ?h0 ?h1 ?h2 ?_); (case h0 => decide); (case h1 => decide); (case h2 => decide)) | ((with_reducible refine' v_inT ?h0 ?_); (case h0 => exact rfl)) | ((with_reducible refine' v_subT ?h0 ?_); (case h0 => exact rfl)) | ((with_reducible refine' v_subL ?h0 ?h1 ?_); (case h0 => walk_at "hp"); (case h1 => exact rfl)) | ((with_reducible refine' v_slcT ?h0 ?h1 ?_); (case h0 => exact rfl); (case h1 => exact rfl)) | ((with_reducible refine' v_slcL ?h0 ?h1 ?h2 ?_); (case h0 => walk_at "hp"); (case h1 => exact rfl); (case h2 => exact rfl)) | ((with_reducible refine' v_slcX ?h0 ?h1 ?_); (case h0 => exact rfl); (case h1 => exact rfl)) | ((with_reducible refine' v_rev ?h0 ?_); (case h0 => walk_at "hp")) | ((with_reducible refine' v_itL ?h0 ?_); (case h0 => walk_at "hp")) | ((with_reducible refine' v_att ?h0 ?h1 ?h2 ?_); (case h0 => walk_at "hp"); (case h1 => exact rfl); (case h2 => exact rfl)) | ((with_reducible refine' v_setF ?h0 ?h1 ?_); (case h0 => walk_at "hp"); (case h1 => exact rfl)) | ((with_reducible refine' v_wL ?h0 ?_); (case h0 => walk_at "hp")) | ((with_reducible refine' v_enm ?h0 ?_); (case h0 => walk_at "hp")) | ((with_reducible refine' v_zipL ?h0 ?h1 ?_); (case h0 => walk_at "hp"); (case h1 => walk_at "hp")) | ((with_reducible refine' v_lenL ?h0 ?_); (case h0 => walk_at "hp")) | ((with_reducible refine' v_tupL ?h0 ?_); (case h0 => walk_at "hp")) | ((with_reducible refine' v_lstL ?h0 ?_); (case h0 => walk_at "hp")) | ((with_reducible refine' v_okA ?h0 ?_); (case h0 => walk_at "hp")) | ((with_reducible refine' v_okE ?h0 ?_); (case h0 => walk_at "hp")) | ((with_reducible refine' v_okP ?h0 ?_); (case h0 => walk_at "hp")))
local macro_rules | `(tactic| walk_at "is") => `(tactic| refine ⟨_, _, by exact rfl, by exact rfl, ?_⟩)
local macro_rules | `(tactic| walk_at "ck") => `(tactic| ((with_reducible refine' w_callK ?h0 ?h1 ?_); (case h0 => exact rfl); (case h1 => exact rfl)))
local macro_rules | `(tactic| walk_at "br") => `(tactic| first | ((with_reducible refine br_t ?h0 ?_); (case h0 => exact rfl)) | ((with_reducible refine br_f ?h0 ?_); (case h0 => exact rfl)))
local macro_rules | `(tactic| walk_at "ge") => `(tactic| first | exact Ge.refl | assumption | exact Ge.new | (refine Ge.trans ?_ Ge.new; walk_at "ge") | (refine Ge.trans ?_ (by assumption); walk_at "ge"))
local macro_rules | `(tactic| walk_at "go") => `(tactic| repeat (first | walk_at "ex" | walk_at "sx" | walk_at "vx" | with_reducible refine ⟨_, rfl, ?_⟩ | walk_at "br" | walk_at "ck" | ((with_reducible refine fit_and ?h0 ?_); (case h0 => walk_at "lb")) | ((with_reducible refine len_and ?h0 ?_); (case h0 => exact rfl)) | ((with_reducible refine v_fmtS ?h0 ?_); (case h0 => walk_at "lb"))))
local macro_rules | `(tactic| walk_at "nm") => `(tactic| (refine sp_is_name (by omega) (by walk_at "lb") fun _ _ => ?_; rw [show isNm _ = true by assumption]; walk_at "go"; refine sp_need (by omega) ?_; walk_at "go"))
local macro_rules | `(tactic| walk_at "su") => `(tactic| (refine x_sup (fs := []) rfl rfl (by walk_at "hp") ?_; walk_at "go"))
local macro_rules | `(tactic| walk_at "up") => `(tactic| first | assumption | (refine' Upd.trans ?_ (Upd.put (by walk_at "hp")); walk_at "up"))
local macro_rules | `(tactic| walk_at "ri") => `(tactic| (refine sp_Row_init (by omega) (by walk_at "hp") rfl (.inr ⟨_, rfl, by walk_at "hp"⟩) (.inl rfl) (.inl rfl) fun _ u => ?_; have e1 := u.at_; walk_at "go"))
local macro_rules | `(tactic| walk_at "ki") => `(tactic| first | exact KeepI.refl | (refine KeepI.ge ?_ Ge.new; walk_at "ki") | (refine KeepI.put ?_ (by walk_at "hp"); walk_at "ki") | (refine KeepI.ge ?_ (by assumption); walk_at "ki"))
variable {n : Nat} {C : Hc} {Q : W → Hc → Prop} {QB : Bool → Hc → Prop} {E : Xn → Hc → Prop} {a : Nat} {x y z : Str}
theorem Rws.keep {C C' : Hc} {b : Nat} {ws : List W} {lss : List (List Str)} (g : KeepI C C') (h : RowL C ws lss) : RowL C' ws lss := paired_mono (fun _ _ ⟨a, c, e, r⟩ => ⟨a, c, e, r.keep g⟩) h
def chkE (i : Nat) : BL.E := (.cmp .NotEq (.comp (.var 8) (.tp [8, 9]) (.var i) [(.boo .Or [(.cmp .NotEq (.var 8) (.var 9)), (.cmp .NotEq (.blt .str [(.var 8)]) (.blt .str [(.var 9)]))])] [(s__law_zone, 8), (s__law_zother, 9)]) (.lst []))
theorem rd_nil {C : Hc} {a : Nat} (h : C.get a = some (.lst [])) : rdW C DEEP (.ref a) = some (.list []) := by
  show (match C.get a with
      | some (.lst ws) => (rdL (rdW C 69) ws).map PyData.list
      | _ => none) = _
  rw [h]
  rfl
theorem chk (hn : 1 ≤ n) {i b B : Nat} {ws : List W} {e0 e1 e2 e3 e4 e5 e6 e7 e8 e9 : Option W} (hv : [e0, e1, e2, e3, e4, e5, e6, e7, e8, e9][i]? = some (some (.ref b))) (hb : C.get b = some (.lst ws)) (hl : ws.length < 1000) (hp : ∀ w ∈ ws, PairOk B C w)
    (h : ∀ C', Ge C C' → QB false C') : wpM ((ev G (callF G n) (chkE i)).tst [e0, e1, e2, e3, e4, e5, e6, e7, e8, e9]) C QB E := by
  unfold chkE
  refine t_val rfl ?_
  refine e_cmp ?_
  refine e_comp ?_
  refine i_val rfl ?_
  refine e_var hv ?_
  refine v_wL hb ?_
  refine w_compR (ws := ws) (fun _ _ _ => True) (fun _ _ => trivial) (fun _ => false) (Nat.lt_trans hl (by decide)) (walks_lst hb) (fun w C1 hw g => ?_) (fun ys C' g hp => ?_)
  · obtain ⟨a, b, c, ls, e, h1, h2, h3⟩ := hp w hw
    subst e
    refine ⟨_, rfl, ?_⟩
    refine ts_one ?_
    refine t_boo ?_
    refine bt_or ?_
    refine t_val rfl ?_
    refine e_cmp ?_
    refine e_var rfl ?_
    refine e_var rfl ?_
    refine v_ne ?_
    refine sp_eq hn (h1.ge g) (h2.ge g) ?_
    refine tru ?_
    refine ⟨fun z => by simp at z, fun _ => ?_⟩
    refine bt_one ?_
    refine t_val rfl ?_
    refine e_cmp ?_
    refine e_blt ?_
    refine l_cons rfl ?_
    refine e_var rfl ?_
    refine l_nil ?_
    refine sp_str hn (h1.ge g) ?_
    refine e_blt ?_
    refine l_cons rfl ?_
    refine e_var rfl ?_
    refine l_nil ?_
    refine sp_str hn (h2.ge g) ?_
    refine v_neS ?_
    refine tru ?_
    exact ⟨.refl, by simp, fun z => by simp at z⟩
  · rw [show (ws.filter fun _ => false) = [] from List.filter_eq_nil_iff.mpr (by simp)] at hp
    cases hp
    refine e_lst ?_
    refine l_nil ?_
    refine fit_and (by decide) ?_
    refine v_neL (new_old new_self) ?_ ?_ (d := .list []) (e := .list []) rfl rfl ?_
    · exact rd_nil (new_old new_self)
    · exact rd_nil new_self
    · refine tru ?_
      exact h _ (g.trans (Ge.new.trans Ge.new))
theorem cut_le {α : Type} (xs : List α) (r : Nat) (h : 0 < xs.length) : ∃ m, 0 < m ∧ cutW xs none (some (1 + (r : Int))) = xs.take m := by
  unfold cutW
  refine ⟨HT.sIx xs.length xs.length (some (1 + (r : Int))) - 0, ?_, rfl⟩
  show 0 < (if (1 + (r : Int)) < 0 then (1 + (r : Int) + (xs.length : Int)).toNat else min (1 + (r : Int)).toNat xs.length) - 0
  rw [if_neg (by omega)]
  omega
def NmPair (w : W) : Prop := ∃ x y, w = .tup [.str x, .str y] ∧ isNm x = true ∧ isNm y = true
def KindW (w : W) : Prop := ∃ z, w = .str z ∧ inV (.str z) (kindsL.map toV) = true ∧ z.length ≤ 6 ∧ okS z = true
theorem nmPairs : ∀ w ∈ [W.tup [.str s_a, .str s_ab], .tup [.str s_call, .str s_on], .tup [.str s_z, .str s_zzzz], .tup [.str s_q, .str s_q]], NmPair w := fun w hw => by
  simp only [List.mem_cons, List.not_mem_nil, or_false] at hw
  rcases hw with rfl | rfl | rfl | rfl
  · exact ⟨_, _, rfl, by decide +kernel, by decide +kernel⟩
  · exact ⟨_, _, rfl, by decide +kernel, by decide +kernel⟩
  · exact ⟨_, _, rfl, by decide +kernel, by decide +kernel⟩
  · exact ⟨_, _, rfl, by decide +kernel, by decide +kernel⟩
theorem kindWs : ∀ w ∈ [W.str s_local, .str s_global, .str s_weak], KindW w := fun w hw => by
  simp only [List.mem_cons, List.not_mem_nil, or_false] at hw
  rcases hw with rfl | rfl | rfl
  · exact ⟨_, rfl, by decide +kernel, by decide +kernel, by decide +kernel⟩
  · exact ⟨_, rfl, by decide +kernel, by decide +kernel, by decide +kernel⟩
  · exact ⟨_, rfl, by decide +kernel, by decide +kernel, by decide +kernel⟩
theorem nmPairsC {P : W → Prop} (h : ∀ x y, isNm x = true → isNm y = true → P (.tup [.str x, .str y])) : ∀ w ∈ [W.tup [.str s_a, .str s_ab], .tup [.str s_call, .str s_on], .tup [.str s_z, .str s_zzzz], .tup [.str s_q, .str s_q]], P w := fun w hw => by
  obtain ⟨x, y, e, hx, hy⟩ := nmPairs w hw
  rw [e]
  exact h x y hx hy
theorem kindWsC {P : W → Prop} (h : ∀ z, inV (.str z) (kindsL.map toV) = true → z.length ≤ 6 → okS z = true → P (.str z)) : ∀ w ∈ [W.str s_local, .str s_global, .str s_weak], P w := fun w hw => by
  obtain ⟨z, e, h1, h2, h3⟩ := kindWs w hw
  rw [e]
  exact h z h1 h2 h3
def OneOf (C : Hc) (w y : W) : Prop := ∃ a b c ls, w = .tup [.ref a, .ref b] ∧ y = .ref a ∧ IsRow C a c ls ∧ wt ls ≤ 1000
theorem OneOf.ge {C C' : Hc} {w y : W} (g : Ge C C') (h : OneOf C w y) : OneOf C' w y := by
  obtain ⟨a, b, c, ls, e1, e2, r, hw⟩ := h
  exact ⟨a, b, c, ls, e1, e2, r.ge g, hw⟩
theorem ones : ∀ {ws ys : List W} {C : Hc}, Paired (OneOf C) ws ys → ∃ lss, RowL C ys lss ∧ wt lss.flatten ≤ 1000 * ys.length
  | _, _, _, .nil => ⟨[], .nil, by simp [wt_nil]⟩
  | _, _, _, .cons ⟨a, b, c, ls, e1, e2, r, hw⟩ t => by
    obtain ⟨lss, h1, h2⟩ := ones t
    refine ⟨ls :: lss, .cons ⟨a, c, e2, r⟩ h1, ?_⟩
    rw [List.flatten_cons, wt_app, List.length_cons]
    omega
abbrev turnB2 : List S := [(.asg (.nm 5) (.lst [(.tup [(.mkk c_Frame [] [s_rows] [(.var 4)]), (.mk c_Frame [(.var 4)])]), (.tup [(.mkk c_While [] [s_rows] [(.var 4)]), (.mk c_While [(.var 4)])])])),
    (.expr (.bm (.var 5) .append [(.tup [(.mkk c_Try [] [s_others, s_rows] [(.var 4), (.lst [(.mk c_Throw [])])]), (.mk c_Try [(.lst [(.mk c_Throw [])]), (.var 4)])])])),
    (.expr (.bm (.var 5) .append [(.tup [(.mkk c_If [] [s_others, s_rows, s_name] [(.lst [(.mk c_Throw [])]), (.var 4), (.cst (.str s_any))]), (.mk c_If [(.cst (.str s_any)), (.var 4), (.lst [(.mk c_Throw [])])])])])),
    (.ife (.cmp .NotEq (.comp (.var 8) (.tp [8, 9]) (.var 5) [(.boo .Or [(.cmp .NotEq (.var 8) (.var 9)), (.cmp .NotEq (.blt .str [(.var 8)]) (.blt .str [(.var 9)]))])] [(s__law_zone, 8), (s__law_zother, 9)]) (.lst [])) [(.ret (.cst (.bl false)))] [])]
abbrev turnB : List S := [(.asg (.tp [6, 7]) (.call k__law_pick [(.var 1), (.lst [(.tup [(.cst (.str s_a)), (.cst (.str s_ab))]), (.tup [(.cst (.str s_call)), (.cst (.str s_on))]), (.tup [(.cst (.str s_z)), (.cst (.str s_zzzz))]), (.tup [(.cst (.str s_q)), (.cst (.str s_q))])])])),
    (.asg (.nm 3) (.call k__law_zpairs [(.var 6), (.var 7), (.call k__law_pick [(.var 1), (.lst [(.cst (.str s_local)), (.cst (.str s_global)), (.cst (.str s_weak))])])])),
    (.ife (.cmp .NotEq (.comp (.var 8) (.tp [8, 9]) (.var 3) [(.boo .Or [(.cmp .NotEq (.var 8) (.var 9)), (.cmp .NotEq (.blt .str [(.var 8)]) (.blt .str [(.var 9)]))])] [(s__law_zone, 8), (s__law_zother, 9)]) (.lst [])) [(.ret (.cst (.bl false)))] []),
    (.asg (.nm 4) (.comp (.var 8) (.tp [8, 9]) (.slc (.var 3) .abs (.bin .Add (.cst (.int 1)) (.call k__law_draw [(.var 1), (.cst (.int 9))]))) [] [(s__law_zone, 8), (s__law_zother, 9)])),
    (.asg (.nm 5) (.lst [(.tup [(.mkk c_Frame [] [s_rows] [(.var 4)]), (.mk c_Frame [(.var 4)])]), (.tup [(.mkk c_While [] [s_rows] [(.var 4)]), (.mk c_While [(.var 4)])])])),
    (.expr (.bm (.var 5) .append [(.tup [(.mkk c_Try [] [s_others, s_rows] [(.var 4), (.lst [(.mk c_Throw [])])]), (.mk c_Try [(.lst [(.mk c_Throw [])]), (.var 4)])])])),
    (.expr (.bm (.var 5) .append [(.tup [(.mkk c_If [] [s_others, s_rows, s_name] [(.lst [(.mk c_Throw [])]), (.var 4), (.cst (.str s_any))]), (.mk c_If [(.cst (.str s_any)), (.var 4), (.lst [(.mk c_Throw [])])])])])),
    (.ife (.cmp .NotEq (.comp (.var 8) (.tp [8, 9]) (.var 5) [(.boo .Or [(.cmp .NotEq (.var 8) (.var 9)), (.cmp .NotEq (.blt .str [(.var 8)]) (.blt .str [(.var 9)]))])] [(s__law_zone, 8), (s__law_zother, 9)]) (.lst [])) [(.ret (.cst (.bl false)))] [])]
theorem thr_rws {t : Nat} (h : SRow C t c_Throw [s_throw]) : Rws (C.new (.lst [.ref t])) (.ref C.next) [[s_throw]] :=
  ⟨[.ref t], .inr ⟨_, rfl, new_self⟩, .cons ⟨t, _, rfl, h.toIsRow.ge Ge.new⟩ .nil, Nat.zero_lt_one, (by decide : 1 < 100), by decide +kernel⟩
theorem PairOk.of2 {C C' : Hc} {a b c : Nat} {ls : List Str} (h1 : IsRow C a c ls) (g : Ge C C') (h2 : IsRow C' b c ls) : PairOk 1000000 C' (.tup [.ref a, .ref b]) := ⟨a, b, c, ls, rfl, h1.ge g, h2, h1.sm⟩
theorem turn2 (hn : 5 ≤ n) {d q : Nat} {e0 e2 e3 e5 e6 e7 e8 e9 : Option W} {QX : XF → Prop} {lss : List (List Str)} (hd : IsDeal C d) (hr : Rws C (.ref q) lss)
    (h : ∀ C' f2 f3 f4 f5 f6 f7 f8 f9, IsDeal C' d → QX (.nx [e0, some (.ref d), f2, f3, f4, f5, f6, f7, f8, f9] C')) : (evSs G (callF G n) turnB2 [e0, some (.ref d), e2, e3, some (.ref q), e5, e6, e7, e8, e9] C).wp QX := by
  delta turnB2
  walk_at "go"
  refine mkk_Frame (by omega) hr fun C1 a1 g1 r1 => ?_
  walk_at "go"
  refine mk_Frame (by omega) (hr.ge g1) fun C2 b1 g2 s1 => ?_
  have p1 := PairOk.of2 r1 g2 s1
  walk_at "go"
  refine mkk_While (by omega) (hr.ge (g1.trans g2)) fun C3 a2 g3 r2 => ?_
  walk_at "go"
  refine mk_While (by omega) (hr.ge ((g1.trans g2).trans g3)) fun C4 b2 g4 s2 => ?_
  have p2 := (PairOk.of2 r2 g4 s2)
  have p1 := p1.keep (KeepI.refl.ge (g3.trans g4))
  have gA : Ge C C4 := ((g1.trans g2).trans g3).trans g4
  have hr := hr.ge gA
  have hd := hd.ge gA
  clear gA r1 s1 r2 s2 g1 g2 g3 g4
  walk_at "go"
  refine mk_Throw (by omega) fun C5 t1 g5 u1 => ?_
  walk_at "go"
  refine mkk_Try (by omega) (thr_rws u1) (hr.ge (Ge.new.trans (g5.trans Ge.new))) fun C6 a3 g6 r3 => ?_
  walk_at "go"
  refine mk_Throw (by omega) fun C7 t2 g7 u2 => ?_
  walk_at "go"
  refine mk_Try (by omega) (thr_rws u2) (hr.ge (((Ge.new.trans (g5.trans Ge.new)).trans (g6.trans g7)).trans Ge.new)) fun C8 b3 g8 s3 => ?_
  have p3 := PairOk.of2 r3 (g7.trans (Ge.new.trans g8)) s3
  have gB : Ge (C4.new (.lst [W.tup [W.ref a1, W.ref b1], W.tup [W.ref a2, W.ref b2]])) C8 := (((g5.trans Ge.new).trans (g6.trans g7)).trans Ge.new).trans g8
  have p1 := p1.keep (KeepI.refl.ge (Ge.new.trans gB))
  have p2 := p2.keep (KeepI.refl.ge (Ge.new.trans gB))
  clear g5 g6 g7 g8 r3 s3 u1 u2
  walk_at "go"
  refine v_appG (gB.at new_self) (show 2 < 16777216 by decide) (Ge.new.trans gB) (Nat.le_refl _) fun D gD kD hD => ?_
  have p1 := p1.keep kD
  have p2 := p2.keep kD
  have p3 := p3.keep kD
  have hr1 := hr.ge gD
  clear gB kD
  walk_at "go"
  refine mk_Throw (by omega) fun C5 t1 g5 u1 => ?_
  walk_at "go"
  refine mkk_If (by omega) (hr1.ge (g5.trans Ge.new)) (thr_rws u1) fun C6 a4 g6 r3 => ?_
  walk_at "go"
  refine mk_Throw (by omega) fun C7 t2 g7 u2 => ?_
  walk_at "go"
  refine mk_If (by omega) (hr1.ge (((g5.trans Ge.new).trans (g6.trans g7)).trans Ge.new)) (thr_rws u2) fun C8 b4 g8 s3 => ?_
  have p4 := PairOk.of2 r3 (g7.trans (Ge.new.trans g8)) s3
  have gB : Ge D C8 := (((g5.trans Ge.new).trans (g6.trans g7)).trans Ge.new).trans g8
  have p1 := p1.keep (KeepI.refl.ge gB)
  have p2 := p2.keep (KeepI.refl.ge gB)
  have p3 := p3.keep (KeepI.refl.ge gB)
  clear g5 g6 g7 g8 r3 s3 u1 u2
  walk_at "go"
  refine v_appG (gB.at hD) (show 3 < 16777216 by decide) (gD.trans gB) (Nat.le_refl _) fun D2 gD2 kD2 hD2 => ?_
  have p1 := p1.keep kD2
  have p2 := p2.keep kD2
  have p3 := p3.keep kD2
  have p4 := p4.keep kD2
  have hd := hd.ge gD2
  clear kD2 gD2 hD gD hr1 gB
  refine q_nx ?_
  refine x_cons ?_
  refine x_ife ?_
  refine chk (i := 5) (B := 1000000) (by omega) rfl hD2 (show 4 < 1000 by decide) (fun w hw => ?_) fun C2 g2 => ?_
  · simp only [List.cons_append, List.nil_append, List.mem_cons, List.not_mem_nil, or_false] at hw
    rcases hw with rfl | rfl | rfl | rfl
    · exact p1
    · exact p2
    · exact p3
    · exact p4
  have hd := hd.ge g2
  refine ⟨fun z => (by cases z), fun _ => ?_⟩
  walk_at "go"
  exact h _ _ _ _ _ _ _ _ _ hd
end K05
set_option Elab.async false
set_option linter.all false
set_option maxRecDepth 100000
set_option maxHeartbeats 2000000
namespace K05
open PySem L2 BL
local macro_rules | `(tactic| walk_at "lb") => `(tactic| first | (show _ ≤ 16777216; omega) | (show _ ≤ 16777216; simp only [len_app, empty_len, List.length_cons, List.length_nil, List.length_append, List.length_map, ln__20_3d_20new, ln__20_3d_20, ln__20, ln__20_3d_20none, ln_use_20, ln_free_20, ln_back_20, ln__20_3d_20do_20, ln_if_20, ln_return_20, ln_return, ln_throw, ln_any, ln_frame, ln_end, ln_while_20any, ln_try, ln_catch, ln_else, ln_local, ln_global, ln_weak]; omega))
local macro_rules | `(tactic| walk_at "hp") => `(tactic| first | assumption | exact new_self | (refine new_old ?_; walk_at "hp") | (refine Ge.at (by assumption) ?_; walk_at "hp") | exact put_self (by walk_at "hp") | (refine (put_ne (by walk_at "hp") (by omega)).trans ?_; walk_at "hp"))
local macro_rules | `(tactic| walk_at "ex") => `(tactic| first | ((with_reducible refine' e_var ?h0 ?_); (case h0 => exact rfl)) | with_reducible refine e_cst ?_ | with_reducible refine e_tup ?_ | with_reducible refine e_lst ?_ | with_reducible refine e_bin ?_ | with_reducible refine e_cmp ?_ | with_reducible refine e_cmp2 ?_ | with_reducible refine e_isN ?_ | with_reducible refine e_not ?_ | with_reducible refine e_neg ?_ | with_reducible refine e_ite ?_ | with_reducible refine e_call ?_ | with_reducible refine e_callk ?_ | with_reducible refine e_mk ?_ | with_reducible refine e_mkk ?_ | with_reducible refine e_blt ?_ | with_reducible refine e_isi ?_ | with_reducible refine e_meth ?_ | with_reducible refine e_bm ?_ | with_reducible refine e_bm0 ?_ | with_reducible refine e_att ?_ | with_reducible refine e_sub ?_ | with_reducible refine e_slc ?_ | with_reducible refine e_rev ?_ | with_reducible refine e_comp ?_ | with_reducible refine e_fst ?_ | with_reducible refine e_fmt ?_ | with_reducible refine e_boo ?_ | with_reducible refine l_nil ?_ | with_reducible refine l_star ?_ | with_reducible refine j_nil ?_ | with_reducible refine j_cons ?_ | with_reducible refine b_one ?_ | with_reducible refine b_and ?_ | with_reducible refine b_or ?_ | with_reducible refine bt_one ?_ | with_reducible refine bt_and ?_ | with_reducible refine bt_or ?_ | with_reducible refine t_boo ?_ | with_reducible refine t_not ?_ | with_reducible refine t_ite ?_ | with_reducible refine tru ?_ | with_reducible refine i_rng1 ?_ | with_reducible refine i_enm ?_ | with_reducible refine i_zip ?_ | with_reducible refine ts_nil ?_ | with_reducible refine ts_one ?_ | ((with_reducible refine' e_glo ?h0 ?_); (case h0 => exact rfl)) | ((with_reducible refine' e_absent ?h0 ?_); (case h0 => exact rfl)) | ((with_reducible refine' e_part ?h0 ?_); (case h0 => exact rfl)) | ((with_reducible refine' l_cons ?h0 ?_); (case h0 => exact rfl)) | ((with_reducible refine' t_val ?h0 ?_); (case h0 => exact rfl)) | ((with_reducible refine' i_val ?h0 ?_); (case h0 => exact rfl)))
local macro_rules | `(tactic| walk_at "sx") => `(tactic| first | with_reducible refine q_nx ?_ | with_reducible refine q_rt ?_ | with_reducible refine q_br ?_ | with_reducible refine q_ct ?_ | with_reducible refine q_exc ?_ | with_reducible refine q_end ?_ | with_reducible refine q_endN ?_ | with_reducible refine q_endX ?_ | with_reducible refine q_tnx ?_ | with_reducible refine q_tct ?_ | with_reducible refine q_tbr ?_ | with_reducible refine q_trt ?_ | with_reducible refine q_tex ?_ | with_reducible refine x_cons ?_ | with_reducible refine x_nil ?_ | with_reducible refine x_asgN ?_ | with_reducible refine x_asgT ?_ | with_reducible refine x_par ?_ | with_reducible refine x_fld ?_ | with_reducible refine x_setI ?_ | with_reducible refine x_expr ?_ | with_reducible refine x_ife ?_ | with_reducible refine x_for ?_ | with_reducible refine x_whl ?_ | with_reducible refine x_ret ?_ | with_reducible refine x_retN ?_ | with_reducible refine x_cont ?_ | with_reducible refine x_brk ?_ | with_reducible refine x_pass ?_)
local macro_rules | `(tactic| walk_at "vx") => `(tactic| first | with_reducible refine v_addI ?_ | with_reducible refine v_subI ?_ | with_reducible refine v_eqS ?_ | with_reducible refine v_neS ?_ | with_reducible refine v_eqI ?_ | with_reducible refine v_neI ?_ | with_reducible refine v_ltI ?_ | with_reducible refine v_leI ?_ | with_reducible refine v_gtI ?_ | with_reducible refine v_geI ?_ | with_reducible refine v_inS ?_ | with_reducible refine v_notIn ?_ | with_reducible refine v_itT ?_ | with_reducible refine v_wT ?_ | with_reducible refine v_wS ?_ | with_reducible refine v_zipT ?_ | with_reducible refine v_lenT ?_ | with_reducible refine v_tupT ?_ | with_reducible refine v_lstT ?_ | with_reducible refine v_intI ?_ | with_reducible refine v_intB ?_ | with_reducible refine v_absI ?_ | with_reducible refine v_strS ?_ | with_reducible refine v_okJ ?_ | ((with_reducible refine' v_mulI ?h0 ?_); (case h0 => exact rfl)) | ((with_reducible refine' v_modI ?h0 ?_); (case h0 => decide)) | ((with_reducible refine' v_divI ?h0 ?h1 ?_); (case h0 => decide); (case h1 => decide)) | ((with_reducible refine' v_powI ?h0 ?h1 ?h2 ?_); (case h0 => decide); (case h1 => decide); (case h2 => decide)) | ((with_reducible refine' v_inT ?h0 ?_); (case h0 => exact rfl)) | ((with_reducible refine' v_subT ?h0 ?_); (case h0 => exact rfl)) | ((with_reducible refine' v_subL ?h0 ?h1 ?_); (case h0 => walk_at "hp"); (case h1 => exact rfl)) | ((with_reducible refine' v_slcT ?h0 ?h1 ?_); (case h0 => exact rfl); (case h1 => exact rfl)) | ((with_reducible refine' v_slcL ?h0 ?h1 ?h2 ?_); (case h0 => walk_at "hp"); (case h1 => exact rfl); (case h2 => exact rfl)) | ((with_reducible refine' v_slcX ?h0 ?h1 ?_); (case h0 => exact rfl); (case h1 => exact rfl)) | ((with_reducible refine' v_rev ?h0 ?_); (case h0 => walk_at "hp")) | ((with_reducible refine' v_itL ?h0 ?_); (case h0 => walk_at "hp")) | ((with_reducible refine' v_att ?h0 ?h1 ?h2 ?_); (case h0 => walk_at "hp"); (case h1 => exact rfl); (case h2 => exact rfl)) | ((with_reducible refine' v_setF ?h0 ?h1 ?_); (case h0 => walk_at "hp"); (case h1 => exact rfl)) | ((with_reducible refine' v_wL ?h0 ?_); (case h0 => walk_at "hp")) | ((with_reducible refine' v_enm ?h0 ?_); (case h0 => walk_at "hp")) | ((with_reducible refine' v_zipL ?h0 ?h1 ?_); (case h0 => walk_at "hp"); (case h1 => walk_at "hp")) | ((with_reducible refine' v_lenL ?h0 ?_); (case h0 => walk_at "hp")) | ((with_reducible refine' v_tupL ?h0 ?_); (case h0 => walk_at "hp")) | ((with_reducible refine' v_lstL ?h0 ?_); (case h0 => walk_at "hp")) | ((with_reducible refine' v_okA ?h0 ?_); (case h0 => walk_at "hp")) | ((with_reducible refine' v_okE ?h0 ?_); (case h0 => walk_at "hp")) | ((with_reducible refine' v_okP ?h0 ?_); (case h0 => walk_at "hp")))
local macro_rules | `(tactic| walk_at "is") => `(tactic| refine ⟨_, _, by exact rfl, by exact rfl, ?_⟩)
local macro_rules | `(tactic| walk_at "ck") => `(tactic| ((with_reducible refine' w_callKx ?h0 ?h1 ?_); (case h0 => exact rfl); (case h1 => exact rfl)))
local macro_rules | `(tactic| walk_at "br") => `(tactic| first | ((with_reducible refine br_t ?h0 ?_); (case h0 => exact rfl)) | ((with_reducible refine br_f ?h0 ?_); (case h0 => exact rfl)))
local macro_rules | `(tactic| walk_at "ge") => `(tactic| first | exact Ge.refl | assumption | exact Ge.new | (refine Ge.trans ?_ Ge.new; walk_at "ge") | (refine Ge.trans ?_ (by assumption); walk_at "ge"))
local macro_rules | `(tactic| walk_at "go") => `(tactic| repeat (first | walk_at "ex" | walk_at "sx" | walk_at "vx" | with_reducible refine ⟨_, rfl, ?_⟩ | walk_at "br" | walk_at "ck" | ((with_reducible refine fit_and ?h0 ?_); (case h0 => walk_at "lb")) | ((with_reducible refine len_and ?h0 ?_); (case h0 => exact rfl)) | ((with_reducible refine v_fmtS ?h0 ?_); (case h0 => walk_at "lb"))))
local macro_rules | `(tactic| walk_at "nm") => `(tactic| (refine sp_is_name (by omega) (by walk_at "lb") fun _ _ => ?_; rw [show isNm _ = true by assumption]; walk_at "go"; refine sp_need (by omega) ?_; walk_at "go"))
local macro_rules | `(tactic| walk_at "su") => `(tactic| (refine x_sup (fs := []) rfl rfl (by walk_at "hp") ?_; walk_at "go"))
local macro_rules | `(tactic| walk_at "up") => `(tactic| first | assumption | (refine' Upd.trans ?_ (Upd.put (by walk_at "hp")); walk_at "up"))
local macro_rules | `(tactic| walk_at "ri") => `(tactic| (refine sp_Row_init (by omega) (by walk_at "hp") rfl (.inr ⟨_, rfl, by walk_at "hp"⟩) (.inl rfl) (.inl rfl) fun _ u => ?_; have e1 := u.at_; walk_at "go"))
local macro_rules | `(tactic| walk_at "ki") => `(tactic| first | exact KeepI.refl | (refine KeepI.ge ?_ Ge.new; walk_at "ki") | (refine KeepI.put ?_ (by walk_at "hp"); walk_at "ki") | (refine KeepI.ge ?_ (by assumption); walk_at "ki"))
variable {n : Nat} {C : Hc} {Q : W → Hc → Prop} {QB : Bool → Hc → Prop} {E : Xn → Hc → Prop} {a : Nat} {x y z : Str}
theorem one_turn {C2 C1 : Hc} {w : W} {e0 e1 e2 e3 e4 e5 e6 e7 e8 e9 : Option W} (hp : PairOk 1000 C2 w) (g : Ge C2 C1) : ∃ v', setTg (.tp [8, 9]) w [e0, e1, e2, e3, e4, e5, e6, e7, e8, e9] = some v' ∧
    wpM (evTs (evl G (callF G n) []) v') C1 (fun b C2 => Ge C1 C2 ∧ b = true ∧ (b = true → wpM ((ev G (callF G n) (.var 8)).val v') C2 (fun y C3 => Ge C2 C3 ∧ OneOf C3 w y) E)) E := by
  obtain ⟨a, b, c, ls, e, h1, h2, h3⟩ := hp
  subst e
  refine ⟨_, rfl, ?_⟩
  refine ts_nil ?_
  refine ⟨.refl, rfl, fun _ => ?_⟩
  refine e_var rfl ?_
  exact ⟨.refl, a, b, c, ls, rfl, rfl, h1.ge g, h3⟩
theorem turn (hn : 5 ≤ n + 1) {d : Nat} {e0 e2 e3 e4 e5 e6 e7 e8 e9 : Option W} {QX : XF → Prop} (hd : IsDeal C d)
    (h : ∀ C' f2 f3 f4 f5 f6 f7 f8 f9, IsDeal C' d → QX (.nx [e0, some (.ref d), f2, f3, f4, f5, f6, f7, f8, f9] C')) : (evSs G (callF G (n + 1)) turnB [e0, some (.ref d), e2, e3, e4, e5, e6, e7, e8, e9] C).wp QX := by
  delta turnB
  walk_at "go"
  with_reducible refine sp_pick (by omega) (hd.ge Ge.new) new_self (by decide) (by decide) (nmPairsC fun x y hx hy => ?_)
  refine ⟨_, _, rfl, rfl, ?_⟩
  have hd := hd.ge (Ge.new (o := O.lst [W.tup [W.str s_a, W.str s_ab], W.tup [W.str s_call, W.str s_on], W.tup [W.str s_z, W.str s_zzzz], W.tup [W.str s_q, W.str s_q]]))
  generalize Hc.new C _ = C at *
  walk_at "go"
  with_reducible refine sp_pick (by omega) (hd.ge Ge.new) new_self (by decide) (by decide) (kindWsC fun z hz lz oz => ?_)
  walk_at "go"
  with_reducible refine sp_zpairs (by omega) hx hy hz lz oz fun C1 b ws g1 hb lw hp => ?_
  have hd := hd.ge (Ge.new.trans g1)
  with_reducible refine q_nx ?_
  with_reducible refine x_cons ?_
  with_reducible refine x_ife ?_
  show wpM ((ev G (callF G (n + 1)) (chkE 3)).tst [e0, some (W.ref d), e2, some (W.ref b), e4, e5, some (W.str x), some (W.str y), e8, e9]) _ _ _
  with_reducible refine chk (i := 3) (by omega) rfl hb (by omega) hp fun C2 g2 => ?_
  have hd := hd.ge g2
  have hb := g2.at hb
  have hp : ∀ w ∈ ws, PairOk 1000 C2 w := fun w hw => (hp w hw).keep (KeepI.refl.ge g2)
  refine ⟨fun z => (by cases z), fun _ => ?_⟩
  walk_at "go"
  with_reducible refine w_draw (m := 9) (fd := f__law_draw) rfl rfl hd (by decide) (by decide) fun r hr => ?_
  with_reducible refine v_addI ?_
  refine ⟨_, rfl, ?_⟩
  with_reducible refine v_slcL hb rfl rfl ?_
  have hcut := cut_le ws r (by omega)
  have hm := hcut.choose_spec.1
  have em := hcut.choose_spec.2
  generalize hcut.choose = m at hm em
  clear hcut
  rw [em]
  with_reducible refine v_wL new_self ?_
  have hlm : (ws.take m).length ≤ 10 := by rw [List.length_take]; omega
  have hlm0 : 0 < (ws.take m).length := by rw [List.length_take]; omega
  with_reducible refine w_compR (ws := ws.take m) OneOf OneOf.ge (fun _ => true) (Nat.lt_of_le_of_lt hlm (by decide)) (walks_lst new_self) (fun w C1 hw g => ?_) (fun ys C' g hq => ?_)
  · exact one_turn (hp w (List.mem_of_mem_take hw)) (Ge.new.trans g)
  · rw [show ((ws.take m).filter fun _ => true) = ws.take m from List.filter_eq_self.mpr (by simp)] at hq
    have hy := paired_len hq
    have H := ones hq
    have h1 := H.choose_spec.1
    have h2 := H.choose_spec.2
    generalize H.choose = lss at h1 h2
    have hR : Rws (C'.new (O.lst ys)) (W.ref C'.next) lss := ⟨ys, .inr ⟨_, rfl, new_self⟩, h1.ge Ge.new, by omega, by omega, by omega⟩
    with_reducible refine q_nx ?_
    show (evSs G (callF G (n + 1)) turnB2 [e0, some (W.ref d), e2, some (W.ref b), some (W.ref C'.next), e5, some (W.str x), some (W.str y), e8, e9] (C'.new (O.lst ys))).wp QX
    with_reducible refine turn2 hn (hd.ge ((Ge.new.trans g).trans Ge.new)) hR h
end K05
set_option Elab.async false
set_option linter.all false
set_option maxRecDepth 100000
set_option maxHeartbeats 3000000

namespace K05
open PySem L2 BL
local macro_rules | `(tactic| walk_at "lb") => `(tactic| first | (show _ ≤ 16777216; omega) | (show _ ≤ 16777216; simp only [len_app, empty_len, List.length_cons, List.length_nil, List.length_append, List.length_map, ln__20_3d_20new, ln__20_3d_20, ln__20, ln__20_3d_20none, ln_use_20, ln_free_20, ln_back_20, ln__20_3d_20do_20, ln_if_20, ln_return_20, ln_return, ln_throw, ln_any, ln_frame, ln_end, ln_while_20any, ln_try, ln_catch, ln_else, ln_local, ln_global, ln_weak]; omega))
local macro_rules | `(tactic| walk_at "hp") => `(tactic| first | assumption | exact new_self | (refine new_old ?_; walk_at "hp") | (refine Ge.at (by assumption) ?_; walk_at "hp") | exact put_self (by walk_at "hp") | (refine (put_ne (by walk_at "hp") (by omega)).trans ?_; walk_at "hp"))
local macro_rules | `(tactic| walk_at "ex") => `(tactic| first | ((with_reducible refine' e_var ?h0 ?_); (case h0 => exact rfl)) | with_reducible refine e_cst ?_ | with_reducible refine e_tup ?_ | with_reducible refine e_lst ?_ | with_reducible refine e_bin ?_ | with_reducible refine e_cmp ?_ | with_reducible refine e_cmp2 ?_ | with_reducible refine e_isN ?_ | with_reducible refine e_not ?_ | with_reducible refine e_neg ?_ | with_reducible refine e_ite ?_ | with_reducible refine e_call ?_ | with_reducible refine e_callk ?_ | with_reducible refine e_mk ?_ | with_reducible refine e_mkk ?_ | with_reducible refine e_blt ?_ | with_reducible refine e_isi ?_ | with_reducible refine e_meth ?_ | with_reducible refine e_bm ?_ | with_reducible refine e_bm0 ?_ | with_reducible refine e_att ?_ | with_reducible refine e_sub ?_ | with_reducible refine e_slc ?_ | with_reducible refine e_rev ?_ | with_reducible refine e_comp ?_ | with_reducible refine e_fst ?_ | with_reducible refine e_fmt ?_ | with_reducible refine e_boo ?_ | with_reducible refine l_nil ?_ | with_reducible refine l_star ?_ | with_reducible refine j_nil ?_ | with_reducible refine j_cons ?_ | with_reducible refine b_one ?_ | with_reducible refine b_and ?_ | with_reducible refine b_or ?_ | with_reducible refine bt_one ?_ | with_reducible refine bt_and ?_ | with_reducible refine bt_or ?_ | with_reducible refine t_boo ?_ | with_reducible refine t_not ?_ | with_reducible refine t_ite ?_ | with_reducible refine tru ?_ | with_reducible refine i_rng1 ?_ | with_reducible refine i_enm ?_ | with_reducible refine i_zip ?_ | with_reducible refine ts_nil ?_ | with_reducible refine ts_one ?_ | ((with_reducible refine' e_glo ?h0 ?_); (case h0 => exact rfl)) | ((with_reducible refine' e_absent ?h0 ?_); (case h0 => exact rfl)) | ((with_reducible refine' e_part ?h0 ?_); (case h0 => exact rfl)) | ((with_reducible refine' l_cons ?h0 ?_); (case h0 => exact rfl)) | ((with_reducible refine' t_val ?h0 ?_); (case h0 => exact rfl)) | ((with_reducible refine' i_val ?h0 ?_); (case h0 => exact rfl)))
local macro_rules | `(tactic| walk_at "sx") => `(tactic| first | with_reducible refine q_nx ?_ | with_reducible refine q_rt ?_ | with_reducible refine q_br ?_ | with_reducible refine q_ct ?_ | with_reducible refine q_exc ?_ | with_reducible refine q_end ?_ | with_reducible refine q_endN ?_ | with_reducible refine q_endX ?_ | with_reducible refine q_tnx ?_ | with_reducible refine q_tct ?_ | with_reducible refine q_tbr ?_ | with_reducible refine q_trt ?_ | with_reducible refine q_tex ?_ | with_reducible refine x_cons ?_ | with_reducible refine x_nil ?_ | with_reducible refine x_asgN ?_ | with_reducible refine x_asgT ?_ | with_reducible refine x_par ?_ | with_reducible refine x_fld ?_ | with_reducible refine x_setI ?_ | with_reducible refine x_expr ?_ | with_reducible refine x_ife ?_ | with_reducible refine x_for ?_ | with_reducible refine x_whl ?_ | with_reducible refine x_ret ?_ | with_reducible refine x_retN ?_ | with_reducible refine x_cont ?_ | with_reducible refine x_brk ?_ | with_reducible refine x_pass ?_)
local macro_rules | `(tactic| walk_at "vx") => `(tactic| first | with_reducible refine v_addI ?_ | with_reducible refine v_subI ?_ | with_reducible refine v_eqS ?_ | with_reducible refine v_neS ?_ | with_reducible refine v_eqI ?_ | with_reducible refine v_neI ?_ | with_reducible refine v_ltI ?_ | with_reducible refine v_leI ?_ | with_reducible refine v_gtI ?_ | with_reducible refine v_geI ?_ | with_reducible refine v_inS ?_ | with_reducible refine v_notIn ?_ | with_reducible refine v_itT ?_ | with_reducible refine v_wT ?_ | with_reducible refine v_wS ?_ | with_reducible refine v_zipT ?_ | with_reducible refine v_lenT ?_ | with_reducible refine v_tupT ?_ | with_reducible refine v_lstT ?_ | with_reducible refine v_intI ?_ | with_reducible refine v_intB ?_ | with_reducible refine v_absI ?_ | with_reducible refine v_strS ?_ | with_reducible refine v_okJ ?_ | ((with_reducible refine' v_mulI ?h0 ?_); (case h0 => exact rfl)) | ((with_reducible refine' v_modI ?h0 ?_); (case h0 => decide)) | ((with_reducible refine' v_divI ?h0 ?h1 ?_); (case h0 => decide); (case h1 => decide)) | ((with_reducible refine' v_powI ?h0 ?h1 ?h2 ?_); (case h0 => decide); (case h1 => decide); (case h2 => decide)) | ((with_reducible refine' v_inT ?h0 ?_); (case h0 => exact rfl)) | ((with_reducible refine' v_subT ?h0 ?_); (case h0 => exact rfl)) | ((with_reducible refine' v_subL ?h0 ?h1 ?_); (case h0 => walk_at "hp"); (case h1 => exact rfl)) | ((with_reducible refine' v_slcT ?h0 ?h1 ?_); (case h0 => exact rfl); (case h1 => exact rfl)) | ((with_reducible refine' v_slcL ?h0 ?h1 ?h2 ?_); (case h0 => walk_at "hp"); (case h1 => exact rfl); (case h2 => exact rfl)) | ((with_reducible refine' v_slcX ?h0 ?h1 ?_); (case h0 => exact rfl); (case h1 => exact rfl)) | ((with_reducible refine' v_rev ?h0 ?_); (case h0 => walk_at "hp")) | ((with_reducible refine' v_itL ?h0 ?_); (case h0 => walk_at "hp")) | ((with_reducible refine' v_att ?h0 ?h1 ?h2 ?_); (case h0 => walk_at "hp"); (case h1 => exact rfl); (case h2 => exact rfl)) | ((with_reducible refine' v_setF ?h0 ?h1 ?_); (case h0 => walk_at "hp"); (case h1 => exact rfl)) | ((with_reducible refine' v_wL ?h0 ?_); (case h0 => walk_at "hp")) | ((with_reducible refine' v_enm ?h0 ?_); (case h0 => walk_at "hp")) | ((with_reducible refine' v_zipL ?h0 ?h1 ?_); (case h0 => walk_at "hp"); (case h1 => walk_at "hp")) | ((with_reducible refine' v_lenL ?h0 ?_); (case h0 => walk_at "hp")) | ((with_reducible refine' v_tupL ?h0 ?_); (case h0 => walk_at "hp")) | ((with_reducible refine' v_lstL ?h0 ?_); (case h0 => walk_at "hp")) | ((with_reducible refine' v_okA ?h0 ?_); (case h0 => walk_at "hp")) | ((with_reducible refine' v_okE ?h0 ?_); (case h0 => walk_at "hp")) | ((with_reducible refine' v_okP ?h0 ?_); (case h0 => walk_at "hp")))
local macro_rules | `(tactic| walk_at "is") => `(tactic| refine ⟨_, _, by exact rfl, by exact rfl, ?_⟩)
local macro_rules | `(tactic| walk_at "ck") => `(tactic| ((with_reducible refine' w_callKx ?h0 ?h1 ?_); (case h0 => exact rfl); (case h1 => exact rfl)))
local macro_rules | `(tactic| walk_at "br") => `(tactic| first | ((with_reducible refine br_t ?h0 ?_); (case h0 => exact rfl)) | ((with_reducible refine br_f ?h0 ?_); (case h0 => exact rfl)))
local macro_rules | `(tactic| walk_at "ge") => `(tactic| first | exact Ge.refl | assumption | exact Ge.new | (refine Ge.trans ?_ Ge.new; walk_at "ge") | (refine Ge.trans ?_ (by assumption); walk_at "ge"))
local macro_rules | `(tactic| walk_at "go") => `(tactic| repeat (first | walk_at "ex" | walk_at "sx" | walk_at "vx" | with_reducible refine ⟨_, rfl, ?_⟩ | walk_at "br" | walk_at "ck" | ((with_reducible refine fit_and ?h0 ?_); (case h0 => walk_at "lb")) | ((with_reducible refine len_and ?h0 ?_); (case h0 => exact rfl)) | ((with_reducible refine v_fmtS ?h0 ?_); (case h0 => walk_at "lb"))))
local macro_rules | `(tactic| walk_at "nm") => `(tactic| (refine sp_is_name (by omega) (by walk_at "lb") fun _ _ => ?_; rw [show isNm _ = true by assumption]; walk_at "go"; refine sp_need (by omega) ?_; walk_at "go"))
local macro_rules | `(tactic| walk_at "su") => `(tactic| (refine x_sup (fs := []) rfl rfl (by walk_at "hp") ?_; walk_at "go"))
local macro_rules | `(tactic| walk_at "up") => `(tactic| first | assumption | (refine' Upd.trans ?_ (Upd.put (by walk_at "hp")); walk_at "up"))
local macro_rules | `(tactic| walk_at "ri") => `(tactic| (refine sp_Row_init (by omega) (by walk_at "hp") rfl (.inr ⟨_, rfl, by walk_at "hp"⟩) (.inl rfl) (.inl rfl) fun _ u => ?_; have e1 := u.at_; walk_at "go"))
local macro_rules | `(tactic| walk_at "ki") => `(tactic| first | exact KeepI.refl | (refine KeepI.ge ?_ Ge.new; walk_at "ki") | (refine KeepI.put ?_ (by walk_at "hp"); walk_at "ki") | (refine KeepI.ge ?_ (by assumption); walk_at "ki"))
variable {n : Nat} {C : Hc} {Q : W → Hc → Prop} {QB : Bool → Hc → Prop} {E : Xn → Hc → Prop} {a : Nat} {x y z : Str}
theorem rng3a (i : Nat) : (bif Nat.blt i 3 then some (W.int (0 + (i : Int))) else none) = ([W.int 0, .int 1, .int 2][i]?) := by
  by_cases h : i < 3
  · have : i = 0 ∨ i = 1 ∨ i = 2 := by omega
    rcases this with rfl | rfl | rfl
    · rfl
    · rfl
    · rfl
  · rw [List.getElem?_eq_none (by simp; omega)]
    have : Nat.blt i 3 = false := by
      cases e : Nat.blt i 3 with
      | false => rfl
      | true => exact absurd (Nat.le_of_ble_eq_true e) (by omega)
    rw [this]
    rfl
theorem rng3 (i : Nat) (C : Hc) : itemAt (.rng 0 (Int.toNat 3)) i C = .ret (.ok ([W.int 0, .int 1, .int 2][i]?) C) := by
  rw [← rng3a]
  rfl
theorem law_t1 : G.fns[k_law]? = some f_law := rfl
def LawI (d : Nat) (ns : List Int) (i : Nat) (v : BL.Env) (C : Hc) : Prop := IsDeal C d ∧ ∃ f2 f3 f4 f5 f6 f7 f8 f9, v = [some (.scr ns), some (.ref d), f2, f3, f4, f5, f6, f7, f8, f9]
theorem LawI.v {d : Nat} {ns : List Int} {i : Nat} {v : BL.Env} {C : Hc} (h : LawI d ns i v C) : True := trivial
theorem turnI (hn : 4 ≤ n) {d : Nat} {ns : List Int} {i : Nat} {w : W} {v1 : BL.Env} {C1 : Hc} {QX : XF → Prop} (hI : LawI d ns i v1 C1) : ∃ v2, setTg (.nm 2) w v1 = some v2 ∧ (evSs G (callF G (n + 1)) turnB v2 C1).wp (turnQ (LawI d ns (i + 1)) QX) := by
  obtain ⟨hd, f2, f3, f4, f5, f6, f7, f8, f9, e⟩ := hI
  subst e
  with_reducible refine ⟨_, rfl, ?_⟩
  show (evSs G (callF G (n + 1)) turnB [some (.scr ns), some (.ref d), some w, f3, f4, f5, f6, f7, f8, f9] C1).wp _
  have key : ∀ C' f2 f3 f4 f5 f6 f7 f8 f9, IsDeal C' d → turnQ (LawI d ns (i + 1)) QX (.nx [some (.scr ns), some (.ref d), f2, f3, f4, f5, f6, f7, f8, f9] C') := fun C' f2 f3 f4 f5 f6 f7 f8 f9 hd => ⟨hd, _, _, _, _, _, _, _, _, rfl⟩
  have h5 : 5 ≤ n + 1 := by omega
  with_reducible exact turn h5 hd key
theorem law_t2 : f_law.kind = 0 := rfl
theorem law_t3 (ns : List Int) : [W.scr ns].length = f_law.ps.length := rfl
theorem w_callFr {G : Sg} {n k : Nat} {fd : Fd} {ws : List W} {C : Hc} {QW : W → Hc → Prop} {E : Xn → Hc → Prop} (hk : G.fns[k]? = some fd) (h0 : fd.kind = 0) (hl : ws.length = fd.ps.length)
    (h : (evSs G (callF G n) fd.body (ws.map some ++ List.replicate (fd.N.length - ws.length) none) C).wp (endQ QW E)) : wpM (callF G (n + 1) k ws) C QW E := (w_callF hk h0 hl).mpr h
theorem law_key : ∀ (n : Nat) (hn : 4 ≤ n) (ns : List Int) (C : Hc), wpM (callF G (n + 1 + 1) k_law [.scr ns]) C (fun w C => w = .bl true) (fun _ _ => False) := by
  intro n hn ns C
  with_reducible refine w_callFr law_t1 law_t2 (law_t3 ns) ?_
  delta f_law
  dsimp only
  walk_at "go"
  have hk : G.fns[k__law_deal]? = some f__law_deal := rfl
  have h2 : f__law_deal.kind = 2 := rfl
  with_reducible refine w_deal (G := G) (k := k__law_deal) (n := n) (b := 0) (ns := ns) (fd := f__law_deal) hk h2 (by decide) (by decide) fun C d g hd => ?_
  with_reducible refine q_nx ?_
  with_reducible refine x_cons ?_
  with_reducible refine x_for ?_
  with_reducible refine i_rng1 ?_
  with_reducible refine e_cst ?_
  with_reducible refine ⟨3, rfl, by decide, by decide, ?_⟩
  have h0 : LawI d ns 0 [some (.scr ns), some (.ref d), none, none, none, none, none, none, none, none] C := ⟨hd, _, _, _, _, _, _, _, _, rfl⟩
  show (forL _ _ _ FUEL 0 [some (.scr ns), some (.ref d), none, none, none, none, none, none, none, none] C).wp _
  with_reducible refine w_for (ws := [.int 0, .int 1, .int 2]) (LawI d ns) h0 (by decide) (fun i v' C' _ => rng3 i C') (fun i w v1 C1 hw hI => turnI hn hI) (fun v' C' hI => ?_)
  have hv := hI.v
  clear hI
  walk_at "go"
  exact rfl
end K05
set_option Elab.async false
set_option linter.all false
set_option maxRecDepth 100000
set_option maxHeartbeats 0
namespace K05
open PySem L2 BL
def loose : List PySem.Str := (["LifeError", "InvalidRow", "LETTERS", "TAKEN", "is_name", "is_sequence", "are_names", "KINDS", "ANY", "need", "are_rows", "lines_of", "Row", "New", "Hold", "Copy", "Clear", "Use", "Free", "Back", "Do", "Frame", "If", "While", "Try", "Throw", "Return", "_law_deal", "_law_draw", "_law_pick"] : List PySem.Str) ++ (["_law_zpairs"] : List PySem.Str)
abbrev R : PySem.W.OpenRow := PySem.W.OpenLaw.row PySem.Challenge.rw_borderlives_k05_rows_by_names
abbrev hk : PySem.W.Hook := hookB R.prog G 6
def ob (s : PySem.W.SharedT) : Bool := obB R.prog G 6 (HandSHeadRun.getT s)
theorem ob_eq (s : PySem.W.SharedT) : ob s = hk.obs s.abs := obB_eq (HandSHeadRun.getT_eq s)
theorem run (w : World) : HandSHeadRun.RunEq R (PySem.W.view R.prog [35]) hk ob 6000 loose w := by
  intro os
  kernel_rfl
end K05
set_option Elab.async false
set_option linter.all false
set_option maxRecDepth 100000
set_option maxHeartbeats 0
namespace K05
open PySem L2 BL
theorem law_wp : LawWp G (5 + 1 + 1) k_law := law_key 5 (by decide)
theorem drawnG {P : Program} {w : World} {K : PySem.W.Frag} {mg : PySem.Str → Option Value} (base : Heap) : Drawn P w K mg base G :=
  drawn_of (kd := k__law_draw) (kl := k__law_deal) (fd := f__law_draw) (fl := f__law_deal) (g := mixE1) (g' := .var 3) (by decide +kernel) rfl rfl (.inl rfl) rfl rfl rfl (.inl rfl) rfl rfl rfl
end K05
open PySem PySem.W PySem.Calls PyProof.Rows
theorem PySem.Challenge.cw_borderlives_k05_rows_by_names_holds : PySem.Challenge.rw_borderlives_k05_rows_by_names.Holds := by
  w_on
  o_law
  refine HandSHeadRun.head_any (r := OpenLaw.row PySem.Challenge.rw_borderlives_k05_rows_by_names) (q := view (OpenLaw.row PySem.Challenge.rw_borderlives_k05_rows_by_names).prog [35]) (H := K05.hk) (ob := K05.ob) (M := 6000) (loose := K05.loose) (d := HandSHeadRun.topDef (OpenLaw.row PySem.Challenge.rw_borderlives_k05_rows_by_names).prog 35) (kwd := []) K05.ob_eq
    (by kernel_rfl) (fun s => by kernel_rfl) K05.run (by kernel_rfl) (by kernel_rfl) (by kernel_rfl) (by rfl) (by first | assumption | decide +kernel) (by decide +kernel) ⟨rfl, rfl, rfl, rfl, rfl, by decide +kernel⟩ ?hw ?hc
  case hw => w_witness2
  case hc =>
    refine L2.walk_ofE (l := PySem.Challenge.rw_borderlives_k05_rows_by_names) (n := 63) (k := 3 * (5 + 1 + 1)) (x := K05.s__law_script) (CX := L2.CX0) rfl (by decide) (by kernel_rfl) ⟨rfl, by decide, by decide⟩ ?F (fun _ _ _ _ z => z)
    intro w mg fa h Y G hmg0
    obtain ⟨K, KX, c⟩ := Y
    have hmg : mg (K05.s_law) = some (.ref fa) := by
      have e : (HandSHeadRun.topDef (OpenLaw.row PySem.Challenge.rw_borderlives_k05_rows_by_names).prog 35).name = K05.s_law := by kernel_rfl
      rw [← e]
      exact hmg0
    exact BL.law_end (G := K05.G) (n := 5 + 1 + 1) (k := K05.k_law) (fl := K05.f_law) (x := K05.s_law) (s0 := K05.s__law_script) KX G c (fun base => K05.drawnG base) K05.law_t1 rfl rfl rfl K05.law_wp.end hmg
