import PyProof.Rows.All
import Wide.All
import OpenK.AllK
import Wide.FinOn
import KE.KStateDown
import Lean
import HandS.ForMost
import HandS.Wide
import HandS.Deep
import PyProof.ReprRoads
import HandS.ForExc
import HandS.CallSlots
import HandS.RaiseMore
import HandS.Iter
import HandS.Zip
import KE.GoesMore
import KE.GoesEnum
import HandS.Flow
import HandS.Comp
import HandS.Style
import HandS.Codes
import HandS.HeadEnd
import HandS.HeadHook2
import HandS.Head0
import HandS.Head1
import HandS.Head2
import HandS.HeadHook1
import PySem.Challenge.RW_onlyforced_k02_what_pages_agree_on_and_t
set_option Elab.async false
set_option linter.all false
set_option maxRecDepth 100000
/-! Mini: a small language with an interpreter in plain Lean; what it yields, the Python text yields (MiB ..). -/
namespace Mi
open PySem

/-! ### values, objects, what a piece of text yields -/
inductive D where
  | non | bl (b : Bool) | int (i : Int) | str (x : Str) | tup (xs : List D) | frz (xs : List D) | obj (n : Nat)
  deriving Inhabited

mutual
def D.beq : D → D → Bool
  | .non, .non => true
  | .bl a, .bl b => a == b
  | .int a, .int b => a == b
  | .str a, .str b => decide (a = b)
  | .tup a, .tup b => D.beqs a b
  | .frz a, .frz b => D.beqs a b
  | .obj a, .obj b => a == b
  | _, _ => false
def D.beqs : List D → List D → Bool
  | [], [] => true
  | a :: as, b :: bs => D.beq a b && D.beqs as bs
  | _, _ => false
end
mutual
theorem D.eq_of_beq : ∀ (a b : D), D.beq a b = true → a = b
  | .non, b, h => by cases b <;> simp [D.beq] at h ⊢
  | .bl a, b, h => by cases b <;> simp [D.beq] at h ⊢; exact h
  | .int a, b, h => by cases b <;> simp [D.beq] at h ⊢; exact h
  | .str a, b, h => by cases b <;> simp [D.beq] at h ⊢; exact h
  | .tup a, b, h => by
    cases b <;> simp [D.beq] at h ⊢
    exact D.eq_of_beqs a _ h
  | .frz a, b, h => by
    cases b <;> simp [D.beq] at h ⊢
    exact D.eq_of_beqs a _ h
  | .obj a, b, h => by cases b <;> simp [D.beq] at h ⊢; exact h
theorem D.eq_of_beqs : ∀ (a b : List D), D.beqs a b = true → a = b
  | [], b, h => by cases b <;> simp [D.beqs] at h ⊢
  | x :: xs, b, h => by
    cases b with
    | nil => simp [D.beqs] at h
    | cons y ys =>
      simp [D.beqs] at h
      rw [D.eq_of_beq x y h.1, D.eq_of_beqs xs ys h.2]
end
mutual
theorem D.beq_refl : ∀ a : D, D.beq a a = true
  | .non => rfl
  | .bl a => by simp [D.beq]
  | .int a => by simp [D.beq]
  | .str a => by simp [D.beq]
  | .tup a => by simp [D.beq, D.beqs_refl a]
  | .frz a => by simp [D.beq, D.beqs_refl a]
  | .obj a => by simp [D.beq]
theorem D.beqs_refl : ∀ a : List D, D.beqs a a = true
  | [] => rfl
  | x :: xs => by simp [D.beqs, D.beq_refl x, D.beqs_refl xs]
end
instance : DecidableEq D := fun a b =>
  if h : D.beq a b = true then isTrue (D.eq_of_beq a b h) else isFalse fun e => h (e ▸ D.beq_refl a)

inductive O where
  | lst (xs : List D)
  | dic (kvs : List (D × D))
  deriving Inhabited, DecidableEq

abbrev Sto := List O
inductive R (α : Type) where
  | ok (a : α) (s : Sto)
  | exc (c : Str) (w : D) (s : Sto)
/-- none: stuck (not covered) -/
abbrev M (α : Type) := Sto → Option (R α)
@[inline] def M.pure {α : Type} (a : α) : M α := fun s => some (.ok a s)
@[inline] def M.bind {α β : Type} (m : M α) (k : α → M β) : M β := fun s =>
  match m s with
  | none => none
  | some (.ok a s') => k a s'
  | some (.exc c w s') => some (.exc c w s')
@[inline] def M.stuck {α : Type} : M α := fun _ => none
instance : Monad M where
  pure := M.pure
  bind := M.bind
theorem bind_ok {α β : Type} {m : M α} {k : α → M β} {s s' : Sto} {a : α} (h : m s = some (.ok a s')) : (m >>= k) s = k a s' := by
  show M.bind m k s = _
  unfold M.bind
  rw [h]
theorem bind_asc {α β γ : Type} (m : M α) (f : α → M β) (g : β → M γ) : (m >>= f) >>= g = m >>= fun a => f a >>= g := by
  funext s
  show M.bind (M.bind m f) g s = M.bind m (fun a => M.bind (f a) g) s
  unfold M.bind
  cases m s with
  | none => rfl
  | some r => cases r <;> rfl
theorem pure_bnd {α β : Type} (a : α) (f : α → M β) : (pure a : M α) >>= f = f a := rfl
theorem bind_non {α β : Type} {m : M α} {k : α → M β} {s : Sto} (h : m s = none) : (m >>= k) s = none := by
  show M.bind m k s = _
  unfold M.bind
  rw [h]
theorem bind_exc {α β : Type} {m : M α} {k : α → M β} {s s' : Sto} {c : Str} {w : D} (h : m s = some (.exc c w s')) : (m >>= k) s = some (.exc c w s') := by
  show M.bind m k s = _
  unfold M.bind
  rw [h]
@[simp] theorem pure_at {α : Type} (a : α) (s : Sto) : (pure a : M α) s = some (.ok a s) := rfl

/-! ### plain data -/
mutual
def toPy : D → Option PyData
  | .non => some .none
  | .bl b => some (.bool b)
  | .int i => some (.int i)
  | .str x => some (.str x)
  | .tup xs => (toPys xs).map .tuple
  | .frz xs => (toPys xs).map .list
  | .obj _ => none
def toPys : List D → Option (List PyData)
  | [] => some []
  | x :: xs => do
    let p ← toPy x
    let ps ← toPys xs
    return p :: ps
end
/-- the list that the store has at n -/
def lstAt (s : Sto) (n : Nat) : Option (List D) :=
  match s[n]? with
  | some (.lst xs) => some xs
  | _ => none
theorem lstAt_some {s : Sto} {n : Nat} {xs : List D} : lstAt s n = some xs ↔ s[n]? = some (.lst xs) := by
  unfold lstAt
  split
  · rename_i ys h
    rw [h]
    simp
  · rename_i h
    simp only [reduceCtorEq, false_iff]
    exact fun z => h xs z
def pyOf (s : Sto) : D → Option PyData
  | .obj n => (lstAt s n).bind fun xs => (toPys xs).map .list
  | d => toPy d

/-! ### operations by values -/
def atD (xs : List D) (i : Int) : Option D := (L2.ixN xs.length i).bind fun j => xs[j]?
def small (i : Int) : Bool := decide (-(2 ^ 64) < i ∧ i < 2 ^ 64)
def binE (op : Operator) (x y : D) : M D := fun s =>
  match op, x, y with
  | .Add, .int i, .int j => some (.ok (.int (i + j)) s)
  | .Sub, .int i, .int j => some (.ok (.int (i - j)) s)
  | .Mult, .int i, .int j => if small i || small j then some (.ok (.int (i * j)) s) else none
  | .FloorDiv, .int i, .int j => if 0 < j ∧ j.natAbs.log2 < 9000 then some (.ok (.int (i / j)) s) else none
  | .Mod, .int i, .int j => if 0 < j then some (.ok (.int (i % j)) s) else none
  | .Pow, .int i, .int j => if 0 ≤ j ∧ j ≤ 1000000 ∧ i.natAbs < 2 ^ 64 then some (.ok (.int (i ^ j.toNat)) s) else none
  | .Add, .obj m, .obj n => match lstAt s m, lstAt s n with
    | some xs, some ys => if xs.length + ys.length ≤ 16777216 then some (.ok (.obj s.length) (s ++ [.lst (xs ++ ys)])) else none
    | _, _ => none
  | _, _, _ => none
/-- x op= y -/
def augE (op : Operator) (x y : D) : M D := fun s =>
  match op, x, y with
  | .Add, .int i, .int j => some (.ok (.int (i + j)) s)
  | .Sub, .int i, .int j => some (.ok (.int (i - j)) s)
  | _, _, _ => none
def cmpE (op : CmpOp) (x y : D) : M D := fun s =>
  match op with
  | .Lt => match x, y with
    | .int i, .int j => some (.ok (.bl (decide (i < j))) s)
    | _, _ => none
  | .LtE => match x, y with
    | .int i, .int j => some (.ok (.bl (decide (i ≤ j))) s)
    | _, _ => none
  | .Gt => match x, y with
    | .int i, .int j => some (.ok (.bl (decide (j < i))) s)
    | _, _ => none
  | .GtE => match x, y with
    | .int i, .int j => some (.ok (.bl (decide (j ≤ i))) s)
    | _, _ => none
  | .Eq => match x, y with
    | .str a, .str b => some (.ok (.bl (decide (a = b))) s)
    | x, y => match pyOf s x, pyOf s y with
      | some p, some q => if SeqAt.shaped p && SeqAt.shaped q then some (.ok (.bl (PyData.eqv p q)) s) else none
      | _, _ => none
  | .NotEq => match x, y with
    | .str a, .str b => some (.ok (.bl (!decide (a = b))) s)
    | x, y => match pyOf s x, pyOf s y with
      | some p, some q => if SeqAt.shaped p && SeqAt.shaped q then some (.ok (.bl (!PyData.eqv p q)) s) else none
      | _, _ => none
  | .Is => if y = .non then some (.ok (.bl (decide (x = .non))) s) else none
  | .IsNot => if y = .non then some (.ok (.bl (!decide (x = .non))) s) else none
  | _ => none
def truth (d : D) (s : Sto) : Option Bool :=
  match d with
  | .non => some false
  | .bl b => some b
  | .int i => some (i != 0)
  | .tup xs => some (!xs.isEmpty)
  | .frz xs => some (!xs.isEmpty)
  | .obj n => (lstAt s n).map fun xs => !xs.isEmpty
  | _ => none
def truthM (d : D) : M Bool := fun s => (truth d s).map fun b => .ok b s
def idxE (x y : D) : M D := fun s =>
  match x, y with
  | .tup xs, .int i => (atD xs i).map fun d => .ok d s
  | .frz xs, .int i => (atD xs i).map fun d => .ok d s
  | .obj n, .int i => (lstAt s n).bind fun xs => (atD xs i).map fun d => .ok d s
  | _, _ => none
/-- o[i] = v -/
def setE (o i v : D) : M Unit := fun s =>
  match o, i with
  | .obj n, .int k => (lstAt s n).bind fun xs => (L2.ixN xs.length k).map fun j => .ok () (s.set n (.lst (xs.set j v)))
  | _, _ => none
def newL (xs : List D) : M D := fun s => if xs.length ≤ 16777216 then some (.ok (.obj s.length) (s ++ [.lst xs])) else none
def newT (xs : List D) : M D := fun s => if xs.length ≤ 16777216 then some (.ok (.tup xs) s) else none
/-- the items of a sequence as they stand -/
def seqOf (d : D) (s : Sto) : Option (List D) :=
  match d with
  | .tup xs => some xs
  | .frz xs => some xs
  | .obj n => lstAt s n
  | _ => none
def reprE (d : D) (s : Sto) : Option Str :=
  match pyOf s d with
  | some p => if p.showable && !p.hasDict && decide (p.depth ≤ 60) && decide (p.shown.length ≤ 16777216) then some p.shown else none
  | none => none
/-- the built-ins -/
def biInt : List D → M D
  | [.int i] => pure (.int i)
  | [.bl b] => pure (.int (if b then 1 else 0))
  | _ => M.stuck
def biLen : List D → M D
  | [d] => fun s => (seqOf d s).map fun xs => .ok (.int xs.length) s
  | _ => M.stuck
def biMax : List D → M D
  | [.int i, .int j] => pure (.int (if j > i then j else i))
  | _ => M.stuck
def biMin : List D → M D
  | [.int i, .int j] => pure (.int (if j < i then j else i))
  | _ => M.stuck
def biTuple : List D → M D
  | [d] => fun s => (seqOf d s).map fun xs => .ok (.tup xs) s
  | _ => M.stuck
def biList : List D → M D
  | [d] => fun s => (seqOf d s).map fun xs => .ok (.obj s.length) (s ++ [.lst xs])
  | _ => M.stuck
def biRepr : List D → M D
  | [d] => fun s => (reprE d s).map fun x => .ok (.str x) s
  | _ => M.stuck
/-- .. by their names -/
def biE : String → List D → M D
  | "int" => biInt
  | "len" => biLen
  | "max" => biMax
  | "min" => biMin
  | "tuple" => biTuple
  | "list" => biList
  | "repr" => biRepr
  | _ => fun _ => M.stuck
/-- methods of built-in types -/
def meAppend : D → List D → M D
  | .obj n, [d] => fun s => (lstAt s n).bind fun ys => if ys.length < 16777216 then some (.ok .non (s.set n (.lst (ys ++ [d])))) else none
  | _, _ => M.stuck
def metE : String → D → List D → M D
  | "append" => meAppend
  | _ => fun _ _ => M.stuck
/-- the kind of thing that has the method -/
def metT : String → D → M Unit
  | "append" => fun d s => match d with
    | .obj n => (lstAt s n).map fun _ => .ok () s
    | _ => none
  | _ => fun _ => M.stuck
/-- what raises nothing -/
def noX {α : Type} (m : M α) : M α := fun s => match m s with
  | some (.ok a s') => some (.ok a s')
  | _ => none

/-! ### the language -/
inductive Tg where
  | nm (i : Nat)
  | tup (is : List Nat)
  deriving DecidableEq
mutual
inductive Ex where
  | loc (i : Nat)
  | non | bl (b : Bool) | int (i : Int) | str (x : Str)
  | bin (op : Operator) (a b : Ex)
  | neg (a : Ex)
  | cmp (op : CmpOp) (a b : Ex)
  | and (a b : Ex) | or (a b : Ex) | not (a : Ex)
  | ite (c a b : Ex)
  | tup (es : Exs) | lst (es : Exs)
  | call (f : Str) (es : Exs)
  | callK (f : Str) (n m : Nat) (ks : List Nat) (es kes : Exs)
  | bi (f : String) (es : Exs)
  | met (m : String) (o : Ex) (es : Exs)
  | idx (a b : Ex)
  | comp (own : List Nat) (tg : Tg) (it : Src) (ifs : Exs) (elt : Ex)
  deriving DecidableEq
inductive Exs where
  | nil | cons (e : Ex) (es : Exs)
  deriving DecidableEq
inductive Src where
  | seq (e : Ex)
  | range1 (b : Ex)
  | range2 (a b : Ex)
  | enum (e : Ex)
  deriving DecidableEq
end
mutual
inductive Sm where
  | ex (e : Ex)
  | asg (tg : Tg) (e : Ex)
  | asgs (is : List Nat) (es : Exs)
  | sub (o i e : Ex)
  | aug (op : Operator) (i : Nat) (e : Ex)
  | ite (c : Ex) (a b : Sms)
  | for (tg : Tg) (it : Src) (b : Sms)
  | whl (c : Ex) (b : Sms)
  | ret (e : Ex)
  | pass | brk | cont
  deriving DecidableEq
inductive Sms where
  | nil | cons (s : Sm) (ss : Sms)
  deriving DecidableEq
end
structure Fn where
  np : Nat
  names : List Str
  body : Sms
  deriving DecidableEq

/-! ### the interpreter -/
abbrev Env := List (Option D)
abbrev Fs := Str → List D → M D
inductive Fl where
  | nx (ρ : Env) | ret (d : D) | brk (ρ : Env) | ct (ρ : Env) | exc (c : Str) (w : D) (ρ : Env)
/-- what a statement yields -/
abbrev MS := Sto → Option (Fl × Sto)
/-- an expression within a statement -/
def bindE {α : Type} (ρ : Env) (m : M α) (k : α → MS) : MS := fun s =>
  match m s with
  | none => none
  | some (.ok a s') => k a s'
  | some (.exc c w s') => some (.exc c w ρ, s')
def bindS (m : MS) (k : Env → MS) : MS := fun s =>
  match m s with
  | some (.nx ρ, s') => k ρ s'
  | r => r
def asgTg : Tg → D → Env → Option Env
  | .nm i, d, ρ => some (ρ.set i (some d))
  | .tup is, .tup ds, ρ => if is.length = ds.length then some ((is.zip ds).foldl (fun r p => r.set p.1 (some p.2)) ρ) else none
  | _, _, _ => none
/-- what is walked: the items, and whether it stands as it stood -/
structure Wk where
  items : List D
  src : Option (Nat × List D) := none
def Wk.ok (w : Wk) (s : Sto) : Bool := match w.src with
  | none => true
  | some (n, xs) => lstAt s n == some xs
def enumD : Nat → List D → List D
  | _, [] => []
  | k, d :: ds => .tup [.int k, d] :: enumD (k + 1) ds
def rangeD (lo : Int) : Nat → List D
  | 0 => []
  | n + 1 => .int lo :: rangeD (lo + 1) n
def r62 (i : Int) : Bool := decide (-(2 ^ 62) ≤ i ∧ i < 2 ^ 62)
def walkOf (d : D) : M Wk := fun s =>
  match d with
  | .tup xs => some (.ok ⟨xs, none⟩ s)
  | .frz xs => some (.ok ⟨xs, none⟩ s)
  | .obj n => (lstAt s n).map fun xs => .ok ⟨xs, some (n, xs)⟩ s
  | _ => none
def rangeOf (ds : List D) : M Wk := fun s =>
  match ds with
  | [.int j] => if r62 j then some (.ok ⟨rangeD 0 j.toNat, none⟩ s) else none
  | [.int i, .int j] => if r62 i && r62 j then some (.ok ⟨rangeD i (j - i).toNat, none⟩ s) else none
  | _ => none
def wkEnum (w : Wk) : Wk := ⟨enumD 0 w.items, w.src⟩
/-- a comprehension's turns -/
def compL (w : Wk) (turn : D → M (Option D)) : List D → List D → M (List D)
  | [], acc => fun s => if w.ok s then some (.ok acc s) else none
  | d :: ds, acc => fun s => if w.ok s then
      (turn d >>= fun o => match o with
        | some x => fun s' => if acc.length < 16777216 then compL w turn ds (acc ++ [x]) s' else none
        | none => compL w turn ds acc) s
    else none
def forS (w : Wk) (turn : D → Env → MS) : List D → Env → MS
  | [], ρ => fun s => if w.ok s then some (.nx ρ, s) else none
  | d :: ds, ρ => fun s => if w.ok s then
      match turn d ρ s with
      | some (.nx ρ', s') => forS w turn ds ρ' s'
      | some (.ct ρ', s') => forS w turn ds ρ' s'
      | some (.brk ρ', s') => some (.nx ρ', s')
      | r => r
    else none
def whlS (test : Env → M Bool) (body : Env → MS) : Nat → Env → MS
  | 0, _ => fun _ => none
  | n + 1, ρ => bindE ρ (test ρ) fun t => if t then fun s =>
      match body ρ s with
      | some (.nx ρ', s') => whlS test body n ρ' s'
      | some (.ct ρ', s') => whlS test body n ρ' s'
      | some (.brk ρ', s') => some (.nx ρ', s')
      | r => r
    else fun s => some (.nx ρ, s)
def wipeE (ρ : Env) : List Nat → Env
  | [] => ρ
  | v :: vs => (wipeE ρ vs).set v none
/-- the values in the parameters' order: those by place, then those by name -/
def permG {α : Type} (n m : Nat) (ks : List Nat) (us zs : List α) : Option (List α) :=
  if us.length = m ∧ zs.length = ks.length then
    (List.range n).mapM fun j => if j < m then us[j]? else (ks.zip zs).lookup j
  else none
def liftO {α : Type} (o : Option α) : M α := fun s => o.map fun a => .ok a s

section
variable (G : Fs)
mutual
def ev : Ex → Env → M D
  | .loc i, ρ => fun s => match ρ[i]? with
    | some (some d) => some (.ok d s)
    | _ => none
  | .non, _ => pure .non
  | .bl b, _ => pure (.bl b)
  | .int i, _ => pure (.int i)
  | .str x, _ => pure (.str x)
  | .bin op a b, ρ => ev a ρ >>= fun x => ev b ρ >>= fun y => binE op x y
  | .neg a, ρ => ev a ρ >>= fun x => match x with
    | .int i => pure (.int (-i))
    | _ => M.stuck
  | .cmp op a b, ρ => ev a ρ >>= fun x => ev b ρ >>= fun y => cmpE op x y
  | .and a b, ρ => ev a ρ >>= fun x => truthM x >>= fun t => if t then ev b ρ else pure x
  | .or a b, ρ => ev a ρ >>= fun x => truthM x >>= fun t => if t then pure x else ev b ρ
  | .not a, ρ => ev a ρ >>= fun x => truthM x >>= fun t => pure (.bl (!t))
  | .ite c a b, ρ => ev c ρ >>= fun x => truthM x >>= fun t => if t then ev a ρ else ev b ρ
  | .tup es, ρ => evs es ρ >>= newT
  | .lst es, ρ => evs es ρ >>= newL
  | .call f es, ρ => evs es ρ >>= fun ds => G f ds
  | .callK f n m ks es kes, ρ => evs es ρ >>= fun ds => evs kes ρ >>= fun zs => liftO (permG n m ks ds zs) >>= fun xs => G f xs
  | .bi f es, ρ => evs es ρ >>= biE f
  | .met m o es, ρ => ev o ρ >>= fun x => metT m x >>= fun _ => evs es ρ >>= fun ds => metE m x ds
  | .idx a b, ρ => ev a ρ >>= fun x => ev b ρ >>= fun y => idxE x y
  | .comp own tg it ifs elt, ρ => evSrc it ρ >>= fun w =>
      compL w (fun d => noX (liftO (asgTg tg d (wipeE ρ own)) >>= fun ρ' => evTs ifs ρ' >>= fun t => if t then ev elt ρ' >>= fun x => pure (some x) else pure none)) w.items [] >>= fun xs => newL xs
def evs : Exs → Env → M (List D)
  | .nil, _ => pure []
  | .cons e es, ρ => ev e ρ >>= fun d => evs es ρ >>= fun ds => pure (d :: ds)
def evTs : Exs → Env → M Bool
  | .nil, _ => pure true
  | .cons e es, ρ => ev e ρ >>= fun x => truthM x >>= fun t => if t then evTs es ρ else pure false
def evSrc : Src → Env → M Wk
  | .seq e, ρ => ev e ρ >>= walkOf
  | .range1 b, ρ => ev b ρ >>= fun y => rangeOf [y]
  | .range2 a b, ρ => ev a ρ >>= fun x => ev b ρ >>= fun y => rangeOf [x, y]
  | .enum e, ρ => ev e ρ >>= fun d => walkOf d >>= fun w => pure (wkEnum w)
end

variable (F : Nat)
mutual
def exS : Sm → Env → MS
  | .ex e, ρ => bindE ρ (ev G e ρ) fun _ s => some (.nx ρ, s)
  | .asg tg e, ρ => bindE ρ (ev G e ρ) fun d => bindE ρ (liftO (asgTg tg d ρ)) fun ρ' s => some (.nx ρ', s)
  | .asgs is es, ρ => bindE ρ (evs G es ρ) fun ds s => if is.length = ds.length then some (.nx ((is.zip ds).foldl (fun r p => r.set p.1 (some p.2)) ρ), s) else none
  | .sub o i e, ρ => bindE ρ (ev G e ρ) fun v => bindE ρ (ev G o ρ) fun x => bindE ρ (ev G i ρ) fun y => bindE ρ (setE x y v) fun _ s => some (.nx ρ, s)
  | .aug op i e, ρ => bindE ρ (ev G (.loc i) ρ) fun x => bindE ρ (ev G e ρ) fun y => bindE ρ (augE op x y) fun z s => some (.nx (ρ.set i (some z)), s)
  | .ite c a b, ρ => bindE ρ (ev G c ρ >>= truthM) fun t => if t then exSs a ρ else exSs b ρ
  | .for tg it b, ρ => bindE ρ (evSrc G it ρ) fun w => forS w (fun d ρ' => bindE ρ' (liftO (asgTg tg d ρ')) fun ρ'' => exSs b ρ'') w.items ρ
  | .whl c b, ρ => whlS (fun ρ' => ev G c ρ' >>= truthM) (fun ρ' => exSs b ρ') F ρ
  | .ret e, ρ => bindE ρ (ev G e ρ) fun d s => some (.ret d, s)
  | .pass, ρ => fun s => some (.nx ρ, s)
  | .brk, ρ => fun s => some (.brk ρ, s)
  | .cont, ρ => fun s => some (.ct ρ, s)
def exSs : Sms → Env → MS
  | .nil, ρ => fun s => some (.nx ρ, s)
  | .cons s ss, ρ => bindS (exS s ρ) fun ρ' => exSs ss ρ'
end
end
def runF (G : Fs) (F : Nat) (f : Fn) (ds : List D) : M D := fun s =>
  if ds.length = f.np then
    match exSs G F f.body (ds.map some ++ List.replicate (f.names.length - ds.length) none) s with
    | some (.nx _, s') => some (.ok .non s')
    | some (.ret d, s') => some (.ok d s')
    | some (.exc c w _, s') => some (.exc c w s')
    | _ => none
  else none
abbrev Tab := Str → Option Fn
def Gm (T : Tab) (F : Nat) : Nat → Fs
  | 0 => fun _ _ => M.stuck
  | k + 1 => fun f ds => match T f with
    | some fn => runF (Gm T F k) F fn ds
    | none => M.stuck
end Mi

set_option maxRecDepth 100000
/-! Mini: how the abstract heap bears a store. -/
namespace Mi
open PySem PySem.Spec PyProof.Rows L2

/-! ### values -/
/-- a list that never changes (the script) -/
def FzL (K : PySem.W.Frag) (H : Hp) (a : Addr) (vs : List V) : Prop :=
  (∃ o, H a = some (.frz o (.lst vs))) ∨
    ∃ (o : Obj) (its : Array Value) (n : Nat), K.lookup a = some o ∧ o.cls = .type "list" ∧ o.dict = none ∧ o.data = .seq its n ∧ its.size ≤ sizeLine ∧ Vals vs its.toList
theorem FzL.sq {K : PySem.W.Frag} {H : Hp} {a : Addr} {vs : List V} (h : FzL K H a vs) : SqL K H a vs := by
  rcases h with ⟨o, h⟩ | h
  · exact .inl (.inr ⟨o, h⟩)
  · exact .inr h
mutual
inductive RV (K : PySem.W.Frag) (H : Hp) (φ : List Addr) : V → D → Prop
  | non : RV K H φ .non .non
  | bl (b : Bool) : RV K H φ (.bl b) (.bl b)
  | int (i : Int) : RV K H φ (.int i) (.int i)
  | str (x : Str) : RV K H φ (.str x) (.str x)
  | tup {a : Addr} {vs : List V} {ds : List D} : SqT K H a vs → RVs K H φ vs ds → RV K H φ (.ref a) (.tup ds)
  | frz {a : Addr} {vs : List V} {ds : List D} : FzL K H a vs → RVs K H φ vs ds → RV K H φ (.ref a) (.frz ds)
  | obj {a : Addr} {n : Nat} : φ[n]? = some a → RV K H φ (.ref a) (.obj n)
inductive RVs (K : PySem.W.Frag) (H : Hp) (φ : List Addr) : List V → List D → Prop
  | nil : RVs K H φ [] []
  | cons {v : V} {d : D} {vs : List V} {ds : List D} : RV K H φ v d → RVs K H φ vs ds → RVs K H φ (v :: vs) (d :: ds)
end
/-- an object that the store has -/
def RO (K : PySem.W.Frag) (H : Hp) (φ : List Addr) (a : Addr) : O → Prop
  | .lst ds => ∃ vs, H a = some (.lst vs) ∧ RVs K H φ vs ds
  | .dic _ => False
/-- the store -/
structure RS (K : PySem.W.Frag) (H : Hp) (φ : List Addr) (st : Sto) : Prop where
  nd : φ.Nodup
  len : φ.length = st.length
  obj : ∀ (n : Nat) (o : O), st[n]? = some o → ∃ a, φ[n]? = some a ∧ RO K H φ a o
/-- what never changes -/
def Imm : HO → Prop
  | .tup _ => True
  | .frz _ _ => True
  | _ => False
/-- from one heap to a later one: all but the store's objects is kept -/
structure Ext (H : Hp) (φ : List Addr) (H' : Hp) (φ' : List Addr) : Prop where
  imm : ∀ a o, H a = some o → Imm o → H' a = some o
  keep : ∀ a o, H a = some o → a ∉ φ → H' a = some o
  there : ∀ a o, H a = some o → ∃ o', H' a = some o'
  pre : ∃ new, φ' = φ ++ new ∧ ∀ a ∈ new, H a = none
theorem Ext.refl (H : Hp) (φ : List Addr) : Ext H φ H φ := ⟨fun _ _ h _ => h, fun _ _ h _ => h, fun _ o h => ⟨o, h⟩, [], by simp, by simp⟩
theorem Ext.trans {H H1 H2 : Hp} {φ φ1 φ2 : List Addr} (x : Ext H φ H1 φ1) (y : Ext H1 φ1 H2 φ2) : Ext H φ H2 φ2 := by
  obtain ⟨n1, e1, f1⟩ := x.pre
  obtain ⟨n2, e2, f2⟩ := y.pre
  have nn : ∀ a o, H a = some o → a ∉ φ → a ∉ φ1 := fun a o h n hm => by
    rw [e1] at hm
    rcases List.mem_append.mp hm with z | z
    · exact n z
    · rw [f1 a z] at h
      cases h
  refine ⟨fun a o h i => y.imm a o (x.imm a o h i) i, fun a o h n => y.keep a o (x.keep a o h n) (nn a o h n), fun a o h => ?_, n1 ++ n2, by rw [e2, e1, List.append_assoc], fun a ha => ?_⟩
  · obtain ⟨o1, h1⟩ := x.there a o h
    exact y.there a o1 h1
  · rcases List.mem_append.mp ha with z | z
    · exact f1 a z
    · cases e : H a with
      | none => rfl
      | some o =>
        obtain ⟨o1, h1⟩ := x.there a o e
        rw [f2 a z] at h1
        cases h1
theorem Ext.at {H H' : Hp} {φ φ' : List Addr} (x : Ext H φ H' φ') {n : Nat} {a : Addr} (h : φ[n]? = some a) : φ'[n]? = some a := by
  obtain ⟨new, e, _⟩ := x.pre
  rw [e, List.getElem?_append_left (List.getElem?_eq_some_iff.mp h).1]
  exact h
theorem Ext.tup {K : PySem.W.Frag} {H H' : Hp} {φ φ' : List Addr} (x : Ext H φ H' φ') {a : Addr} {vs : List V} (h : SqT K H a vs) : SqT K H' a vs := by
  rcases h with (h | ⟨o, h⟩) | h
  · exact .inl (.inl (x.imm _ _ h trivial))
  · exact .inl (.inr ⟨o, x.imm _ _ h trivial⟩)
  · exact .inr h
theorem Ext.fz {K : PySem.W.Frag} {H H' : Hp} {φ φ' : List Addr} (x : Ext H φ H' φ') {a : Addr} {vs : List V} (h : FzL K H a vs) : FzL K H' a vs := by
  rcases h with ⟨o, h⟩ | h
  · exact .inl ⟨o, x.imm _ _ h trivial⟩
  · exact .inr h
section
variable {K : PySem.W.Frag} {H H' : Hp} {φ φ' : List Addr}
mutual
theorem RV.ext (x : Ext H φ H' φ') : ∀ {v : V} {d : D}, RV K H φ v d → RV K H' φ' v d
  | _, _, .non => .non
  | _, _, .bl b => .bl b
  | _, _, .int i => .int i
  | _, _, .str z => .str z
  | _, _, .tup h r => .tup (x.tup h) (RVs.ext x r)
  | _, _, .frz h r => .frz (x.fz h) (RVs.ext x r)
  | _, _, .obj h => .obj (x.at h)
theorem RVs.ext (x : Ext H φ H' φ') : ∀ {vs : List V} {ds : List D}, RVs K H φ vs ds → RVs K H' φ' vs ds
  | _, _, .nil => .nil
  | _, _, .cons r t => .cons (RV.ext x r) (RVs.ext x t)
end
theorem RVs.length : ∀ {vs : List V} {ds : List D}, RVs K H φ vs ds → vs.length = ds.length
  | _, _, .nil => rfl
  | _, _, .cons _ t => by rw [List.length_cons, List.length_cons, RVs.length t]
theorem RVs.get : ∀ {vs : List V} {ds : List D} {i : Nat} {d : D}, RVs K H φ vs ds → ds[i]? = some d → ∃ v, vs[i]? = some v ∧ RV K H φ v d
  | _, _, _, _, .nil, e => by simp at e
  | _, _, 0, _, .cons r _, e => by
    simp at e
    subst e
    exact ⟨_, rfl, r⟩
  | _, _, i + 1, d, .cons _ t, e => by
    obtain ⟨v, h1, h2⟩ := RVs.get (i := i) (d := d) t (by simpa using e)
    exact ⟨v, by simpa using h1, h2⟩
theorem RVs.get' : ∀ {vs : List V} {ds : List D} {i : Nat} {v : V}, RVs K H φ vs ds → vs[i]? = some v → ∃ d, ds[i]? = some d ∧ RV K H φ v d
  | _, _, _, _, .nil, e => by simp at e
  | _, _, 0, _, .cons r _, e => by
    simp at e
    subst e
    exact ⟨_, rfl, r⟩
  | _, _, i + 1, v, .cons _ t, e => by
    obtain ⟨d, h1, h2⟩ := RVs.get' (i := i) (v := v) t (by simpa using e)
    exact ⟨d, by simpa using h1, h2⟩
theorem RVs.append : ∀ {vs ws : List V} {ds es : List D}, RVs K H φ vs ds → RVs K H φ ws es → RVs K H φ (vs ++ ws) (ds ++ es)
  | _, _, _, _, .nil, s => s
  | _, _, _, _, .cons r t, s => .cons r (RVs.append t s)
theorem RVs.set {v : V} {d : D} (r : RV K H φ v d) : ∀ {vs : List V} {ds : List D} (i : Nat), RVs K H φ vs ds → RVs K H φ (vs.set i v) (ds.set i d)
  | _, _, _, .nil => .nil
  | _, _, 0, .cons _ t => .cons r t
  | _, _, i + 1, .cons q t => .cons q (RVs.set r i t)
theorem RO.ext (x : Ext H φ H' φ') {a : Addr} (he : ∀ o, H a = some o → H' a = some o) : ∀ {o : O}, RO K H φ a o → RO K H' φ' a o
  | .lst _, ⟨vs, h, r⟩ => ⟨vs, he _ h, r.ext x⟩
  | .dic _, h => h
theorem RO.mut : ∀ {o : O} {a : Addr}, RO K H φ a o → ∃ u, H a = some u ∧ ¬ Imm u
  | .lst _, _, ⟨vs, h, _⟩ => ⟨_, h, id⟩
  | .dic _, _, h => h.elim
/-- every address of φ bears a mutable object -/
theorem RS.memMut {st : Sto} (s : RS K H φ st) {a : Addr} (h : a ∈ φ) : ∃ u, H a = some u ∧ ¬ Imm u := by
  obtain ⟨n, hn, e⟩ := List.mem_iff_getElem.mp h
  have e' : φ[n]? = some a := by rw [List.getElem?_eq_getElem hn, e]
  have hn' : n < st.length := by rw [← s.len]; exact hn
  obtain ⟨b, hb, r⟩ := s.obj n st[n] (List.getElem?_eq_getElem hn')
  rw [e'] at hb
  cases hb
  exact r.mut
theorem RS.notMem {st : Sto} (s : RS K H φ st) {a : Addr} (h : H a = none) : a ∉ φ := fun m => by
  obtain ⟨u, e, _⟩ := s.memMut m
  rw [h] at e
  cases e
/-- a new thing that is no object of the store -/
theorem Ext.new {p : Addr} {o : HO} {st : Sto} (s : RS K H φ st) (h : H p = none) : Ext H φ (upd H p o) φ := by
  have ne : ∀ a u, H a = some u → a ≠ p := fun a u e => ne_of_none e h
  refine ⟨fun a u e _ => ?_, fun a u e _ => ?_, fun a u e => ⟨u, ?_⟩, [], by simp, by simp⟩ <;> rw [upd_ne (ne a u e)] <;> exact e
theorem RS.ext {st : Sto} (s : RS K H φ st) (x : Ext H φ H' φ) (he : ∀ a ∈ φ, ∀ o, H a = some o → H' a = some o) : RS K H' φ st :=
  ⟨s.nd, s.len, fun n o e => by
    obtain ⟨a, ha, r⟩ := s.obj n o e
    exact ⟨a, ha, r.ext x (he a (List.mem_of_getElem? ha))⟩⟩
theorem RS.new {p : Addr} {o : HO} {st : Sto} (s : RS K H φ st) (h : H p = none) : RS K (upd H p o) φ st :=
  s.ext (Ext.new s h) fun a _ u e => by rw [upd_ne (ne_of_none e h)]; exact e
/-- a new object of the store -/
theorem Ext.newObj {p : Addr} {o : HO} {st : Sto} (s : RS K H φ st) (h : H p = none) : Ext H φ (upd H p o) (φ ++ [p]) := by
  have x := Ext.new (o := o) s h
  exact ⟨x.imm, x.keep, x.there, [p], rfl, fun a ha => by
    have e : a = p := by simpa using ha
    rw [e]
    exact h⟩
theorem RS.newObj {p : Addr} {o : HO} {u : O} {st : Sto} (s : RS K H φ st) (h : H p = none) (r : RO K (upd H p o) (φ ++ [p]) p u) : RS K (upd H p o) (φ ++ [p]) (st ++ [u]) := by
  have x := Ext.newObj (o := o) s h
  refine ⟨?_, by simp [s.len], fun n o' e => ?_⟩
  · rw [List.nodup_append]
    exact ⟨s.nd, by simp, fun a ha b hb => by
      have e : b = p := by simpa using hb
      rw [e]
      intro z
      exact s.notMem h (z ▸ ha)⟩
  · by_cases hn : n < st.length
    · rw [List.getElem?_append_left hn] at e
      obtain ⟨a, ha, r'⟩ := s.obj n o' e
      exact ⟨a, x.at ha, r'.ext x fun q z => by rw [upd_ne (ne_of_none z h)]; exact z⟩
    · have hl : n = st.length := by
        have := (List.getElem?_eq_some_iff.mp e).1
        rw [List.length_append, List.length_singleton] at this
        omega
      subst hl
      rw [List.getElem?_append_right (Nat.le_refl _), Nat.sub_self] at e
      cases e
      refine ⟨p, ?_, r⟩
      rw [List.getElem?_append_right (by rw [s.len]; exact Nat.le_refl _), s.len, Nat.sub_self]
      rfl
/-- an object of the store is written -/
theorem Ext.write {n : Nat} {a : Addr} {o : HO} {st : Sto} (s : RS K H φ st) (h : φ[n]? = some a) : Ext H φ (upd H a o) φ := by
  have hm := List.mem_of_getElem? h
  refine ⟨fun b u e i => ?_, fun b u e nm => ?_, fun b u e => ?_, [], by simp, by simp⟩
  · have ne : b ≠ a := fun z => by
      obtain ⟨w, e1, ni⟩ := s.memMut hm
      rw [z, e1] at e
      cases e
      exact ni i
    rw [upd_ne ne]
    exact e
  · have ne : b ≠ a := fun z => nm (z ▸ hm)
    rw [upd_ne ne]
    exact e
  · by_cases z : b = a
    · rw [z, upd_same]
      exact ⟨_, rfl⟩
    · rw [upd_ne z]
      exact ⟨u, e⟩
theorem RS.write {n : Nat} {a : Addr} {o : HO} {u : O} {st : Sto} (s : RS K H φ st) (h : φ[n]? = some a) (r : RO K (upd H a o) φ a u) : RS K (upd H a o) φ (st.set n u) := by
  have x := Ext.write (o := o) s h
  refine ⟨s.nd, by rw [List.length_set]; exact s.len, fun m o' e => ?_⟩
  by_cases hm : m = n
  · subst hm
    rw [List.getElem?_set_self (by rw [← s.len]; exact (List.getElem?_eq_some_iff.mp h).1)] at e
    cases e
    exact ⟨a, h, r⟩
  · rw [List.getElem?_set_ne (Ne.symm hm)] at e
    obtain ⟨b, hb, r'⟩ := s.obj m o' e
    have ne : b ≠ a := fun z => by
      subst z
      have h1 := (List.getElem?_eq_some_iff.mp h)
      have h2 := (List.getElem?_eq_some_iff.mp hb)
      obtain ⟨l1, q1⟩ := h1
      obtain ⟨l2, q2⟩ := h2
      exact hm ((List.getElem_inj s.nd).mp (q2.trans q1.symm))
    exact ⟨b, hb, r'.ext x fun q z => by rw [upd_ne ne]; exact z⟩
end

/-! ### the frame's names -/
structure RE (K : PySem.W.Frag) (σ : L2.St) (H : Hp) (φ : List Addr) (ρ : Env) : Prop where
  len : σ.length = ρ.length
  at_ : ∀ (i : Nat) (d : D), ρ[i]? = some (some d) → ∃ v, σ[i]? = some (some v) ∧ RV K H φ v d
section
variable {K : PySem.W.Frag} {H H' : Hp} {φ φ' : List Addr} {σ : L2.St} {ρ : Env}
theorem RE.ext (r : RE K σ H φ ρ) (x : Ext H φ H' φ') : RE K σ H' φ' ρ := ⟨r.len, fun i d e => by
  obtain ⟨v, h, q⟩ := r.at_ i d e
  exact ⟨v, h, q.ext x⟩⟩
theorem RE.set (r : RE K σ H φ ρ) {v : V} {d : D} (q : RV K H φ v d) (i : Nat) : RE K (σ.set i (some v)) H φ (ρ.set i (some d)) := by
  refine ⟨by rw [List.length_set, List.length_set]; exact r.len, fun j e h => ?_⟩
  by_cases hj : j = i
  · subst hj
    have hl : j < ρ.length := by
      have := (List.getElem?_eq_some_iff.mp h).1
      rwa [List.length_set] at this
    rw [List.getElem?_set_self hl] at h
    cases h
    exact ⟨v, by rw [List.getElem?_set_self (by rw [r.len]; exact hl)], q⟩
  · rw [List.getElem?_set_ne (Ne.symm hj)] at h
    rw [List.getElem?_set_ne (Ne.symm hj)]
    exact r.at_ j e h
theorem RE.wipe (r : RE K σ H φ ρ) : ∀ vs : List Nat, RE K (L2.wipe σ vs) H φ (wipeE ρ vs)
  | [] => r
  | v :: vs => by
    have q := RE.wipe r vs
    show RE K ((L2.wipe σ vs).set v none) H φ ((wipeE ρ vs).set v none)
    refine ⟨by rw [List.length_set, List.length_set]; exact q.len, fun j e h => ?_⟩
    by_cases hj : j = v
    · subst hj
      have hl : j < (wipeE ρ vs).length := by
        have := (List.getElem?_eq_some_iff.mp h).1
        rwa [List.length_set] at this
      rw [List.getElem?_set_self hl] at h
      cases h
    · rw [List.getElem?_set_ne (Ne.symm hj)] at h
      rw [List.getElem?_set_ne (Ne.symm hj)]
      exact q.at_ j e h
end

/-! ### what is due behind a piece of text -/
/-- from the heap H, φ: what the interpreter yields is handed on, at any heap that bears the new store -/
def Post {α : Type} (K : PySem.W.Frag) (X : Str → D → List Addr → Hp → Prop) (H : Hp) (φ : List Addr) (r : Option (R α)) (Q : α → List Addr → Hp → Prop) : Prop :=
  match r with
  | none => False
  | some (.ok a st) => ∀ φ' H', Ext H φ H' φ' → RS K H' φ' st → Q a φ' H'
  | some (.exc c w st) => ∀ φ' H', Ext H φ H' φ' → RS K H' φ' st → X c w φ' H'
section
variable {α β : Type} {K : PySem.W.Frag} {X : Str → D → List Addr → Hp → Prop} {H : Hp} {φ : List Addr}
/-- the first part, then the rest from wherever it is -/
theorem Post.split {m : M α} {k : α → M β} {st : Sto} {Q : β → List Addr → Hp → Prop} (h : Post K X H φ ((m >>= k) st) Q) :
    Post K X H φ (m st) (fun a φ1 H1 => ∃ st1, RS K H1 φ1 st1 ∧ Ext H φ H1 φ1 ∧ Post K X H1 φ1 (k a st1) Q) := by
  cases e : m st with
  | none =>
    have z : (m >>= k) st = none := by
      show M.bind m k st = _
      unfold M.bind
      rw [e]
    rw [z] at h
    exact h.elim
  | some r =>
    cases r with
    | ok a s1 =>
      rw [bind_ok e] at h
      intro φ1 H1 x s
      refine ⟨s1, s, x, ?_⟩
      cases e2 : k a s1 with
      | none =>
        rw [e2] at h
        exact h
      | some r2 =>
        rw [e2] at h
        cases r2 with
        | ok b s2 => exact fun φ2 H2 x2 q => h φ2 H2 (x.trans x2) q
        | exc c w s2 => exact fun φ2 H2 x2 q => h φ2 H2 (x.trans x2) q
    | exc c w s1 =>
      rw [bind_exc e] at h
      exact h
theorem Post.mono {r : Option (R α)} {Q Q' : α → List Addr → Hp → Prop} (h : Post K X H φ r Q) (hq : ∀ a φ' H', Ext H φ H' φ' → Q a φ' H' → Q' a φ' H') : Post K X H φ r Q' := by
  match r, h with
  | some (.ok a st), h => exact fun φ' H' x s => hq a φ' H' x (h φ' H' x s)
  | some (.exc c w st), h => exact h
theorem Post.pure {a : α} {st : Sto} {Q : α → List Addr → Hp → Prop} (s : RS K H φ st) (h : Post K X H φ ((Pure.pure a : M α) st) Q) : Q a φ H := h φ H (Ext.refl H φ) s
end
end Mi

set_option maxRecDepth 100000
/-! Mini: calls of defs, with what repr asks (no repr is under way). -/
namespace Mi
open PySem PySem.Spec PyProof.Rows L2

/-- the def at f keeps its promise wherever no repr is under way -/
structure FnG (P : Program) (w : World) (K : PySem.W.Frag) (mg : Str → Option Value) (base : Heap) (k : Nat) (f : Addr) (fd : FuncData) (ps : List Str) (sp : Sp) : Prop where
  len : ∀ vs H Q E, sp vs H Q E → vs.length = ps.length
  run : ∀ (A : Around) (outer : List PySem.Env) (s : Shared) (H : Hp) (args : Args) (us : List Value) (vs : List V) (Q : VK) (E : XK),
    Room k A → A.guards = some [] → Env0 P w K mg base A outer s H → BindsTo s fd args (ps.zip us) → Vals vs us → sp vs H Q E →
    codeAny (model P w) A (.call (.ref f) args) (CR (L2.CX P w) outer P w H s Q E) s

section
variable {X : Cx} {k : Nat} {f : Addr} {fd : FuncData} {ps : List Str} {sp : Sp}
/-- the callee runs; what it raises is wished for at the caller's slots -/
theorem run_G {pins : List (Addr × Obj)} {σ : L2.St} {H : Hp} {s : Shared} {Q : VK} {W : WX} {args us : List Value} {kw : List (Str × Value)} {vs : List V}
    (F : FnG X.prog X.w X.K X.mg X.base k f fd ps sp) (hr : Room k X.A) (hg : X.A.guards = some []) (tk : Takes X W) (I : Inv X pins σ H s) (hb : BindsTo s fd ⟨args, kw⟩ (ps.zip us)) (r : Vals vs us)
    (h : sp vs H Q fun c d H' => W c d σ H') : wpAny (model X.prog X.w) X.A (PySem.call (.ref f) args kw) (EP X pins σ Q) X.xe s := by
  refine wpAny_call (codeAny_mono (F.run X.A X.stack s H ⟨args, kw⟩ us vs Q _ hr hg I.env0 hb r h) fun res s' hq => ?_)
  match res, hq with
  | .error e, hq => exact tk e s' (XE.of_call I (fun _ _ _ z => z) hq)
  | .ok (.ret u), hq => exact I.after hq

/-- f(e, ..) by the name of a def of the text -/
theorem pe_callG {W : WX} {x : Str} {p pos : Pos} {e : Expr} {es : List Expr} {t : TA} (F : FnG X.prog X.w X.K X.mg X.base k f fd ps sp) (hr : Room k X.A) (hg : X.A.guards = some []) (tk : Takes X W)
    (hgl : Gl X x) (hm : X.mg x = some (.ref f)) (hk : PySem.W.keepIn X.K (.ref f) = true)
    (hb : ∀ us : List Value, us.length = ps.length → bindArgs fd ⟨us, []⟩ = pure (ps.zip us)) (ha : PA X (e :: es) t)
    (hdb : (x == ("__debug__" : Str)) = false) (he : starEach (e :: es) X.env = (false, eval e X.env) :: starEach es X.env) (hpl : (backTo pos (starEach es X.env)).any (·.1) = false) :
    PE X (.Call (.Name x p) (e :: es) [] pos) (fun σ H Q => t σ H fun vs H1 => sp vs H1 Q fun c d H' => W c d σ H') := by
  refine ⟨fun pins s σ H Q I h => ?_⟩
  refine wpAny_Call_Name_kw (ld_glob I hgl hm ?_ hdb)
  refine PySem.W.callWith_K (h₀ := X.base) I.ok.mod.kin hk (thn (ha.run pos pins s σ H _ I h) fun us s1 q => ?_) he hpl
  obtain ⟨vs, H1, I1, r, q⟩ := q
  exact ⟨I1.kIn, run_G F hr hg tk I1 (.of_eq (hb us (by rw [← r.length]; exact F.len _ _ _ _ q))) r q⟩
/-- f() -/
theorem pe_callG0 {W : WX} {x : Str} {p pos : Pos} (F : FnG X.prog X.w X.K X.mg X.base k f fd ps sp) (hr : Room k X.A) (hg : X.A.guards = some []) (tk : Takes X W)
    (hgl : Gl X x) (hm : X.mg x = some (.ref f)) (hk : PySem.W.keepIn X.K (.ref f) = true)
    (hb : ∀ us : List Value, us.length = ps.length → bindArgs fd ⟨us, []⟩ = pure (ps.zip us)) (hdb : (x == ("__debug__" : Str)) = false) :
    PE X (.Call (.Name x p) [] [] pos) (fun σ H Q => sp [] H Q fun c d H' => W c d σ H') := by
  refine ⟨fun pins s σ H Q I h => ?_⟩
  refine wpAny_Call_Name_kw (ld_glob I hgl hm ?_ hdb)
  exact PySem.W.callWith_K0 I.kIn hk (run_G F hr hg tk I (.of_eq (hb [] (F.len _ _ _ _ h))) .nil h)
/-- f(e, .., k = v, ..) -/
theorem pe_callKG {W : WX} {x : Str} {p pos : Pos} {ks : List Str} {gV : List V → List V → List V} {g : List Value → List Value → List Value} {e : Expr} {es : List Expr} {kws : List Keyword} {t tk' : TA}
    (F : FnG X.prog X.w X.K X.mg X.base k f fd ps sp) (hr : Room k X.A) (hg : X.A.guards = some []) (tk : Takes X W)
    (hgl : Gl X x) (hm : X.mg x = some (.ref f)) (hk : PySem.W.keepIn X.K (.ref f) = true)
    (hb : KBinds X.K fd ps ks g gV) (ha : PA X (e :: es) t) (hkw : PK X kws tk')
    (hall : (backToKw pos (keywordEach kws X.env)).all (·.1.isSome) = true) (hks : (backToKw pos (keywordEach kws X.env)).filterMap (·.1) = ks)
    (hdb : (x == ("__debug__" : Str)) = false) (he : starEach (e :: es) X.env = (false, eval e X.env) :: starEach es X.env)
    (hpl : ((backTo pos (starEach (e :: es) X.env)).any (·.1) || (backToKw pos (keywordEach kws X.env)).any (·.1.isNone)) = false) :
    PE X (.Call (.Name x p) (e :: es) kws pos) (fun σ H Q => t σ H fun vs H1 => tk' σ H1 fun zs H2 => sp (gV vs zs) H2 Q fun c d H' => W c d σ H') := by
  refine ⟨fun pins s σ H Q I h => ?_⟩
  refine wpAny_Call_Name_kw (ld_glob I hgl hm ?_ hdb)
  refine PySem.W.callWith_KW (h₀ := X.base) I.ok.mod.kin hk hall (thn (ha.run pos pins s σ H _ I h) fun us s1 q => ?_) hpl he
  obtain ⟨vs, H1, I1, r, q⟩ := q
  refine thn (hkw.run pos pins s1 σ H1 _ I1 q) fun ws s2 q2 => ?_
  obtain ⟨zs, H2, I2, rz, q2⟩ := q2
  refine ⟨I2.kIn, ?_⟩
  rw [hks]
  have rr := hb.rel r rz
  exact run_G F hr hg tk I2 (hb.to s2 us ws I2.kIn (by rw [← rr.length]; exact F.len _ _ _ _ q2)) rr q2
theorem pe_callKG0 {W : WX} {x : Str} {p pos : Pos} {ks : List Str} {gV : List V → List V → List V} {g : List Value → List Value → List Value} {kws : List Keyword} {tk' : TA}
    (F : FnG X.prog X.w X.K X.mg X.base k f fd ps sp) (hr : Room k X.A) (hg : X.A.guards = some []) (tk : Takes X W)
    (hgl : Gl X x) (hm : X.mg x = some (.ref f)) (hk : PySem.W.keepIn X.K (.ref f) = true)
    (hb : KBinds X.K fd ps ks g gV) (hkw : PK X kws tk')
    (hall : (backToKw pos (keywordEach kws X.env)).all (·.1.isSome) = true) (hks : (backToKw pos (keywordEach kws X.env)).filterMap (·.1) = ks)
    (hdb : (x == ("__debug__" : Str)) = false)
    (hpl : ((backTo pos (starEach [] X.env)).any (·.1) || (backToKw pos (keywordEach kws X.env)).any (·.1.isNone)) = false) :
    PE X (.Call (.Name x p) [] kws pos) (fun σ H Q => tk' σ H fun zs H2 => sp (gV [] zs) H2 Q fun c d H' => W c d σ H') := by
  refine ⟨fun pins s σ H Q I h => ?_⟩
  refine wpAny_Call_Name_kw (ld_glob I hgl hm ?_ hdb)
  refine PySem.W.callWith_KW0 (h₀ := X.base) I.ok.mod.kin hk hall (thn (hkw.run pos pins s σ H _ I h) fun ws s2 q2 => ?_) hpl
  obtain ⟨zs, H2, I2, rz, q2⟩ := q2
  refine ⟨I2.kIn, ?_⟩
  rw [hks]
  have rr := hb.rel (vs := []) (us := []) .nil rz
  exact run_G F hr hg tk I2 (hb.to s2 [] ws I2.kIn (by rw [← rr.length]; exact F.len _ _ _ _ q2)) rr q2
end

/-! ### a def of the text by its body -/
theorem deeper_guards {A : Around} {env : PySem.Env} : (A.deeper env).guards = A.guards := by
  first | rfl | simp [Around.deeper]
/-- the context of a body -/
abbrev bodyCx (P : Program) (w : World) (K : PySem.W.Frag) (mg : Str → Option Value) (base : Heap) (N : List Str) (q : Str) (sc : Scope) (f : Addr) (cd : Value) (A : Around) (outer : List PySem.Env) (s : Shared) (H : Hp) (E : XK) : Cx :=
  cxOf (L2.CX P w) P w K mg base N q sc f cd A outer s H E
theorem fnG_of {P : Program} {w : World} {K : PySem.W.Frag} {mg : Str → Option Value} {base : Heap} {x q : Str} {st : Stmt} {f : Addr} {fd : FuncData} {N ps : List Str} {k : Nat} {sp : Sp}
    (F : Fun K x q st f fd) (S : FnScope N ps (defScope st)) (len : ∀ vs H Q E, sp vs H Q E → vs.length = ps.length)
    (hbody : ∀ (cd : Value) (A : Around) (outer : List PySem.Env) (s : Shared) (H : Hp) (vs : List V) (Q : VK) (E : XK),
      Room k (bodyCx P w K mg base N q (defScope st) f cd A outer s H E).A → (bodyCx P w K mg base N q (defScope st) f cd A outer s H E).A.guards = some [] → sp vs H Q E →
      ∃ t, PSs (bodyCx P w K mg base N q (defScope st) f cd A outer s H E) (defBody st) t ∧ t { nx := fun _ H' => Q .non H', rt := Q } (start N vs) H) :
    FnG P w K mg base (k + 1) f fd ps sp := by
  obtain ⟨oc, od, kV, doc, pm, an, cd, ct, osl, rfl, lk, hcd⟩ := F.ex
  refine ⟨len, fun A outer s H args us vs Q E hr hg e0 hb r hsp => ?_⟩
  have hlen := len _ _ _ _ hsp
  have stay : ∀ b o, base.get? b = some o → s.heap.get? b = some o := fun b o e => (e0.bs b o e).1
  have KX : K.In s.heap := e0.mod.kin.keeps stay
  have kinds : ∀ y ∈ ps.zip us, (defScope st).names.lookup y.1 = some .local ∨ ((defScope st).names.lookup y.1 = some .cell ∧ ((cellsFrom (s.heap.objs.size + 1) (defScope st).names []).lookup y.1).isSome = true) := by
    rintro ⟨n, v⟩ hy
    rcases S.par n (List.of_mem_zip hy).1 with z | z
    · exact .inl z
    · exact .inr ⟨z, PySem.W.cellsFrom_some _ _ _ (.inl z)⟩
  refine codeAny_call_function hr.depth (KX _ _ lk) rfl S.co S.gen rfl (PySem.W.codeRec_of KX hcd) (hb _ _ _ _ ?_)
  refine wpAny_newFunctionEnv_cells S.kind kinds fun env he s1 x => ?_
  subst he
  refine ⟨(e0.mod.nolimit.keeps stay).keeps x.toInCall.keep, codeAny_func ?_⟩
  obtain ⟨t, ht, hq⟩ := hbody cd A outer s H vs Q E (hr.deeper _) (deeper_guards.trans hg) hsp
  have I := inv_start (CX := L2.CX P w) (P := P) (w := w) (K := K) (mg := mg) (base := base) (qual := q) (f := f) (cd := cd) (E := E) S hr.hd e0 hlen r x
  refine wpAny_mono (ht.run [] s1 (start N vs) H _ I hq) (fun fl s' hs => ?_) fun e s' hs => hs
  match fl, hs with
  | .ret u, ⟨v, σ', H', J, rv, z⟩ => exact ⟨v, H', J.os, J.bare, J.base, J.hok, rv, z⟩
  | .next, ⟨σ', H', J, z⟩ => exact ⟨.non, H', J.os, J.bare, J.base, J.hok, rfl, z⟩
  | .brk, ⟨_, _, _, z⟩ => exact z.elim
  | .cont, ⟨_, _, _, z⟩ => exact z.elim
end Mi

set_option maxRecDepth 100000
/-! Mini: operations by values. -/
namespace Mi
open PySem PySem.Spec PyProof.Rows L2

section
variable {K : PySem.W.Frag} {H : Hp} {φ : List Addr}
mutual
theorem dp_of : ∀ (d : D) (v : V) (p : PyData), toPy d = some p → RV K H φ v d → Dp K H v p
  | .non, _, _, h, r => by cases r; cases h; exact .non
  | .bl b, _, _, h, r => by cases r; cases h; exact .bl b
  | .int i, _, _, h, r => by cases r; cases h; exact .int i
  | .str x, _, _, h, r => by cases r; cases h; exact .str x
  | .tup ds, _, p, h, r => by
    cases r with
    | tup q rs =>
      unfold toPy at h
      cases e : toPys ds with
      | none => rw [e] at h; cases h
      | some ps =>
        rw [e] at h
        cases h
        exact .tup q (dp_ofs ds _ ps e rs)
  | .frz ds, _, p, h, r => by
    cases r with
    | frz q rs =>
      unfold toPy at h
      cases e : toPys ds with
      | none => rw [e] at h; cases h
      | some ps =>
        rw [e] at h
        cases h
        exact .lst q.sq (dp_ofs ds _ ps e rs)
  | .obj n, _, _, h, _ => by cases h
theorem dp_ofs : ∀ (ds : List D) (vs : List V) (ps : List PyData), toPys ds = some ps → RVs K H φ vs ds → DpAll K H vs ps
  | [], _, _, h, r => by cases r; cases h; exact .nil
  | d :: ds, _, ps, h, r => by
    cases r with
    | cons r rs =>
      unfold toPys at h
      cases e : toPy d with
      | none => rw [e] at h; cases h
      | some p =>
        cases e2 : toPys ds with
        | none => rw [e, e2] at h; cases h
        | some qs =>
          rw [e, e2] at h
          cases h
          exact .cons (dp_of d _ p e r) (dp_ofs ds _ qs e2 rs)
end
theorem RS.lst {st : Sto} (s : RS K H φ st) {n : Nat} {xs : List D} (e : lstAt st n = some xs) : ∃ a vs, φ[n]? = some a ∧ H a = some (.lst vs) ∧ RVs K H φ vs xs := by
  obtain ⟨a, ha, vs, h, r⟩ := s.obj n _ (lstAt_some.mp e)
  exact ⟨a, vs, ha, h, r⟩
/-- a value that is a list of the store -/
theorem RV.lst {st : Sto} (s : RS K H φ st) {n : Nat} {xs : List D} {v : V} (r : RV K H φ v (.obj n)) (e : lstAt st n = some xs) : ∃ a vs, v = .ref a ∧ φ[n]? = some a ∧ H a = some (.lst vs) ∧ RVs K H φ vs xs := by
  obtain ⟨a, vs, ha, h, q⟩ := s.lst e
  cases r with
  | obj hb =>
    rw [ha] at hb
    cases hb
    exact ⟨a, vs, rfl, ha, h, q⟩
theorem dp_pyOf {st : Sto} (s : RS K H φ st) {d : D} {v : V} {p : PyData} (h : pyOf st d = some p) (r : RV K H φ v d) : Dp K H v p := by
  cases d with
  | obj n =>
    have h' : ((lstAt st n).bind fun xs => (toPys xs).map PyData.list) = some p := h
    obtain ⟨xs, e, h2⟩ := Option.bind_eq_some_iff.mp h'
    obtain ⟨ps, e2, rfl⟩ := Option.map_eq_some_iff.mp h2
    obtain ⟨a, vs, rfl, ha, hh, rs⟩ := r.lst s e
    exact .lst (.inl (.inl hh)) (dp_ofs xs vs ps e2 rs)
  | _ => exact dp_of _ v p h r
/-- a sequence: a list or a tuple that can be read -/
theorem seq_read {st : Sto} (s : RS K H φ st) {d : D} {v : V} {xs : List D} (h : seqOf d st = some xs) (r : RV K H φ v d) : ∃ a vs, v = .ref a ∧ (SqL K H a vs ∨ SqT K H a vs) ∧ RVs K H φ vs xs := by
  cases d with
  | tup ds =>
    cases h
    cases r with
    | tup q rs => exact ⟨_, _, rfl, .inr q, rs⟩
  | frz ds =>
    cases h
    cases r with
    | frz q rs => exact ⟨_, _, rfl, .inl q.sq, rs⟩
  | obj n =>
    obtain ⟨a, vs, rfl, ha, hh, rs⟩ := r.lst s (show lstAt st n = some xs from h)
    exact ⟨_, _, rfl, .inl (.inl (.inl hh)), rs⟩
  | _ => cases h
theorem RVs.empty {vs : List V} {ds : List D} (r : RVs K H φ vs ds) : ds.isEmpty = vs.isEmpty := by cases r <;> rfl
theorem tru_of {st : Sto} (s : RS K H φ st) {d : D} {v : V} {b : Bool} (h : truth d st = some b) (r : RV K H φ v d) : TruV K v H b := by
  cases d with
  | non => cases r; cases h; exact rfl
  | bl b => cases r; cases h; exact rfl
  | int i => cases r; cases h; exact rfl
  | str x => cases h
  | tup ds =>
    cases h
    cases r with
    | tup q rs => exact .inr (.inl ⟨_, q, by rw [rs.empty]⟩)
  | frz ds =>
    cases h
    cases r with
    | frz q rs => exact .inl ⟨_, q.sq, by rw [rs.empty]⟩
  | obj n =>
    obtain ⟨xs, e, rfl⟩ := Option.map_eq_some_iff.mp (show (lstAt st n).map (fun xs => !xs.isEmpty) = some b from h)
    obtain ⟨a, vs, rfl, ha, hh, rs⟩ := r.lst s e
    exact .inl ⟨_, .inl (.inl hh), by rw [rs.empty]⟩
theorem RVs.atI {vs : List V} {ds : List D} {i : Int} {d : D} (r : RVs K H φ vs ds) (h : atD ds i = some d) : ∃ v, L2.atI vs i = some v ∧ RV K H φ v d := by
  obtain ⟨j, e, h2⟩ := Option.bind_eq_some_iff.mp (show (ixN ds.length i).bind (fun j => ds[j]?) = some d from h)
  obtain ⟨v, hv, q⟩ := r.get h2
  refine ⟨v, ?_, q⟩
  unfold L2.atI
  rw [r.length, e]
  exact hv
end

/-! ### a reading by the interpreter -/
/-- one value out of values, by the interpreter's function f (whatever is said of exceptions: it raises none) -/
def rD2 (K : PySem.W.Frag) (f : D → D → M D) : R2 := fun x y H Q => ∃ XX φ st a b, RS K H φ st ∧ RV K H φ x a ∧ RV K H φ y b ∧ Post K XX H φ (f a b st) fun d φ' H' => ∀ v, RV K H' φ' v d → Q v H'
def rDs (K : PySem.W.Frag) (f : List D → M D) : List V → Hp → VK → Prop := fun xs H Q => ∃ XX φ st ds, RS K H φ st ∧ RVs K H φ xs ds ∧ Post K XX H φ (f ds st) fun d φ' H' => ∀ v, RV K H' φ' v d → Q v H'
section
variable {X : Cx}
/-- what the interpreter leaves as it is -/
theorem Post.here {α : Type} {K : PySem.W.Frag} {XX : Str → D → List Addr → Hp → Prop} {H : Hp} {φ : List Addr} {st : Sto} {a : α} {Q : α → List Addr → Hp → Prop} (s : RS K H φ st) (p : Post K XX H φ (some (.ok a st)) Q) : Q a φ H := p φ H (Ext.refl H φ) s
/-- .. with a new object p that is no object of the store -/
theorem Post.hereNew {α : Type} {K : PySem.W.Frag} {XX : Str → D → List Addr → Hp → Prop} {H : Hp} {φ : List Addr} {st : Sto} {a : α} {p : Addr} {o : HO} {Q : α → List Addr → Hp → Prop} (s : RS K H φ st) (h : H p = none) (q : Post K XX H φ (some (.ok a st)) Q) : Q a φ (upd H p o) :=
  q φ _ (Ext.new s h) (s.new h)
/-- .. with a new list of the store -/
theorem Post.hereLst {K : PySem.W.Frag} {XX : Str → D → List Addr → Hp → Prop} {H : Hp} {φ : List Addr} {st : Sto} {a : D} {p : Addr} {vs : List V} {ds : List D} {Q : D → List Addr → Hp → Prop} (s : RS K H φ st) (h : H p = none) (r : RVs K H φ vs ds)
    (q : Post K XX H φ (some (.ok a (st ++ [.lst ds]))) Q) : Q a (φ ++ [p]) (upd H p (.lst vs)) :=
  q _ _ (Ext.newObj s h) (s.newObj h ⟨vs, upd_same, r.ext (Ext.newObj s h)⟩)
theorem last_at {K : PySem.W.Frag} {H : Hp} {φ : List Addr} {st : Sto} {p : Addr} (s : RS K H φ st) : (φ ++ [p])[st.length]? = some p := by
  rw [List.getElem?_append_right (by rw [s.len]; exact Nat.le_refl _), s.len, Nat.sub_self]
  rfl
theorem op_bin (op : Operator) : OpR X (binaryOp op) (rD2 X.K (binE op)) := by
  intro pins s σ H x y v u Q I rx ry h
  obtain ⟨XX, φ, st, a, b, rs, ra, rb, p⟩ := h
  unfold binE at p
  split at p
  · cases ra; cases rb
    exact op_add pins s σ H _ _ v u Q I rx ry ⟨_, _, rfl, rfl, p.here rs _ (.int _)⟩
  · cases ra; cases rb
    exact op_sub pins s σ H _ _ v u Q I rx ry ⟨_, _, rfl, rfl, p.here rs _ (.int _)⟩
  · cases ra; cases rb
    split at p
    · rename_i hs
      refine op_mul pins s σ H _ _ v u Q I rx ry ⟨_, _, rfl, rfl, ?_, p.here rs _ (.int _)⟩
      rcases Bool.or_eq_true_iff.mp hs with z | z
      · exact .inl (of_decide_eq_true z)
      · exact .inr (of_decide_eq_true z)
    · exact p.elim
  · cases ra; cases rb
    split at p
    · rename_i hs
      exact op_fdivW pins s σ H _ _ v u Q I rx ry ⟨_, _, rfl, rfl, hs, p.here rs _ (.int _)⟩
    · exact p.elim
  · cases ra; cases rb
    split at p
    · rename_i hs
      exact op_mod pins s σ H _ _ v u Q I rx ry ⟨_, _, rfl, rfl, hs, p.here rs _ (.int _)⟩
    · exact p.elim
  · cases ra; cases rb
    split at p
    · rename_i hs
      exact op_pow pins s σ H _ _ v u Q I rx ry ⟨_, _, rfl, rfl, hs, p.here rs _ (.int _)⟩
    · exact p.elim
  · split at p
    · rename_i xs ys h1 h2
      split at p
      · rename_i hz
        obtain ⟨a1, vs, rfl, e1, hh1, r1⟩ := ra.lst rs h1
        obtain ⟨a2, ws, rfl, e2, hh2, r2⟩ := rb.lst rs h2
        exact op_cat pins s σ H _ _ v u Q I rx ry ⟨a1, a2, vs, ws, rfl, rfl, hh1, hh2, by rw [r1.length, r2.length, sizeLine_eq]; exact hz, fun q hq => p.hereLst rs hq (r1.append r2) _ (.obj (last_at rs))⟩
      · exact p.elim
    · exact p.elim
  · exact p.elim
theorem op_cmp (hu : X.A.units + 64 < cLine) (op : CmpOp) : OpR X (compareOp op) (rD2 X.K (cmpE op)) := by
  intro pins s σ H x y v u Q I rx ry h
  obtain ⟨XX, φ, st, a, b, rs, ra, rb, p⟩ := h
  unfold cmpE at p
  split at p
  · split at p
    · cases ra; cases rb
      exact op_lt pins s σ H _ _ v u Q I rx ry ⟨_, _, rfl, rfl, p.here rs _ (.bl _)⟩
    · exact p.elim
  · split at p
    · cases ra; cases rb
      exact op_le pins s σ H _ _ v u Q I rx ry ⟨_, _, rfl, rfl, p.here rs _ (.bl _)⟩
    · exact p.elim
  · split at p
    · cases ra; cases rb
      exact op_gt pins s σ H _ _ v u Q I rx ry ⟨_, _, rfl, rfl, p.here rs _ (.bl _)⟩
    · exact p.elim
  · split at p
    · cases ra; cases rb
      exact op_ge pins s σ H _ _ v u Q I rx ry ⟨_, _, rfl, rfl, p.here rs _ (.bl _)⟩
    · exact p.elim
  · split at p
    · cases ra; cases rb
      exact op_eq pins s σ H _ _ v u Q I rx ry ⟨rfl, by simpa using p.here rs _ (.bl _)⟩
    · split at p
      · rename_i e f h1 h2
        split at p
        · rename_i hz
          have hz' := Bool.and_eq_true_iff.mp hz
          exact op_eqD hu pins s σ H _ _ v u Q I rx ry ⟨e, f, dp_pyOf rs h1 ra, dp_pyOf rs h2 rb, hz'.1, hz'.2, p.here rs _ (.bl _)⟩
        · exact p.elim
      · exact p.elim
  · split at p
    · cases ra; cases rb
      exact op_ne pins s σ H _ _ v u Q I rx ry ⟨rfl, by simpa using p.here rs _ (.bl _)⟩
    · split at p
      · rename_i e f h1 h2
        split at p
        · rename_i hz
          have hz' := Bool.and_eq_true_iff.mp hz
          exact op_neD hu pins s σ H _ _ v u Q I rx ry ⟨e, f, dp_pyOf rs h1 ra, dp_pyOf rs h2 rb, hz'.1, hz'.2, p.here rs _ (.bl _)⟩
        · exact p.elim
      · exact p.elim
  · split at p
    · rename_i hb
      subst hb
      cases rb
      refine op_isN pins s σ H _ _ v u Q I rx ry ⟨rfl, ?_⟩
      have e : decide (x = V.non) = decide (a = D.non) := by cases ra <;> rfl
      rw [e]
      exact p.here rs _ (.bl _)
    · exact p.elim
  · split at p
    · rename_i hb
      subst hb
      cases rb
      refine op_notN pins s σ H _ _ v u Q I rx ry ⟨rfl, ?_⟩
      have e : decide (x = V.non) = decide (a = D.non) := by cases ra <;> rfl
      rw [e]
      exact p.here rs _ (.bl _)
    · exact p.elim
  · exact p.elim
theorem ix_any : IxR X (rD2 X.K idxE) := by
  intro ve se pins s σ H x y v u Q I rx ry h hpl
  obtain ⟨XX, φ, st, a, b, rs, ra, rb, p⟩ := h
  unfold idxE at p
  split at p
  · rename_i xs i
    cases e : atD xs i with
    | none => rw [e] at p; exact p.elim
    | some d =>
      rw [e] at p
      cases rb
      cases ra with
      | tup q r =>
        obtain ⟨w, hw, qw⟩ := r.atI e
        exact ix_tup ve se pins s σ H _ _ v u Q I rx ry ⟨_, _, _, w, rfl, rfl, q, hw, p.here rs _ qw⟩ hpl
  · rename_i xs i
    cases e : atD xs i with
    | none => rw [e] at p; exact p.elim
    | some d =>
      rw [e] at p
      cases rb
      cases ra with
      | frz q r =>
        obtain ⟨w, hw, qw⟩ := r.atI e
        exact ix_list ve se pins s σ H _ _ v u Q I rx ry ⟨_, _, _, w, rfl, rfl, q.sq, hw, p.here rs _ qw⟩ hpl
  · rename_i n i
    cases e0 : lstAt st n with
    | none => rw [e0] at p; exact p.elim
    | some xs =>
      rw [e0] at p
      dsimp only [Option.bind] at p
      cases e : atD xs i with
      | none => rw [e] at p; exact p.elim
      | some d =>
        rw [e] at p
        cases rb
        obtain ⟨a1, vs, rfl, e1, hh1, r1⟩ := ra.lst rs e0
        obtain ⟨w, hw, qw⟩ := r1.atI e
        exact ix_list ve se pins s σ H _ _ v u Q I rx ry ⟨_, _, _, w, rfl, rfl, .inl (.inl hh1), hw, p.here rs _ qw⟩ hpl
  · exact p.elim
/-- o[i] = v -/
theorem set_any : PSet X (fun o i v H Q => ∃ XX φ st a b c, RS X.K H φ st ∧ RV X.K H φ o a ∧ RV X.K H φ i b ∧ RV X.K H φ v c ∧ Post X.K XX H φ (setE a b c st) fun _ _ H' => Q H') := by
  intro pins s σ H o i v ov iv u Q I ro ri rv h
  obtain ⟨XX, φ, st, a, b, c, rs, ra, rb, rc, p⟩ := h
  unfold setE at p
  split at p
  · rename_i n k
    cases e0 : lstAt st n with
    | none => rw [e0] at p; exact p.elim
    | some xs =>
      rw [e0] at p
      dsimp only [Option.bind] at p
      cases e : ixN xs.length k with
      | none => rw [e] at p; exact p.elim
      | some j =>
        rw [e] at p
        cases rb
        obtain ⟨a1, vs, rfl, e1, hh1, r1⟩ := ra.lst rs e0
        refine set_list pins s σ H _ _ v ov iv u Q I ro ri rv ⟨a1, vs, k, j, rfl, rfl, hh1, by rw [r1.length]; exact e, ?_⟩
        have x := Ext.write (o := .lst (vs.set j v)) rs e1
        exact p _ _ x (rs.write e1 ⟨_, upd_same, (r1.set rc j).ext x⟩)
  · exact p.elim
/-! ### built-ins -/
theorem RVs.one {K : PySem.W.Frag} {H : Hp} {φ : List Addr} {vs : List V} {d : D} (r : RVs K H φ vs [d]) : ∃ v, vs = [v] ∧ RV K H φ v d := by
  cases r with
  | cons r t => cases t; exact ⟨_, rfl, r⟩
theorem RVs.two {K : PySem.W.Frag} {H : Hp} {φ : List Addr} {vs : List V} {d e : D} (r : RVs K H φ vs [d, e]) : ∃ v w, vs = [v, w] ∧ RV K H φ v d ∧ RV K H φ w e := by
  cases r with
  | cons r t =>
    cases t with
    | cons r2 t2 => cases t2; exact ⟨_, _, rfl, r, r2⟩
/-- repr of data -/
theorem repr_data (hg : X.A.guards = some []) (hu : X.A.units + 100 < cLine) {pins : List (Addr × Obj)} {σ : L2.St} {H : Hp} {s : Shared} {x : V} {u : Value} {p : PyData} {Q : VK} (I : Inv X pins σ H s) (rx : RelV x u) (d : Dp X.K H x p)
    (hs : p.showable = true) (hd : p.hasDict = false) (hdep : p.depth ≤ 60) (hsz : p.shown.length ≤ sizeLine) (q : Q (.str p.shown) H) : wpAny (model X.prog X.w) X.A (PySem.call (.builtin "repr") [u]) (EP X pins σ Q) X.xe s := by
  have scalar : ∀ (t : Tok), EP X pins σ Q (.str p.shown t) { s with toks := s.toks + 1 } := fun t => ⟨.str p.shown, H, I.tok _, ⟨t, rfl⟩, q⟩
  have disp : ∀ a : Addr, u = .ref a → wpAny (model X.prog X.w) X.A (PySem.call (.builtin "repr") [u]) (EP X pins σ Q) X.xe s := fun a e => by
    subst e
    obtain ⟨as, r⟩ := Dp.reads I p x (.ref a) d rx
    exact repr_of_reads' r hs (PyData.noDict_hsm hd) hg (by omega) (fun _ _ e => e) (fun h' t tk hk => ⟨.str p.shown, H, I.kept hk, ⟨t, rfl⟩, q⟩) hsz
  cases d with
  | non =>
    cases rx
    exact PySem.P.repr_of_none (scalar _)
  | bl b =>
    cases rx
    exact PySem.P.repr_of_bool (scalar _)
  | int i =>
    obtain ⟨t, rfl⟩ := rx
    exact PySem.P.repr_of_int (of_decide_eq_true hs) (scalar _)
  | str z =>
    obtain ⟨t, rfl⟩ := rx
    exact PySem.P.repr_of_str (scalar _) hsz
  | lst q1 q2 => cases rx; exact disp _ rfl
  | tup q1 q2 => cases rx; exact disp _ rfl
end
section
variable {X : Cx}
theorem bi_int : CallR X (.type "int") (rDs X.K biInt) := by
  intro pins s σ H xs us Q I r h
  obtain ⟨XX, φ, st, ds, rs, rd, p⟩ := h
  unfold biInt at p
  split at p
  · obtain ⟨v, rfl, rv⟩ := rd.one
    cases rv
    exact call_int1 pins s σ H _ us Q I r (.inl ⟨_, rfl, p φ H (Ext.refl H φ) rs _ (.int _)⟩)
  · obtain ⟨v, rfl, rv⟩ := rd.one
    cases rv
    exact call_int1 pins s σ H _ us Q I r (.inr ⟨_, rfl, p φ H (Ext.refl H φ) rs _ (.int _)⟩)
  · exact p.elim
theorem bi_len : CallR X (.builtin "len") (rDs X.K biLen) := by
  intro pins s σ H xs us Q I r h
  obtain ⟨XX, φ, st, ds, rs, rd, p⟩ := h
  unfold biLen at p
  split at p
  · rename_i d
    obtain ⟨v, rfl, rv⟩ := rd.one
    cases e : seqOf d st with
    | none => rw [e] at p; exact p.elim
    | some ys =>
      rw [e] at p
      obtain ⟨a, vs, rfl, q, rq⟩ := seq_read rs e rv
      refine call_len pins s σ H _ us Q I r ⟨_, ys.length, rfl, ?_, p.here rs _ (.int _)⟩
      rcases q with q | q
      · exact .inl ⟨vs, q, rq.length.symm⟩
      · exact .inr ⟨vs, q, rq.length.symm⟩
  · exact p.elim
theorem bi_max (hc : X.calm = true) : CallR X (.builtin "max") (rDs X.K biMax) := by
  intro pins s σ H xs us Q I r h
  obtain ⟨XX, φ, st, ds, rs, rd, p⟩ := h
  unfold biMax at p
  split at p
  · obtain ⟨v, w, rfl, rv, rw'⟩ := rd.two
    cases rv; cases rw'
    exact call_max2 hc pins s σ H _ us Q I r ⟨_, _, rfl, p φ H (Ext.refl H φ) rs _ (.int _)⟩
  · exact p.elim
theorem bi_min (hc : X.calm = true) : CallR X (.builtin "min") (rDs X.K biMin) := by
  intro pins s σ H xs us Q I r h
  obtain ⟨XX, φ, st, ds, rs, rd, p⟩ := h
  unfold biMin at p
  split at p
  · obtain ⟨v, w, rfl, rv, rw'⟩ := rd.two
    cases rv; cases rw'
    exact call_min2 hc pins s σ H _ us Q I r ⟨_, _, rfl, p φ H (Ext.refl H φ) rs _ (.int _)⟩
  · exact p.elim
theorem bi_tuple : CallR X (.type "tuple") (rDs X.K biTuple) := by
  intro pins s σ H xs us Q I r h
  obtain ⟨XX, φ, st, ds, rs, rd, p⟩ := h
  unfold biTuple at p
  split at p
  · rename_i d
    obtain ⟨v, rfl, rv⟩ := rd.one
    cases e : seqOf d st with
    | none => rw [e] at p; exact p.elim
    | some ys =>
      rw [e] at p
      obtain ⟨a, vs, rfl, q, rq⟩ := seq_read rs e rv
      refine call_tuple_of pins s σ H _ us Q I r ⟨a, vs, rfl, ?_⟩
      rcases q with q | q
      · exact .inl ⟨q, fun l hl => p.hereNew rs hl _ (.tup (.of upd_same) (rq.ext (Ext.new rs hl)))⟩
      · exact .inr ⟨q, p.here rs _ (.tup q rq)⟩
  · exact p.elim
theorem bi_list : CallR X (.type "list") (rDs X.K biList) := by
  intro pins s σ H xs us Q I r h
  obtain ⟨XX, φ, st, ds, rs, rd, p⟩ := h
  unfold biList at p
  split at p
  · rename_i d
    obtain ⟨v, rfl, rv⟩ := rd.one
    cases e : seqOf d st with
    | none => rw [e] at p; exact p.elim
    | some ys =>
      rw [e] at p
      obtain ⟨a, vs, rfl, q, rq⟩ := seq_read rs e rv
      exact call_list_of pins s σ H _ us Q I r ⟨a, vs, rfl, q, fun l hl => p.hereLst rs hl rq _ (.obj (last_at rs))⟩
  · exact p.elim
theorem bi_repr (hg : X.A.guards = some []) (hu : X.A.units + 100 < cLine) : CallR X (.builtin "repr") (rDs X.K biRepr) := by
  intro pins s σ H xs us Q I r h
  obtain ⟨XX, φ, st, ds, rs, rd, p⟩ := h
  unfold biRepr at p
  split at p
  · rename_i d
    obtain ⟨v, rfl, rv⟩ := rd.one
    obtain ⟨u, rfl, ru⟩ := vals1 r
    cases e : reprE d st with
    | none => rw [e] at p; exact p.elim
    | some z =>
      rw [e] at p
      unfold reprE at e
      split at e
      · rename_i y hy
        split at e
        · rename_i hz
          cases e
          simp only [Bool.and_eq_true, decide_eq_true_eq, Bool.not_eq_true'] at hz
          obtain ⟨⟨⟨z1, z2⟩, z3⟩, z4⟩ := hz
          exact repr_data hg hu I ru (dp_pyOf rs hy rv) z1 z2 z3 (by rw [sizeLine_eq]; exact z4) (p.here rs _ (.str _))
        · cases e
      · cases e
  · exact p.elim
end
/-- a built-in function or type, called with values, by the interpreter -/
def BiOk (X : Cx) (f : String) : Prop :=
  ∃ g, bootBuiltins (Str.ofString f) = some g ∧ ((∃ id, g = .builtin id) ∨ ∃ T, g = .type T) ∧ CallR X g (rDs X.K (biE f))
def biNames : List String := ["int", "len", "max", "min", "tuple", "list", "repr"]
theorem bi_ok {X : Cx} (hc : X.calm = true) (hg : X.A.guards = some []) (hu : X.A.units + 100 < cLine) : ∀ f ∈ biNames, BiOk X f := by
  intro f hf
  simp only [biNames, List.mem_cons, List.mem_singleton, List.not_mem_nil, or_false] at hf
  rcases hf with rfl | rfl | rfl | rfl | rfl | rfl | rfl
  · exact ⟨_, by decide +kernel, .inr ⟨_, rfl⟩, bi_int⟩
  · exact ⟨_, by decide +kernel, .inl ⟨_, rfl⟩, bi_len⟩
  · exact ⟨_, by decide +kernel, .inl ⟨_, rfl⟩, bi_max hc⟩
  · exact ⟨_, by decide +kernel, .inl ⟨_, rfl⟩, bi_min hc⟩
  · exact ⟨_, by decide +kernel, .inr ⟨_, rfl⟩, bi_tuple⟩
  · exact ⟨_, by decide +kernel, .inr ⟨_, rfl⟩, bi_list⟩
  · exact ⟨_, by decide +kernel, .inl ⟨_, rfl⟩, bi_repr hg hu⟩

/-! ### methods of built-in types -/
def rDm (K : PySem.W.Frag) (f : D → List D → M D) : V → List V → Hp → VK → Prop := fun x xs H Q => ∃ XX φ st a ds, RS K H φ st ∧ RV K H φ x a ∧ RVs K H φ xs ds ∧ Post K XX H φ (f a ds st) fun d φ' H' => ∀ v, RV K H' φ' v d → Q v H'
section
variable {X : Cx}
theorem me_append : MtR X "list.append" (rDm X.K meAppend) := by
  intro pins s σ H x xs v us Q I rx r h
  obtain ⟨XX, φ, st, a, ds, rs, ra, rd, p⟩ := h
  unfold meAppend at p
  split at p
  · rename_i n d
    obtain ⟨w, rfl, rv⟩ := rd.one
    cases e : lstAt st n with
    | none => rw [e] at p; exact p.elim
    | some ys =>
      rw [e] at p
      dsimp only [Option.bind] at p
      split at p
      · rename_i hz
        obtain ⟨l, vs, rfl, hl, hh, rq⟩ := ra.lst rs e
        refine mt_append pins s σ H _ _ v us Q I rx r ⟨l, vs, w, rfl, rfl, hh, by rw [rq.length, sizeLine_eq]; exact hz, ?_⟩
        have x := Ext.write (o := .lst (vs ++ [w])) rs hl
        exact p _ _ x (rs.write hl ⟨_, upd_same, (rq.append (.cons rv .nil)).ext x⟩) _ .non
      · exact p.elim
  · exact p.elim
end
end Mi

set_option maxRecDepth 100000
/-! Mini: what a for and a comprehension walk. -/
namespace Mi
open PySem PySem.Spec PyProof.Rows L2

/-! ### enumerate(v) where iter(v) is one new object -/
set_option maxHeartbeats 1000000 in
theorem meets_enum1 {v : Value} {o : Obj} {Hh : Heap → Prop} (B : Begins v o Hh) :
    Meets (Builtin.«enumerate.__new__» ⟨[.type "enumerate", v], []⟩) (fun _ R s => Hh s.heap ∧
      R (.ok (.ret (.ref (s.heap.push o).objs.size))) { s with heap := (s.heap.push o).push { cls := .type "enumerate", data := .fields #[.none, .bool false, .ref s.heap.objs.size, rawInt 0, .none, .none] } }) :=
  .of_wp fun prog w A R s h => by
    obtain ⟨hp, g, d, tk, os⟩ := s
    obtain ⟨h1, h⟩ := h
    have hsub := sub_enumerate
    have q1 : ∀ {A' : Around} {E Q : Value → Shared → Prop}, Q (.ref hp.objs.size) ⟨hp.push o, g, d, tk, os⟩ → wpAny (model prog w) A' (pyIter v) Q E ⟨hp, g, d, tk, os⟩ :=
      fun q => B.iter prog w _ _ ⟨hp, g, d, tk, os⟩ _ h1 q
    wp_walk using q1
    refine wpAny_stack_any fun st => wpAny_pure ?_
    split
    · rename_i c _ _ _ _ _
      cases (c == Value.type "enumerate") <;> (wp_walk using q1; exact ⟨_, rfl, h⟩)
    · wp_walk using q1
      exact ⟨_, rfl, h⟩
theorem call_enum1 {prog : Program} {w : World} {A : Around} {E Q : Value → Shared → Prop} {s : Shared} {v : Value} {o : Obj} {Hh : Heap → Prop} (B : Begins v o Hh) (h1 : Hh s.heap)
    (h : ∀ h', IsEnum h' (s.heap.objs.size + 1) s.heap.objs.size 0 .none → h'.get? s.heap.objs.size = some o → (∀ b u, s.heap.get? b = some u → h'.get? b = some u) → Q (.ref (s.heap.objs.size + 1)) { s with heap := h' }) :
    wpAny (model prog w) A (PySem.call (.type "enumerate") [v]) Q E s := by
  refine callType_new F.called_enumerate (by decide) (F.typeCall_enumerate_1 _) (F.newCall_enumerate_1 _) (fun obj => F.args_object_init_2 obj _) F.entry_enumerate_new (meets_enum1 B) ⟨h1, ?_⟩
  have hz : (s.heap.push o).objs.size = s.heap.objs.size + 1 := Heap.size_push ..
  show _ ∧ _
  rw [hz]
  have he : IsEnum ((s.heap.push o).push { cls := .type "enumerate", data := .fields #[.none, .bool false, .ref s.heap.objs.size, rawInt 0, .none, .none] }) (s.heap.objs.size + 1) s.heap.objs.size 0 .none := by
    have q := Heap.get?_push_size (s.heap.push o) (o := { cls := .type "enumerate", data := .fields #[.none, .bool false, .ref s.heap.objs.size, rawInt 0, .none, .none] }) rfl
    rwa [hz] at q
  exact ⟨⟨_, he, rfl⟩, h _ he (Heap.get?_push_of_some _ (Heap.get?_push_size _ B.free)) fun b u x => Heap.get?_push_of_some _ (Heap.get?_push_of_some _ x)⟩

/-- the tuple at a, its items in new pairs behind their places -/
def IteT (K : PySem.W.Frag) (a : Addr) : It :=
  ⟨fun i H => ∃ (xs : List V) (x : V), SqT K H a xs ∧ xs[i]? = some x,
    fun i H v H' => ∃ T x, v = .ref T ∧ H T = none ∧ H' = upd H T (.tup [.int (i : Nat), x]) ∧ ∀ xs, SqT K H a xs → xs[i]? = some x,
    fun i H => ∃ xs : List V, SqT K H a xs ∧ xs.length ≤ i⟩
theorem enum_endT {prog : Program} {w : World} {A : Around} {E : Value → Shared → Prop} {s : Shared} {e it l : Addr} {i : Int} {j : Nat} {items : Array Value} {old : Value} {Q : Option Value → Shared → Prop} (hh : A.handled = none)
    (he : IsEnum s.heap e it i old) (hit : s.heap.IsTupleIter it l j) (hl : s.heap.IsTuple l items) (hx : items[j]? = none)
    (hQ : ∀ h', Heap.ExtBut it s.heap h' → Q none { s with heap := h' }) : wpAny (model prog w) A (pyNext (.ref e)) Q E s := by
  have hT : s.TypeIs (.ref e) "enumerate" := ⟨_, he, rfl⟩
  unfold pyNext
  refine wpAny_bind (wpAny_attempt (wpAny_callSpecial?_slot (name := Str.ofString "__next__") hT F.slot_enumerate_next (wpAny_call_entry F.slot_enumerate_next hT F.entry_enumerate_next ?_ (F.args_enumerate_next_1 _))))
  change wpAny _ _ (field (.ref e) 2 >>= fun z => _) _ _ s
  refine wpAny_bind (wpAny_field he rfl (x := .ref it) rfl (wpAny_bind (wpAny_nextOf_tuple_end hh hit hl hx fun h' x k hx' => ?_)))
  obtain ⟨o, ho, hc⟩ := hx'
  exact wpAny_bind (wpAny_isInstance (T := "StopIteration") (b := true) ⟨o, ho, hc⟩ isSubtype_stop (wpAny_pure (hQ _ k)))
theorem turn_enumT {P : Program} {w : World} {K : PySem.W.Frag} {elts : List Expr} {kk : Nat} {tpos : Pos} (a e it : Addr) (ha : a ≠ it) (hea : e ≠ a) (its : Array Value) :
    Turn P w K (.Tuple elts kk tpos) (IteT K a) [e, it] e (fun i h => (∃ old, IsEnum h e it ((i : Nat) : Int) old) ∧ h.IsTupleIter it a i ∧ e ≠ it) where
  mem := by simp
  obj := fun i h st b hb => by
    obtain ⟨⟨old, he⟩, ⟨o, ho, hc, hd⟩, _⟩ := st
    have e' : b = e ∨ b = it := by simpa using hb
    rcases e' with z | z
    · subst z
      exact ⟨_, he, fun v q => nomatch q⟩
    · subst z
      exact ⟨o, ho, fun v q => by rw [hd] at q; cases q⟩
  keep := fun i h h' st k => by
    obtain ⟨⟨old, he⟩, hi, hne⟩ := st
    exact ⟨⟨old, k e (by simp) _ he⟩, hi.at fun o q => k it (by simp) o q, hne⟩
  item := by
    intro X hP hw hK hc i pins s σ H E I hf st hg
    subst hP hw hK
    obtain ⟨⟨old, he⟩, hit, hne⟩ := st
    obtain ⟨xs, x, hq, hx⟩ := hg
    obtain ⟨us, rv, p, hz⟩ := I.tuple hq
    obtain ⟨u, hu, ru⟩ := rv.get hx
    have hel : e < s.heap.objs.size := Heap.lt_size he
    have hil : it < s.heap.objs.size := by
      obtain ⟨_, q, _⟩ := hit
      exact Heap.lt_size q
    have hlt : i < us.toArray.size := by
      have := (List.getElem?_eq_some_iff.mp hu).1
      simpa using this
    have Dd := Draws.tuple (prog := X.prog) (w := X.w) (A := X.A.in1) (I.ok.hd hc) it a ha us.toArray
    refine wpAny_pyNext_enum_itemC Dd he ⟨hit, p⟩ hlt hne (by simp [hne, hea]) fun y h' tk hy ho hst hT hsz hk => ?_
    have ey : y = u := by
      have h1 : us.toArray[i]? = some y := hy
      have h2 : us.toArray[i]? = some u := by simpa using hu
      rw [h2] at h1
      exact (Option.some.inj h1).symm
    subst ey
    refine ⟨_, rfl, wpAny_letOwnedTupleGo_enum (s := { s with heap := h', toks := tk + 1 }) ho fun h'' he' sb => ?_⟩
    have hT2 : h''.get? s.heap.objs.size = some { cls := .type "tuple", data := .seq #[.int i tk, y] } := (sb.2 _ (Nat.ne_of_gt hel)).trans hT
    have new : ObjOk X.prog X.w (upd H s.heap.objs.size (.tup [.int (i : Nat), x])) h'' s.heap.objs.size (.tup [.int (i : Nat), x]) :=
      ⟨by show 2 ≤ sizeLine; decide, [.int i tk, y], .cons ⟨_, rfl⟩ (.cons ru .nil), ⟨_, hT2, rfl, _, rfl⟩⟩
    have I1 : Inv X pins σ (upd H s.heap.objs.size (.tup [.int (i : Nat), x])) { s with heap := h'', toks := tk + 1 } :=
      I.turnedNew (ch := [e, it]) (fun b ob hb q => (sb.2 b (fun z => hb (by simp [z]))).trans (hk b ob (fun z => hb (by simp [z])) (fun z => hb (by simp [z])) q)) hf (Nat.le_refl _) new
    refine ⟨.ref s.heap.objs.size, _, I1, rfl, ⟨_, x, rfl, I.hok.fresh (Nat.le_refl _), rfl, fun ys hy' => by rw [I.tuple_inj hy' hq]; exact hx⟩, ⟨⟨y, ?_⟩, hst.1.at fun o q => (sb.2 it (Ne.symm hne)).trans q, hne⟩, fun b hb => ?_⟩
    · have e1 : ((i + 1 : Nat) : Int) = (i : Int) + 1 := by omega
      rw [e1]
      exact he'
    · have e' : b = e ∨ b = it := by simpa using hb
      have hb' : b < s.heap.objs.size := by
        rcases e' with z | z
        · rw [z]; exact hel
        · rw [z]; exact hil
      rw [upd_ne (Nat.ne_of_lt hb')]
      exact (hf b hb).1
  done := by
    intro X hP hw hK hc i pins s σ H E I hf st hg
    subst hP hw hK
    obtain ⟨⟨old, he⟩, hit, hne⟩ := st
    obtain ⟨xs, hq, hx⟩ := hg
    obtain ⟨us, rv, p, hz⟩ := I.tuple hq
    obtain ⟨f0, f1, f2, f3, f4, f5⟩ := hf it (by simp)
    have hl := rv.length
    exact enum_endT (I.ok.hd hc) he hit p (by simp; omega) fun h' eb => ⟨rfl, I.turned (t' := s.toks) (fun b o hb q => eb b o hb q) f0 f1 f3 f4 f5⟩
  self := fun A i s Q E st h => by
    obtain ⟨⟨_, he⟩, _⟩ := st
    exact wpAny_pyIter_enum he h
section
variable {X : Cx} {tg : Expr}
/-- a list or a tuple, walked -/
def iSeq (K : PySem.W.Frag) (tl : TE) : TI := fun σ H R => tl σ H fun x H1 => ∃ a, x = .ref a ∧ (((∃ xs, SqL K H1 a xs) ∧ R (Itl K a) H1) ∨ ((∃ xs, SqT K H1 a xs) ∧ R (Itt K a) H1))
theorem pi_seq {l : Expr} {tl : TE} (hl : PE X l tl) : PI X tg l (iSeq X.K tl) := by
  refine ⟨fun pins s σ H R I h => thn (hl.run pins s σ H _ I h) fun v s1 q1 => ?_⟩
  obtain ⟨x, H1, I1, r1, a, rfl, q⟩ := q1
  cases r1
  have fp : ∀ b ∈ [s1.heap.objs.size], FpOk X pins H1 b := fun b hb => by
    have e : b = s1.heap.objs.size := by simpa using hb
    subst e
    exact I1.fpOk (Nat.le_refl _) (I1.hok.fresh (Nat.le_refl _))
  have kp : ∀ o : Obj, Inv X pins σ H1 { s1 with heap := s1.heap.push o, toks := s1.toks } := fun o => I1.kept (t' := s1.toks) fun b u e => Heap.get?_push_of_some _ e
  rcases q with ⟨⟨xs, hq⟩, q⟩ | ⟨⟨xs, hq⟩, q⟩
  · obtain ⟨its, rv, p, hz⟩ := I1.list hq
    exact wpAny_pyIter_list p.isList ⟨_, [s1.heap.objs.size], _, _, H1, rfl, kp _, turn_list a _, ⟨_, Heap.get?_push_size _ rfl, rfl, rfl⟩, fp, q⟩
  · obtain ⟨its, rv, p, hz⟩ := I1.tuple hq
    exact wpAny_pyIter_tuple (show s1.heap.IsTuple a its.toArray from p) ⟨_, [s1.heap.objs.size], _, _, H1, rfl, kp _, turn_tuple a _, ⟨_, Heap.get?_push_size _ rfl, rfl, rfl⟩, fp, q⟩
def enumQ (K : PySem.W.Frag) (R : It → Hp → Prop) (vs : List V) (H1 : Hp) : Prop := match vs with
  | [x] => ∃ a, x = .ref a ∧ (((∃ xs, SqL K H1 a xs) ∧ R (Ite K a) H1) ∨ ((∃ xs, SqT K H1 a xs) ∧ R (IteT K a) H1))
  | _ => False
/-- enumerate(v) of a list or a tuple -/
def iEnumA (K : PySem.W.Frag) (te : TE) : TI := fun σ H R => te σ H fun x H1 => ∃ a, x = .ref a ∧ (((∃ xs, SqL K H1 a xs) ∧ R (Ite K a) H1) ∨ ((∃ xs, SqT K H1 a xs) ∧ R (IteT K a) H1))
theorem pi_enumA {e : Expr} {te : TE} {p pos tpos : Pos} {elts : List Expr} {kk : Nat} (hg : Gl X "enumerate") (hm : X.mg "enumerate" = none) (he : PE X e te) (hs : starEach [e] X.env = [(false, eval e X.env)]) :
    PI X (.Tuple elts kk tpos) (.Call (.Name "enumerate" p) [e] [] pos) (iEnumA X.K te) := by
  refine ⟨fun pins s σ H R I h => ?_⟩
  have ha : PA X [e] (tCons te tNil) := pa_cons he pa_nil (by rw [hs]; rfl)
  refine Call_ (ld_blt I hg hm boot_enumerate (PyProof.Rows.callWith_type1 (thn (ha.run pos pins s σ H (enumQ X.K R) I h) fun us s1 q1 => ?_) hs rfl))
  obtain ⟨vs, H1, I1, r1, q1⟩ := q1
  unfold enumQ at q1
  split at q1
  · obtain ⟨a, rfl, q⟩ := q1
    obtain ⟨u, rfl, r⟩ := vals1 r1
    cases r
    have fp : ∀ b ∈ [s1.heap.objs.size + 1, s1.heap.objs.size], FpOk X pins H1 b := fun b hb => by
      have e' : b = s1.heap.objs.size + 1 ∨ b = s1.heap.objs.size := by simpa using hb
      have hle : s1.heap.objs.size ≤ b := by
        rcases e' with z | z
        · rw [z]; exact Nat.le_add_right _ _
        · rw [z]; exact Nat.le_refl _
      exact I1.fpOk hle (I1.hok.fresh hle)
    rcases q with ⟨⟨xs, hq⟩, q⟩ | ⟨⟨xs, hq⟩, q⟩
    · obtain ⟨its, rv, p', hz⟩ := I1.list hq
      exact call_enumerate_list p'.isList fun h' he hit hsz hk => wpAny_pyIter_enum he ⟨_, [s1.heap.objs.size + 1, s1.heap.objs.size], _, _, H1, rfl, I1.kept (t' := s1.toks) hk, turn_enum a _ _, ⟨⟨.none, he⟩, hit, Nat.succ_ne_self _⟩, fp, q⟩
    · obtain ⟨its, rv, p', hz⟩ := I1.tuple hq
      have hlt : a < s1.heap.objs.size := by
        obtain ⟨o, e, _⟩ := id p'
        exact Heap.lt_size e
      refine call_enum1 (begins_tuple a its.toArray) p' fun h' he hit hk => wpAny_pyIter_enum he ⟨_, [s1.heap.objs.size + 1, s1.heap.objs.size], _, _, H1, rfl, I1.kept (t' := s1.toks) hk,
        turn_enumT a _ _ (Nat.ne_of_lt hlt) (Ne.symm (Nat.ne_of_lt (Nat.lt_succ_of_lt hlt))) its.toArray, ⟨⟨.none, he⟩, ⟨_, hit, rfl, rfl⟩, Nat.succ_ne_self _⟩, fp, q⟩
  · exact q1.elim
end

/-! ### walks and their items -/
/-- J walks the items of w from H0, φ0 on -/
structure WkJ (K : PySem.W.Frag) (w : Wk) (H0 : Hp) (φ0 : List Addr) (J : It) : Prop where
  go : ∀ (φ1 : List Addr) (H1 : Hp) (st1 : Sto) (i : Nat) (d : D), Ext H0 φ0 H1 φ1 → RS K H1 φ1 st1 → w.ok st1 = true → w.items[i]? = some d →
    J.go i H1 ∧ ∀ x H2, J.yld i H1 x H2 → Ext H1 φ1 H2 φ1 ∧ RS K H2 φ1 st1 ∧ RV K H2 φ1 x d
  stop : ∀ (φ1 : List Addr) (H1 : Hp) (st1 : Sto), Ext H0 φ0 H1 φ1 → RS K H1 φ1 st1 → w.ok st1 = true → J.stop w.items.length H1
section
variable {K : PySem.W.Frag} {H0 : Hp} {φ0 : List Addr}
theorem wk_tup {a : Addr} {vs : List V} {ds : List D} (q : SqT K H0 a vs) (r : RVs K H0 φ0 vs ds) : WkJ K ⟨ds, none⟩ H0 φ0 (Itt K a) := by
  refine ⟨fun φ1 H1 st1 i d x s _ e => ?_, fun φ1 H1 st1 x s _ => ⟨vs, x.tup q, by rw [r.length]; exact Nat.le_refl _⟩⟩
  obtain ⟨v, hv, rv⟩ := r.get e
  refine ⟨⟨vs, v, x.tup q, hv⟩, fun y H2 hy => ?_⟩
  obtain ⟨rfl, hy⟩ := hy
  have e2 := hy vs (x.tup q)
  rw [hv] at e2
  cases e2
  exact ⟨Ext.refl _ _, s, rv.ext x⟩
theorem wk_frz {a : Addr} {vs : List V} {ds : List D} (q : FzL K H0 a vs) (r : RVs K H0 φ0 vs ds) : WkJ K ⟨ds, none⟩ H0 φ0 (Itl K a) := by
  refine ⟨fun φ1 H1 st1 i d x s _ e => ?_, fun φ1 H1 st1 x s _ => ⟨vs, (x.fz q).sq, by rw [r.length]; exact Nat.le_refl _⟩⟩
  obtain ⟨v, hv, rv⟩ := r.get e
  refine ⟨⟨vs, v, (x.fz q).sq, hv⟩, fun y H2 hy => ?_⟩
  obtain ⟨rfl, hy⟩ := hy
  have e2 := hy vs (x.fz q).sq
  rw [hv] at e2
  cases e2
  exact ⟨Ext.refl _ _, s, rv.ext x⟩
/-- the list stands as it stood -/
theorem stands {a : Addr} {n : Nat} {ds : List D} {φ1 : List Addr} {H1 : Hp} {st1 : Sto} (ha : φ0[n]? = some a) (x : Ext H0 φ0 H1 φ1) (s : RS K H1 φ1 st1) {w : Wk} (hw : w.src = some (n, ds)) (ok : w.ok st1 = true) :
    ∃ vs, H1 a = some (.lst vs) ∧ RVs K H1 φ1 vs ds := by
  unfold Wk.ok at ok
  rw [hw] at ok
  obtain ⟨b, vs, hb, h, r⟩ := s.lst (eq_of_beq ok)
  rw [x.at ha] at hb
  cases hb
  exact ⟨vs, h, r⟩
theorem wk_obj {a : Addr} {n : Nat} {ds : List D} (ha : φ0[n]? = some a) : WkJ K ⟨ds, some (n, ds)⟩ H0 φ0 (Itl K a) := by
  refine ⟨fun φ1 H1 st1 i d x s ok e => ?_, fun φ1 H1 st1 x s ok => ?_⟩
  · obtain ⟨vs, h, r⟩ := stands ha x s rfl ok
    obtain ⟨v, hv, rv⟩ := r.get e
    refine ⟨⟨vs, v, .inl (.inl h), hv⟩, fun y H2 hy => ?_⟩
    obtain ⟨rfl, hy⟩ := hy
    have e2 := hy vs (.inl (.inl h))
    rw [hv] at e2
    cases e2
    exact ⟨Ext.refl _ _, s, rv⟩
  · obtain ⟨vs, h, r⟩ := stands ha x s rfl ok
    exact ⟨vs, .inl (.inl h), by rw [r.length]; exact Nat.le_refl _⟩
theorem rangeD_length (lo : Int) : ∀ n, (rangeD lo n).length = n
  | 0 => rfl
  | n + 1 => by
    show (rangeD (lo + 1) n).length + 1 = n + 1
    rw [rangeD_length]
theorem rangeD_get : ∀ (n : Nat) (lo : Int) (i : Nat) (d : D), (rangeD lo n)[i]? = some d → i < n ∧ d = .int (lo + i)
  | 0, _, _, _, h => by simp [rangeD] at h
  | n + 1, lo, 0, d, h => by
    simp [rangeD] at h
    exact ⟨Nat.zero_lt_succ _, by rw [← h]; simp⟩
  | n + 1, lo, i + 1, d, h => by
    have h' : (rangeD (lo + 1) n)[i]? = some d := by simpa [rangeD] using h
    obtain ⟨h1, h2⟩ := rangeD_get n (lo + 1) i d h'
    refine ⟨Nat.succ_lt_succ h1, ?_⟩
    rw [h2]
    congr 1
    push_cast
    omega
theorem wk_range (lo : Int) (n : Nat) : WkJ K ⟨rangeD lo n, none⟩ H0 φ0 (Itr lo n) := by
  refine ⟨fun φ1 H1 st1 i d x s _ e => ?_, fun φ1 H1 st1 x s _ => ?_⟩
  · obtain ⟨h1, h2⟩ := rangeD_get n lo i d e
    refine ⟨h1, fun y H2 hy => ?_⟩
    obtain ⟨rfl, rfl⟩ := hy
    rw [h2]
    exact ⟨Ext.refl _ _, s, .int _⟩
  · show n ≤ (rangeD lo n).length
    rw [rangeD_length]
    exact Nat.le_refl _
theorem enumD_length : ∀ (ds : List D) (k : Nat), (enumD k ds).length = ds.length
  | [], _ => rfl
  | d :: ds, k => by
    show (enumD (k + 1) ds).length + 1 = ds.length + 1
    rw [enumD_length]
theorem enumD_get : ∀ (ds : List D) (k i : Nat) (d : D), (enumD k ds)[i]? = some d → ∃ e, ds[i]? = some e ∧ d = .tup [.int ((k + i : Nat) : Int), e]
  | [], _, _, _, h => by simp [enumD] at h
  | x :: ds, k, 0, d, h => by
    simp [enumD] at h
    exact ⟨x, by simp, h.symm⟩
  | x :: ds, k, i + 1, d, h => by
    have h' : (enumD (k + 1) ds)[i]? = some d := by simpa [enumD] using h
    obtain ⟨e, h1, h2⟩ := enumD_get ds (k + 1) i d h'
    refine ⟨e, by simpa using h1, ?_⟩
    rw [h2]
    have : ((k + 1 + i : Nat) : Int) = ((k + (i + 1) : Nat) : Int) := by omega
    rw [this]
/-- the pair that enumerate hands out -/
theorem enum_pair {φ1 : List Addr} {H1 H2 : Hp} {st1 : Sto} {T : Addr} {v : V} {d : D} {i : Nat} (s : RS K H1 φ1 st1) (nT : H1 T = none) (e : H2 = upd H1 T (.tup [.int (i : Nat), v])) (r : RV K H1 φ1 v d) :
    Ext H1 φ1 H2 φ1 ∧ RS K H2 φ1 st1 ∧ RV K H2 φ1 (.ref T) (.tup [.int ((i : Nat) : Int), d]) := by
  subst e
  exact ⟨Ext.new s nT, s.new nT, .tup (.of upd_same) (.cons (.int _) (.cons (r.ext (Ext.new s nT)) .nil))⟩
theorem wk_enumT {a : Addr} {vs : List V} {ds : List D} (q : SqT K H0 a vs) (r : RVs K H0 φ0 vs ds) : WkJ K (wkEnum ⟨ds, none⟩) H0 φ0 (IteT K a) := by
  refine ⟨fun φ1 H1 st1 i d x s _ e => ?_, fun φ1 H1 st1 x s _ => ⟨vs, x.tup q, ?_⟩⟩
  · obtain ⟨d', e1, e2⟩ := enumD_get ds 0 i d e
    obtain ⟨v, hv, rv⟩ := r.get e1
    refine ⟨⟨vs, v, x.tup q, hv⟩, fun y H2 hy => ?_⟩
    obtain ⟨T, z, rfl, nT, eH, hz⟩ := hy
    have e3 := hz vs (x.tup q)
    rw [hv] at e3
    cases e3
    rw [e2, Nat.zero_add]
    exact enum_pair s nT eH (rv.ext x)
  · show vs.length ≤ (enumD 0 ds).length
    rw [enumD_length, r.length]
    exact Nat.le_refl _
theorem wk_enumF {a : Addr} {vs : List V} {ds : List D} (q : FzL K H0 a vs) (r : RVs K H0 φ0 vs ds) : WkJ K (wkEnum ⟨ds, none⟩) H0 φ0 (Ite K a) := by
  refine ⟨fun φ1 H1 st1 i d x s _ e => ?_, fun φ1 H1 st1 x s _ => ⟨vs, (x.fz q).sq, ?_⟩⟩
  · obtain ⟨d', e1, e2⟩ := enumD_get ds 0 i d e
    obtain ⟨v, hv, rv⟩ := r.get e1
    refine ⟨⟨vs, v, (x.fz q).sq, hv⟩, fun y H2 hy => ?_⟩
    obtain ⟨T, z, rfl, nT, eH, hz⟩ := hy
    have e3 := hz vs (x.fz q).sq
    rw [hv] at e3
    cases e3
    rw [e2, Nat.zero_add]
    exact enum_pair s nT eH (rv.ext x)
  · show vs.length ≤ (enumD 0 ds).length
    rw [enumD_length, r.length]
    exact Nat.le_refl _
theorem wk_enumO {a : Addr} {n : Nat} {ds : List D} (ha : φ0[n]? = some a) : WkJ K (wkEnum ⟨ds, some (n, ds)⟩) H0 φ0 (Ite K a) := by
  refine ⟨fun φ1 H1 st1 i d x s ok e => ?_, fun φ1 H1 st1 x s ok => ?_⟩
  · obtain ⟨vs, h, r⟩ := stands (w := wkEnum ⟨ds, some (n, ds)⟩) ha x s rfl ok
    obtain ⟨d', e1, e2⟩ := enumD_get ds 0 i d e
    obtain ⟨v, hv, rv⟩ := r.get e1
    refine ⟨⟨vs, v, .inl (.inl h), hv⟩, fun y H2 hy => ?_⟩
    obtain ⟨T, z, rfl, nT, eH, hz⟩ := hy
    have e3 := hz vs (.inl (.inl h))
    rw [hv] at e3
    cases e3
    rw [e2, Nat.zero_add]
    exact enum_pair s nT eH rv
  · obtain ⟨vs, h, r⟩ := stands (w := wkEnum ⟨ds, some (n, ds)⟩) ha x s rfl ok
    refine ⟨vs, .inl (.inl h), ?_⟩
    show vs.length ≤ (enumD 0 ds).length
    rw [enumD_length, r.length]
    exact Nat.le_refl _
/-- whatever can be walked -/
theorem walk_of {st : Sto} {d : D} {v : V} {w : Wk} {st' : Sto} (s : RS K H0 φ0 st) (h : walkOf d st = some (.ok w st')) (r : RV K H0 φ0 v d) :
    st' = st ∧ ∃ a, v = .ref a ∧ (((∃ xs, SqL K H0 a xs) ∧ WkJ K w H0 φ0 (Itl K a) ∧ WkJ K (wkEnum w) H0 φ0 (Ite K a)) ∨ ((∃ xs, SqT K H0 a xs) ∧ WkJ K w H0 φ0 (Itt K a) ∧ WkJ K (wkEnum w) H0 φ0 (IteT K a))) := by
  cases d with
  | tup ds =>
    cases h
    cases r with
    | tup q rs => exact ⟨rfl, _, rfl, .inr ⟨⟨_, q⟩, wk_tup q rs, wk_enumT q rs⟩⟩
  | frz ds =>
    cases h
    cases r with
    | frz q rs => exact ⟨rfl, _, rfl, .inl ⟨⟨_, q.sq⟩, wk_frz q rs, wk_enumF q rs⟩⟩
  | obj n =>
    have h' : (lstAt st n).map (fun xs => R.ok (⟨xs, some (n, xs)⟩ : Wk) st) = some (.ok w st') := h
    obtain ⟨xs, e, h2⟩ := Option.map_eq_some_iff.mp h'
    cases h2
    obtain ⟨a, vs, rfl, ha, hh, rs⟩ := r.lst s e
    exact ⟨rfl, a, rfl, .inl ⟨⟨vs, .inl (.inl hh)⟩, wk_obj ha, wk_enumO ha⟩⟩
  | _ => cases h
end
end Mi

set_option maxRecDepth 100000
/-! Mini: the translation of expressions and its soundness. -/
namespace Mi
open PySem PySem.Spec PyProof.Rows L2

/-! ### the translation -/
structure TC where
  fns : List (Str × List Str)
  kws : List (Str × Nat × List Str)
  bis : List String
def slotOf (sc : Scope) (N : List Str) (x : Str) : Option Nat :=
  match sc.names.lookup x with
  | some .local => if x == ("__debug__" : Str) || x == ("__classdict__" : Str) then none else N.idxOf? x
  | some .cell => if x == ("__debug__" : Str) || x == ("__classdict__" : Str) then none else N.idxOf? x
  | some .free => if x == ("__debug__" : Str) || x == ("__classdict__" : Str) then none else N.idxOf? x
  | _ => none
def isGlo (sc : Scope) (x : Str) : Bool := match sc.names.lookup x with
  | some .globalImplicit => true
  | _ => false
def exsOf : List (Option Ex) → Option Exs
  | [] => some .nil
  | none :: _ => none
  | some e :: r => match exsOf r with
    | some es => some (.cons e es)
    | none => none
def notSlice : Expr → Bool
  | .Slice .. => false
  | _ => true
def notCall : Expr → Bool
  | .Call .. => false
  | _ => true
/-- a target: a name of this scope's own, or some such -/
def tgNames (sc : Scope) (N : List Str) : List Expr → Option (List Nat)
  | [] => some []
  | .Name x _ :: r => match sc.names.lookup x, N.idxOf? x, tgNames sc N r with
    | some .local, some i, some is => some (i :: is)
    | some .cell, some i, some is => some (i :: is)
    | _, _, _ => none
  | _ => none
def trTg (sc : Scope) (N : List Str) : Expr → Option Tg
  | .Name x p => match tgNames sc N [.Name x p] with
    | some [i] => some (.nm i)
    | _ => none
  | .Tuple es _ _ => (tgNames sc N es).map .tup
  | _ => none
def isTup : Expr → Bool
  | .Tuple .. => true
  | _ => false
/-- the own names of a comprehension's block, with their slots -/
def ownOf (scope : Scope) (N : List Str) : List (Str × Nat) :=
  scope.names.filterMap fun y => match y.2 with
    | .local => (N.idxOf? y.1).map fun i => (y.1, i)
    | .cell => (N.idxOf? y.1).map fun i => (y.1, i)
    | _ => none
def relS (scope sc : Scope) : Scope := relabel scope { scope := sc, locals := 0, globals := 0, cells := [] }
theorem relS_eq {scope : Scope} {env : PySem.Env} : relabel scope env = relS scope env.scope := rfl
def tgIn (own : List Nat) : Tg → Bool
  | .nm i => own.contains i
  | .tup is => is.all own.contains
/-- the slots of keywords -/
def ksOf (ps : List Str) : List Keyword → Option (List Nat)
  | [] => some []
  | ⟨some x, _, _⟩ :: r => match ps.idxOf? x, ksOf ps r with
    | some i, some is => some (i :: is)
    | _, _ => none
  | _ => none
def kwNames : List Keyword → List Str
  | [] => []
  | ⟨some x, _, _⟩ :: r => x :: kwNames r
  | ⟨none, _, _⟩ :: r => kwNames r
/-- what is walked; f translates expressions -/
def srcOf (T : TC) (f : Expr → Option Ex) (sc : Scope) (tg : Expr) : Expr → Option Src
  | .Call (.Name x p) es [] q =>
    if x == Str.ofString "range" && isGlo sc x then
      if T.bis.contains "range" then match es with
        | [b] => (f b).map Src.range1
        | [a, b] => match f a, f b with
          | some x, some y => some (Src.range2 x y)
          | _, _ => none
        | _ => none
      else none
    else if x == Str.ofString "enumerate" && isGlo sc x then
      if T.bis.contains "enumerate" && isTup tg then match es with
        | [e] => (f e).map Src.enum
        | _ => none
      else none
    else (f (.Call (.Name x p) es [] q)).map Src.seq
  | e => (f e).map Src.seq
/-- a comprehension -/
def compOf (T : TC) (N : List Str) (f : Scope → Expr → Option Ex) (sc : Scope) (elt tg iter : Expr) (ifs : List Expr) (scope : Scope) : Option Ex :=
  if blkC N sc scope (ownOf scope N) && decide (ifs.length ≤ 1) then
    match trTg scope N tg, exsOf (ifs.map (f (relS scope sc))), f (relS scope sc) elt, srcOf T (f sc) sc tg iter with
    | some t, some fs, some x, some it => if tgIn ((ownOf scope N).map (·.2)) t then some (.comp ((ownOf scope N).map (·.2)) t it fs x) else none
    | _, _, _, _ => none
  else none
def trE (T : TC) (N : List Str) : Nat → Scope → Expr → Option Ex
  | 0, _, _ => none
  | n + 1, sc, e => match e with
    | .Name x _ => (slotOf sc N x).map .loc
    | .Constant (.int i) _ _ => some (.int i)
    | .Constant (.bool b) _ _ => some (.bl b)
    | .Constant .none _ _ => some .non
    | .Constant (.str x) _ _ => some (.str x)
    | .BinOp a op b _ => match trE T N n sc a, trE T N n sc b with
      | some x, some y => some (.bin op x y)
      | _, _ => none
    | .UnaryOp .USub a _ => (trE T N n sc a).map .neg
    | .UnaryOp .Not a _ => (trE T N n sc a).map .not
    | .Compare a [op] [b] _ => if behindInMarks op b then none else match trE T N n sc a, trE T N n sc b with
      | some x, some y => some (.cmp op x y)
      | _, _ => none
    | .BoolOp op [a] _ => trE T N n sc a
    | .BoolOp .And (a :: b :: r) p => match trE T N n sc a, trE T N n sc (.BoolOp .And (b :: r) p) with
      | some x, some y => some (.and x y)
      | _, _ => none
    | .BoolOp .Or (a :: b :: r) p => match trE T N n sc a, trE T N n sc (.BoolOp .Or (b :: r) p) with
      | some x, some y => some (.or x y)
      | _, _ => none
    | .IfExp c a b _ => match trE T N n sc c, trE T N n sc a, trE T N n sc b with
      | some z, some x, some y => some (.ite z x y)
      | _, _, _ => none
    | .Tuple es _ _ => (exsOf (es.map (trE T N n sc))).map .tup
    | .List es _ => (exsOf (es.map (trE T N n sc))).map .lst
    | .Subscript a b _ => if notSlice b then match trE T N n sc a, trE T N n sc b with
        | some x, some y => some (.idx x y)
        | _, _ => none
      else none
    | .Call (.Name x _) es [] _ => if isGlo sc x then match exsOf (es.map (trE T N n sc)) with
        | some ms => if (T.fns.lookup x).isSome then some (.call x ms) else
          if es.isEmpty then none else match T.bis.find? fun f => Str.ofString f == x && f != "range" && f != "enumerate" with
            | some f => some (.bi f ms)
            | none => none
        | none => none
      else none
    | .Call (.Name x _) es kws _ => if isGlo sc x then match T.fns.lookup x, exsOf (es.map (trE T N n sc)), exsOf (kws.map fun k => trE T N n sc k.value) with
        | some ps, some ms, some zs => match ksOf ps kws with
          | some is => if T.kws.contains (x, es.length, kwNames kws) then some (.callK x ps.length es.length is ms zs) else none
          | none => none
        | _, _, _ => none
      else none
    | .Call (.Attribute o m ap) es [] cp => if ap.endLine == cp.line && es.length == 1 && notCall o && m == Str.ofString "append" then match trE T N n sc o, exsOf (es.map (trE T N n sc)) with
        | some x, some ms => some (.met "append" x ms)
        | _, _ => none
      else none
    | .ListComp elt [⟨tg, iter, ifs, 0⟩] scope _ => compOf T N (trE T N n) sc elt tg iter ifs scope
    | _ => none

/-! ### readings -/
abbrev XRT := Str → D → List Addr → Hp → Value → Option Addr → Prop
def exW (XR : XRT) (W : WX) (σ : L2.St) : Str → D → List Addr → Hp → Prop := fun c w φ H => ∀ cls d, XR c w φ H cls d → W cls d σ H
section
variable (XR : XRT) (G : Fs) (K : PySem.W.Frag) (W : WX)
/-- from the slots σ and the heap H: what the computation f yields at what these bear is handed on -/
def tM {α : Type} (f : Env → M α) (σ : L2.St) (H : Hp) (Q : α → List Addr → Hp → Prop) : Prop :=
  ∃ φ ρ st, RE K σ H φ ρ ∧ RS K H φ st ∧ Post K (exW XR W σ) H φ (f ρ st) Q
def tE (m : Ex) : TE := fun σ H Q => tM XR K W (ev G m) σ H fun d φ' H' => ∀ v, RV K H' φ' v d → Q v H'
def tT (m : Ex) : TT := fun σ H Q => tM XR K W (fun ρ => ev G m ρ >>= truthM) σ H fun b _ H' => Q b H'
def tA (ms : Exs) : TA := fun σ H Q => tM XR K W (evs G ms) σ H fun ds φ' H' => ∀ vs, RVs K H' φ' vs ds → Q vs H'
def tI (it : Src) : TI := fun σ H R => tM XR K W (evSrc G it) σ H fun w φ' H' => ∀ J, WkJ K w H' φ' J → R J H'
end
section
variable {XR : XRT} {G : Fs} {K : PySem.W.Frag} {W : WX} {σ : L2.St}
theorem tM.split {α β : Type} {f : Env → M α} {k : Env → α → M β} {H : Hp} {Q : β → List Addr → Hp → Prop} (h : tM XR K W (fun ρ => f ρ >>= k ρ) σ H Q) :
    tM XR K W f σ H fun a φ1 H1 => ∃ ρ st1, RE K σ H1 φ1 ρ ∧ RS K H1 φ1 st1 ∧ Post K (exW XR W σ) H1 φ1 (k ρ a st1) Q := by
  obtain ⟨φ, ρ, st, re, rs, p⟩ := h
  refine ⟨φ, ρ, st, re, rs, p.split.mono fun a φ1 H1 x q => ?_⟩
  obtain ⟨st1, rs1, _, p1⟩ := q
  exact ⟨ρ, st1, re.ext x, rs1, p1⟩
theorem tM.imp {α : Type} {f : Env → M α} {H : Hp} {Q Q' : α → List Addr → Hp → Prop} (h : tM XR K W f σ H Q) (hq : ∀ a φ' H', Q a φ' H' → Q' a φ' H') : tM XR K W f σ H Q' := by
  obtain ⟨φ, ρ, st, re, rs, p⟩ := h
  exact ⟨φ, ρ, st, re, rs, p.mono fun a φ' H' _ => hq a φ' H'⟩
theorem truth_split {α : Type} {x : D} {g : Bool → M α} {st : Sto} {XX : Str → D → List Addr → Hp → Prop} {H : Hp} {φ : List Addr} {Q : α → List Addr → Hp → Prop} (p : Post K XX H φ ((truthM x >>= g) st) Q) :
    ∃ t, truth x st = some t ∧ Post K XX H φ (g t st) Q := by
  cases e : truth x st with
  | none =>
    have z : (truthM x >>= g) st = none := by
      show M.bind (truthM x) g st = none
      unfold M.bind truthM
      rw [e]
      rfl
    rw [z] at p
    exact p.elim
  | some t =>
    have z : (truthM x >>= g) st = g t st := by
      show M.bind (truthM x) g st = _
      unfold M.bind truthM
      rw [e]
      rfl
    rw [z] at p
    exact ⟨t, rfl, p⟩
theorem stuck_split {α β : Type} {g : α → M β} {st : Sto} {XX : Str → D → List Addr → Hp → Prop} {H : Hp} {φ : List Addr} {Q : β → List Addr → Hp → Prop} (p : Post K XX H φ ((M.stuck >>= g) st) Q) : False := p
/-- two values, then an operation -/
theorem step2 {ma mb : Ex} {f : D → D → M D} {H : Hp} {Q : VK} (h : tM XR K W (fun ρ => ev G ma ρ >>= fun x => ev G mb ρ >>= fun y => f x y) σ H fun d φ' H' => ∀ v, RV K H' φ' v d → Q v H') :
    tE XR G K W ma σ H fun x H1 => tE XR G K W mb σ H1 fun y H2 => rD2 K f x y H2 Q := by
  obtain ⟨φ, ρ, st, re, rs, p⟩ := h
  refine ⟨φ, ρ, st, re, rs, p.split.mono fun a φ1 H1 x1 q1 v rv => ?_⟩
  obtain ⟨st1, rs1, _, p1⟩ := q1
  refine ⟨φ1, ρ, st1, re.ext x1, rs1, p1.split.mono fun b φ2 H2 x2 q2 u ru => ?_⟩
  obtain ⟨st2, rs2, _, p2⟩ := q2
  exact ⟨_, φ2, st2, a, b, rs2, rv.ext x2, ru, p2⟩
/-- one value and its truth -/
theorem stepT {α : Type} {ma : Ex} {k : Env → D → Bool → M α} {H : Hp} {Q : α → List Addr → Hp → Prop} (h : tM XR K W (fun ρ => ev G ma ρ >>= fun x => truthM x >>= fun t => k ρ x t) σ H Q) :
    tM XR K W (ev G ma) σ H fun d φ1 H1 => ∀ v, RV K H1 φ1 v d → ∃ t ρ st1, TruV K v H1 t ∧ truth d st1 = some t ∧ RE K σ H1 φ1 ρ ∧ RS K H1 φ1 st1 ∧ Post K (exW XR W σ) H1 φ1 (k ρ d t st1) Q := by
  refine (tM.split h).imp fun d φ1 H1 q v rv => ?_
  obtain ⟨ρ, st1, re, rs, p⟩ := q
  obtain ⟨t, ht, p2⟩ := truth_split p
  exact ⟨t, ρ, st1, tru_of rs ht rv, ht, re, rs, p2⟩
theorem stepTT {α : Type} {ma : Ex} {k : Env → Bool → M α} {H : Hp} {Q : α → List Addr → Hp → Prop} (h : tM XR K W (fun ρ => ev G ma ρ >>= fun x => truthM x >>= fun t => k ρ t) σ H Q) :
    tT XR G K W ma σ H fun t H1 => tM XR K W (fun ρ => k ρ t) σ H1 Q := by
  have h' : tM XR K W (fun ρ => (ev G ma ρ >>= truthM) >>= k ρ) σ H Q := by
    simp only [bind_asc]
    exact h
  refine (tM.split h').imp fun t φ1 H1 q => ?_
  obtain ⟨ρ, st1, re, rs, p⟩ := q
  exact ⟨φ1, ρ, st1, re, rs, p⟩
end

/-! ### what holds where a translated text runs -/
/-- the promise by the interpreter -/
def spM (XR : XRT) (K : PySem.W.Frag) (m : List D → M D) : Sp := fun vs H Q E =>
  ∃ φ st ds, RS K H φ st ∧ RVs K H φ vs ds ∧ Post K (fun c w φ' H' => ∀ cls d, XR c w φ' H' cls d → E cls d H') H φ (m ds st) fun d φ' H' => ∀ v, RV K H' φ' v d → Q v H'
/-- a def that the text has -/
structure FnHas (T : TC) (XR : XRT) (X : Cx) (m : List D → M D) (x : Str) (ps : List Str) : Prop where
  nd : (x == ("__debug__" : Str)) = false
  fn : ∃ k f fd, FnG X.prog X.w X.K X.mg X.base k f fd ps (spM XR X.K m) ∧ Room k X.A ∧ X.mg x = some (.ref f) ∧ PySem.W.keepIn X.K (.ref f) = true ∧
    (∀ us : List Value, us.length = ps.length → bindArgs fd ⟨us, []⟩ = pure (ps.zip us)) ∧
    ∀ m ks is, (x, m, ks) ∈ T.kws → ks.mapM (fun y => ps.idxOf? y) = some is → ∀ us ws xs : List Value, permG ps.length m is us ws = some xs → bindArgs fd ⟨us, ks.zip ws⟩ = pure (ps.zip xs)
structure Good (T : TC) (G : Fs) (XR : XRT) (N : List Str) (W : WX) (sc : Scope) (X : Cx) : Prop where
  nN : X.N = N
  nd : N.Nodup
  calm : X.calm = true
  sco : X.env.scope = sc
  kind : sc.kind = .function
  gd : X.A.guards = some []
  un : X.A.units + 150 < cLine
  tk : Takes X W
  bi : ∀ f ∈ T.bis, X.mg (Str.ofString f) = none
  bin : ∀ f ∈ T.bis, Str.ofString f ≠ "__name__" ∧ ((Str.ofString f) == ("__debug__" : Str)) = false
  bis : ∀ f ∈ T.bis, f ≠ "range" → f ≠ "enumerate" → f ∈ biNames
  fn : ∀ x ps, T.fns.lookup x = some ps → FnHas T XR X (G x) x ps
section
variable {T : TC} {G : Fs} {XR : XRT} {N : List Str} {W : WX} {sc : Scope} {X : Cx}
theorem toE {e : Expr} {t t' : TE} (h : PE X e t) (hi : ∀ σ H Q, t' σ H Q → t σ H Q) : PE X e t' := ⟨fun pins s σ H Q I q => h.run pins s σ H Q I (hi σ H Q q)⟩
theorem toT {e : Expr} {t t' : TT} (h : PT X e t) (hi : ∀ σ H Q, t' σ H Q → t σ H Q) : PT X e t' := ⟨fun pins s σ H Q I q => h.run pins s σ H Q I (hi σ H Q q)⟩
theorem toW {e : Expr} {t t' : TT} (h : PW X e t) (hi : ∀ σ H Q, t' σ H Q → t σ H Q) : PW X e t' := ⟨fun wh pins s σ H Q I q => h.run wh pins s σ H Q I (hi σ H Q q)⟩
theorem toA {es : List Expr} {t t' : TA} (h : PA X es t) (hi : ∀ σ H Q, t' σ H Q → t σ H Q) : PA X es t' := ⟨fun p pins s σ H Q I q => h.run p pins s σ H Q I (hi σ H Q q)⟩
theorem toK {ks : List Keyword} {t t' : TA} (h : PK X ks t) (hi : ∀ σ H Q, t' σ H Q → t σ H Q) : PK X ks t' := ⟨fun p pins s σ H Q I q => h.run p pins s σ H Q I (hi σ H Q q)⟩
theorem toI {tg e : Expr} {t t' : TI} (h : PI X tg e t) (hi : ∀ σ H Q, t' σ H Q → t σ H Q) : PI X tg e t' := ⟨fun pins s σ H Q I q => h.run pins s σ H Q I (hi σ H Q q)⟩
/-- a test by its value's truth -/
theorem pt_of {e : Expr} {m : Ex} (h : PE X e (tE XR G X.K W m)) (he : ∀ whole, isTrue e X.env whole = (do let v ← whole; standAt e.pos; holding [v] (truthy v))) : PT X e (tT XR G X.K W m) :=
  toT (pt_truth h he) fun σ H Q q => by
    have q' : tM XR X.K W (fun ρ => ev G m ρ >>= fun x => truthM x >>= fun t => pure t) σ H fun b _ H' => Q b H' := by
      have e : (fun ρ => ev G m ρ >>= fun x => truthM x >>= fun t => (pure t : M Bool)) = fun ρ => ev G m ρ >>= truthM := by
        funext ρ st
        show M.bind _ _ st = M.bind _ _ st
        unfold M.bind
        cases ev G m ρ st with
        | none => rfl
        | some r =>
          cases r with
          | exc => rfl
          | ok a s =>
            show (truthM a >>= fun t => (pure t : M Bool)) s = truthM a s
            show M.bind _ _ s = _
            unfold M.bind truthM
            cases truth a s <;> rfl
      rw [e]
      exact q
    refine (stepT q').imp fun d φ1 H1 z v rv => ?_
    obtain ⟨t, ρ, st1, ht, _, re, rs, p⟩ := z v rv
    exact ⟨t, ht, Post.pure rs p⟩
end
end Mi

set_option maxRecDepth 100000
/-! Mini: expressions, one by one. -/
namespace Mi
open PySem PySem.Spec PyProof.Rows L2

theorem idx_get {α : Type} [BEq α] [LawfulBEq α] : ∀ (l : List α) (x : α) (i : Nat), l.idxOf? x = some i → l[i]? = some x
  | [], x, i, h => by simp [List.idxOf?] at h
  | a :: l, x, i, h => by
    rw [List.idxOf?_cons] at h
    by_cases e : a = x
    · subst e
      simp at h
      subst h
      rfl
    · have e' : (a == x) = false := beq_eq_false_iff_ne.mpr e
      rw [e'] at h
      simp at h
      obtain ⟨j, hj, rfl⟩ := h
      simpa using idx_get l x j hj
theorem slot_ok {sc : Scope} {N : List Str} {x : Str} {i : Nat} (h : slotOf sc N x = some i) : N[i]? = some x ∧ Vis sc x ∧ (x == ("__debug__" : Str)) = false ∧ (x == ("__classdict__" : Str)) = false := by
  unfold slotOf at h
  split at h
  all_goals first
    | (split at h
       · cases h
       · rename_i hk hd
         have hd' := Bool.or_eq_false_iff.mp (Bool.eq_false_iff.mpr hd)
         refine ⟨idx_get N x i h, ?_, hd'.1, hd'.2⟩
         first | exact .inl hk | exact .inr (.inl hk) | exact .inr (.inr hk))
    | cases h
theorem glo_ok {sc : Scope} {x : Str} (h : isGlo sc x = true) : sc.names.lookup x = some .globalImplicit := by
  unfold isGlo at h
  split at h
  · assumption
  · cases h
theorem exsOf_cons {o : Option Ex} {r : List (Option Ex)} {ms : Exs} (h : exsOf (o :: r) = some ms) : ∃ e es, o = some e ∧ exsOf r = some es ∧ ms = .cons e es := by
  cases o with
  | none => cases h
  | some e =>
    unfold exsOf at h
    split at h
    · rename_i es he
      cases h
      exact ⟨e, es, rfl, he, rfl⟩
    · cases h
section
variable {T : TC} {N : List Str} {n : Nat} {sc : Scope}
theorem noStar {e : Expr} {m : Ex} (h : trE T N n sc e = some m) (es : List Expr) (env : PySem.Env) : starEach (e :: es) env = (false, eval e env) :: starEach es env := by
  cases n with
  | zero => cases h
  | succ n =>
    cases e <;> first
      | rfl
      | cases h
theorem noStars (pos : Pos) (env : PySem.Env) : ∀ {es : List Expr} {ms : Exs}, exsOf (es.map (trE T N n sc)) = some ms → (backTo pos (starEach es env)).any (·.1) = false
  | [], _, _ => rfl
  | e :: es, ms, h => by
    obtain ⟨x, xs, h1, h2, _⟩ := exsOf_cons h
    rw [noStar h1]
    show (false || (backTo pos (starEach es env)).any (·.1)) = false
    rw [noStars pos env h2]
    rfl
end

section
variable {T : TC} {G : Fs} {XR : XRT} {N : List Str} {W : WX} {sc : Scope} {X : Cx}
theorem Good.units (g : Good T G XR N W sc X) : X.A.units + 64 < cLine := by
  have := g.un
  omega
theorem Good.glo (g : Good T G XR N W sc X) {x : Str} (h : isGlo sc x = true) : Gl X x := by
  show X.env.scope.names.lookup x = _
  rw [g.sco]
  exact glo_ok h
theorem e_loc (g : Good T G XR N W sc X) {x : Str} {pos : Pos} {i : Nat} (h : slotOf sc N x = some i) : PE X (.Name x pos) (tE XR G X.K W (.loc i)) := by
  obtain ⟨h1, h2, h3, h4⟩ := slot_ok h
  refine toE (pe_var (i := i) (by rw [g.nN]; exact h1) (by rw [g.sco]; exact h2) h3 h4) fun σ H Q q => ?_
  obtain ⟨φ, ρ, st, re, rs, p⟩ := q
  unfold ev at p
  split at p
  · rename_i d hd
    obtain ⟨v, hv, rv⟩ := re.at_ i d hd
    exact ⟨v, hv, p φ H (Ext.refl H φ) rs v rv⟩
  · exact p.elim
theorem e_cst {e : Expr} {m : Ex} {v : V} {d : D} (h : PE X e (tC v)) (hm : ∀ ρ : Env, ev G m ρ = pure d) (hr : ∀ H φ, RV X.K H φ v d) : PE X e (tE XR G X.K W m) :=
  toE h fun σ H Q q => by
    obtain ⟨φ, ρ, st, re, rs, p⟩ := q
    rw [hm] at p
    exact p φ H (Ext.refl H φ) rs v (hr H φ)
theorem e_bin (g : Good T G XR N W sc X) {op : Operator} {a b : Expr} {pos : Pos} {x y : Ex} (ha : PE X a (tE XR G X.K W x)) (hb : PE X b (tE XR G X.K W y)) : PE X (.BinOp a op b pos) (tE XR G X.K W (.bin op x y)) :=
  toE (pe_op (op_bin op) ha hb) fun σ H Q q => step2 q
theorem Post.wit {α : Type} {K : PySem.W.Frag} {XX : Str → D → List Addr → Hp → Prop} {H : Hp} {φ : List Addr} {r : Option (R α)} {Q : α → List Addr → Hp → Prop} (h : Post K XX H φ r Q) :
    Post K XX H φ r fun a φ' H' => Q a φ' H' ∧ ∃ st, r = some (.ok a st) := by
  match r, h with
  | some (.ok a st), h => exact fun φ' H' x s => ⟨h φ' H' x s, st, rfl⟩
  | some (.exc c w st), h => exact h
theorem cmpE_bl {op : CmpOp} {x y d : D} {s s' : Sto} (h : cmpE op x y s = some (.ok d s')) : ∃ b, d = .bl b := by
  unfold cmpE at h
  split at h
  all_goals
    repeat' split at h
  all_goals first
    | (cases h; exact ⟨_, rfl⟩)
    | cases h
theorem truthM_at {d : D} {s : Sto} {K : PySem.W.Frag} {XX : Str → D → List Addr → Hp → Prop} {H : Hp} {φ : List Addr} {Q : Bool → List Addr → Hp → Prop} (rs : RS K H φ s) (p : Post K XX H φ (truthM d s) Q) : ∃ t, truth d s = some t ∧ Q t φ H := by
  unfold truthM at p
  cases e : truth d s with
  | none => rw [e] at p; exact p.elim
  | some t => rw [e] at p; exact ⟨t, rfl, p φ H (Ext.refl _ _) rs⟩
theorem e_cmp (g : Good T G XR N W sc X) {op : CmpOp} {a b : Expr} {pos : Pos} {x y : Ex} (hm : behindInMarks op b = false) (ha : PE X a (tE XR G X.K W x)) (hb : PE X b (tE XR G X.K W y)) :
    PE X (.Compare a [op] [b] pos) (tE XR G X.K W (.cmp op x y)) ∧ PT X (.Compare a [op] [b] pos) (tT XR G X.K W (.cmp op x y)) := by
  refine ⟨toE (pe_cmpR (op_cmp g.units op) ha hb hm) fun σ H Q q => step2 q, toT (pt_cmpR (op_cmp g.units op) ha hb hm) fun σ H Q q => ?_⟩
  -- the comparison's own value is a bool
  obtain ⟨φ, ρ, st, re, rs, p⟩ := q
  have p' : Post X.K (exW XR W σ) H φ ((ev G x ρ >>= fun u => ev G y ρ >>= fun w => cmpE op u w >>= truthM) st) fun b _ H' => Q b H' := by
    have e : (ev G (.cmp op x y) ρ >>= truthM) = ev G x ρ >>= fun u => ev G y ρ >>= fun w => cmpE op u w >>= truthM := by
      show (ev G x ρ >>= fun u => ev G y ρ >>= fun w => cmpE op u w) >>= truthM = _
      simp only [bind_asc]
    rw [← e]
    exact p
  refine ⟨φ, ρ, st, re, rs, p'.split.mono fun u φ1 H1 x1 q1 v rv => ?_⟩
  obtain ⟨st1, rs1, _, p1⟩ := q1
  refine ⟨φ1, ρ, st1, re.ext x1, rs1, p1.split.mono fun w φ2 H2 x2 q2 v2 rv2 => ?_⟩
  obtain ⟨st2, rs2, _, p2⟩ := q2
  refine ⟨_, φ2, st2, u, w, rs2, rv.ext x2, rv2, p2.split.wit.mono fun d φ3 H3 x3 q3 z rz => ?_⟩
  obtain ⟨⟨st3, rs3, _, p3⟩, s4, hd⟩ := q3
  obtain ⟨b, rfl⟩ := cmpE_bl hd
  obtain ⟨t, ht, p4⟩ := truthM_at rs3 p3
  cases ht
  cases rz
  exact ⟨_, rfl, p4⟩
theorem tM.pure {α : Type} {K : PySem.W.Frag} {σ : L2.St} {a : α} {H : Hp} {Q : α → List Addr → Hp → Prop} (h : tM XR K W (fun _ => (Pure.pure a : M α)) σ H Q) : ∃ φ, Q a φ H := by
  obtain ⟨φ, ρ, st, re, rs, p⟩ := h
  exact ⟨φ, Post.pure rs p⟩
/-- tests whose reading is a value's truth -/
theorem e_not {a : Expr} {pos : Pos} {x : Ex} (ha : PE X a (tE XR G X.K W x)) (ta : PT X a (tT XR G X.K W x)) : PE X (.UnaryOp .Not a pos) (tE XR G X.K W (.not x)) ∧ PT X (.UnaryOp .Not a pos) (tT XR G X.K W (.not x)) := by
  refine ⟨toE (pe_notT ha) fun σ H Q q => ?_, toT (pt_not ta) fun σ H Q q => ?_⟩
  · have q' : tM XR X.K W (fun ρ => ev G x ρ >>= fun u => truthM u >>= fun t => (pure (D.bl (!t)) : M D)) σ H fun d φ' H' => ∀ v, RV X.K H' φ' v d → Q v H' := q
    refine (stepT q').imp fun d φ1 H1 z v rv => ?_
    obtain ⟨t, ρ, st1, ht, _, re, rs, p⟩ := z v rv
    exact ⟨t, ht, Post.pure rs p _ (.bl _)⟩
  · have e : (fun ρ => ev G (.not x) ρ >>= truthM) = fun ρ => ev G x ρ >>= fun u => truthM u >>= fun t => (pure (!t) : M Bool) := by
      funext ρ
      show (ev G x ρ >>= fun u => truthM u >>= fun t => pure (D.bl (!t))) >>= truthM = _
      simp only [bind_asc]
      rfl
    have q' : tM XR X.K W (fun ρ => ev G (.not x) ρ >>= truthM) σ H fun b _ H' => Q b H' := q
    rw [e] at q'
    refine tM.imp (stepTT (k := fun _ t => (pure (!t) : M Bool)) q') fun t φ1 H1 z => ?_
    obtain ⟨_, z⟩ := tM.pure z
    exact z
theorem and_truth {u : D} {m : M D} : (truthM u >>= fun t => (if t then m else pure u) >>= truthM) = (truthM u >>= fun t => if t then m >>= truthM else pure false) := by
  funext s
  show M.bind _ _ s = M.bind _ _ s
  cases h : truth u s with
  | none =>
    have e : truthM u s = none := by unfold truthM; rw [h]; rfl
    unfold M.bind
    rw [e]
  | some t =>
    have e : truthM u s = some (.ok t s) := by unfold truthM; rw [h]; rfl
    unfold M.bind
    rw [e]
    cases t with
    | true => rfl
    | false =>
      show truthM u s = _
      rw [e]
      rfl
theorem or_truth {u : D} {m : M D} : (truthM u >>= fun t => (if t then pure u else m) >>= truthM) = (truthM u >>= fun t => if t then pure true else m >>= truthM) := by
  funext s
  show M.bind _ _ s = M.bind _ _ s
  cases h : truth u s with
  | none =>
    have e : truthM u s = none := by unfold truthM; rw [h]; rfl
    unfold M.bind
    rw [e]
  | some t =>
    have e : truthM u s = some (.ok t s) := by unfold truthM; rw [h]; rfl
    unfold M.bind
    rw [e]
    cases t with
    | false => rfl
    | true =>
      show truthM u s = _
      rw [e]
      rfl
theorem e_and {a b : Expr} {r : List Expr} {pos : Pos} {x y : Ex} (ha : PE X a (tE XR G X.K W x)) (ta : PT X a (tT XR G X.K W x)) (hb : PE X (.BoolOp .And (b :: r) pos) (tE XR G X.K W y)) (tb : PW X (.BoolOp .And (b :: r) pos) (tT XR G X.K W y)) :
    PE X (.BoolOp .And (a :: b :: r) pos) (tE XR G X.K W (.and x y)) ∧ PW X (.BoolOp .And (a :: b :: r) pos) (tT XR G X.K W (.and x y)) := by
  refine ⟨toE (pe_andT ha hb) fun σ H Q q => ?_, toW (pw_and ta tb) fun σ H Q q => ?_⟩
  · have q' : tM XR X.K W (fun ρ => ev G x ρ >>= fun u => truthM u >>= fun t => if t then ev G y ρ else pure u) σ H fun d φ' H' => ∀ v, RV X.K H' φ' v d → Q v H' := q
    refine (stepT (k := fun ρ u t => if t then ev G y ρ else pure u) q').imp fun d φ1 H1 z v rv => ?_
    obtain ⟨t, ρ, st1, ht, _, re, rs, p⟩ := z v rv
    refine ⟨t, ht, ?_⟩
    cases t with
    | true => exact ⟨φ1, ρ, st1, re, rs, p⟩
    | false => exact Post.pure rs p v rv
  · have e : (fun ρ => ev G (.and x y) ρ >>= truthM) = fun ρ => ev G x ρ >>= fun u => truthM u >>= fun t => (if t then ev G y ρ else pure u) >>= truthM := by
      funext ρ
      show (ev G x ρ >>= fun u => truthM u >>= fun t => if t then ev G y ρ else pure u) >>= truthM = _
      simp only [bind_asc]
    have q' : tM XR X.K W (fun ρ => ev G (.and x y) ρ >>= truthM) σ H fun b _ H' => Q b H' := q
    rw [e] at q'
    have q2 : tM XR X.K W (fun ρ => ev G x ρ >>= fun u => truthM u >>= fun t => if t then ev G y ρ >>= truthM else pure false) σ H fun b _ H' => Q b H' := by
      simp only [and_truth] at q'
      exact q'
    refine tM.imp (stepTT (k := fun ρ t => if t then ev G y ρ >>= truthM else pure false) q2) fun t φ1 H1 z => ?_
    cases t with
    | true => exact z
    | false =>
      obtain ⟨_, z⟩ := tM.pure z
      exact z
theorem e_or {a b : Expr} {r : List Expr} {pos : Pos} {x y : Ex} (ha : PE X a (tE XR G X.K W x)) (ta : PT X a (tT XR G X.K W x)) (hb : PE X (.BoolOp .Or (b :: r) pos) (tE XR G X.K W y)) (tb : PW X (.BoolOp .Or (b :: r) pos) (tT XR G X.K W y)) :
    PE X (.BoolOp .Or (a :: b :: r) pos) (tE XR G X.K W (.or x y)) ∧ PW X (.BoolOp .Or (a :: b :: r) pos) (tT XR G X.K W (.or x y)) := by
  refine ⟨toE (pe_orT ha hb) fun σ H Q q => ?_, toW (pw_or ta tb) fun σ H Q q => ?_⟩
  · have q' : tM XR X.K W (fun ρ => ev G x ρ >>= fun u => truthM u >>= fun t => if t then pure u else ev G y ρ) σ H fun d φ' H' => ∀ v, RV X.K H' φ' v d → Q v H' := q
    refine (stepT (k := fun ρ u t => if t then pure u else ev G y ρ) q').imp fun d φ1 H1 z v rv => ?_
    obtain ⟨t, ρ, st1, ht, _, re, rs, p⟩ := z v rv
    refine ⟨t, ht, ?_⟩
    cases t with
    | false => exact ⟨φ1, ρ, st1, re, rs, p⟩
    | true => exact Post.pure rs p v rv
  · have e : (fun ρ => ev G (.or x y) ρ >>= truthM) = fun ρ => ev G x ρ >>= fun u => truthM u >>= fun t => (if t then pure u else ev G y ρ) >>= truthM := by
      funext ρ
      show (ev G x ρ >>= fun u => truthM u >>= fun t => if t then pure u else ev G y ρ) >>= truthM = _
      simp only [bind_asc]
    have q' : tM XR X.K W (fun ρ => ev G (.or x y) ρ >>= truthM) σ H fun b _ H' => Q b H' := q
    rw [e] at q'
    simp only [or_truth] at q'
    refine tM.imp (stepTT (k := fun ρ t => if t then pure true else ev G y ρ >>= truthM) q') fun t φ1 H1 z => ?_
    cases t with
    | false => exact z
    | true =>
      obtain ⟨_, z⟩ := tM.pure z
      exact z
/-- a if c else b, in a test -/
theorem pt_ifExp {c a b : Expr} {pos : Pos} {tc t u : TT} (hc : PT X c tc) (ha : PT X a t) (hb : PT X b u) : PT X (.IfExp c a b pos) (fun σ H Q => tc σ H fun k H1 => if k = true then t σ H1 Q else u σ H1 Q) := by
  refine ⟨fun pins s σ H Q I h => isTrue_IfExp (thn (hc.run pins s σ H _ I h) fun d s1 q => ?_)⟩
  obtain ⟨H1, I1, q1⟩ := q
  cases d with
  | true => exact ha.run pins s1 σ H1 Q I1 q1
  | false => exact hb.run pins s1 σ H1 Q I1 q1
theorem e_ite {c a b : Expr} {pos : Pos} {z x y : Ex} (tc : PT X c (tT XR G X.K W z)) (ha : PE X a (tE XR G X.K W x)) (ta : PT X a (tT XR G X.K W x)) (hb : PE X b (tE XR G X.K W y)) (tb : PT X b (tT XR G X.K W y)) :
    PE X (.IfExp c a b pos) (tE XR G X.K W (.ite z x y)) ∧ PT X (.IfExp c a b pos) (tT XR G X.K W (.ite z x y)) := by
  refine ⟨toE (pe_ifExp tc ha hb) fun σ H Q q => ?_, toT (pt_ifExp tc ta tb) fun σ H Q q => ?_⟩
  · have q' : tM XR X.K W (fun ρ => ev G z ρ >>= fun u => truthM u >>= fun t => if t then ev G x ρ else ev G y ρ) σ H fun d φ' H' => ∀ v, RV X.K H' φ' v d → Q v H' := q
    refine tM.imp (stepTT (k := fun ρ t => if t then ev G x ρ else ev G y ρ) q') fun t φ1 H1 w => ?_
    cases t <;> exact w
  · have e : (fun ρ => ev G (.ite z x y) ρ >>= truthM) = fun ρ => ev G z ρ >>= fun u => truthM u >>= fun t => (if t then ev G x ρ else ev G y ρ) >>= truthM := by
      funext ρ
      show (ev G z ρ >>= fun u => truthM u >>= fun t => if t then ev G x ρ else ev G y ρ) >>= truthM = _
      simp only [bind_asc]
    have q' : tM XR X.K W (fun ρ => ev G (.ite z x y) ρ >>= truthM) σ H fun b _ H' => Q b H' := q
    rw [e] at q'
    refine tM.imp (stepTT (k := fun ρ t => (if t then ev G x ρ else ev G y ρ) >>= truthM) q') fun t φ1 H1 w => ?_
    cases t <;> exact w
theorem e_neg {a : Expr} {pos : Pos} {x : Ex} (ha : PE X a (tE XR G X.K W x)) : PE X (.UnaryOp .USub a pos) (tE XR G X.K W (.neg x)) :=
  toE (pe_un un_neg ha) fun σ H Q q => by
    have q' : tM XR X.K W (fun ρ => ev G x ρ >>= fun d => match d with
      | .int i => (pure (D.int (-i)) : M D)
      | _ => M.stuck) σ H fun d φ' H' => ∀ v, RV X.K H' φ' v d → Q v H' := q
    refine (tM.split q').imp fun d φ1 H1 z v rv => ?_
    obtain ⟨ρ, st1, re, rs, p⟩ := z
    split at p
    · cases rv
      exact ⟨_, rfl, Post.pure rs p _ (.int _)⟩
    · exact p.elim
/-! ### arguments, displays, calls -/
theorem a_of : ∀ {es : List Expr} {ms : Exs} {f : Expr → Option Ex}, exsOf (es.map f) = some ms → (∀ e ∈ es, ∀ m, f e = some m → PE X e (tE XR G X.K W m) ∧ ∀ r, starEach (e :: r) X.env = (false, eval e X.env) :: starEach r X.env) → PA X es (tA XR G X.K W ms)
  | [], ms, f, h, _ => by
    cases h
    refine toA pa_nil fun σ H Q q => ?_
    obtain ⟨φ, q⟩ := tM.pure (show tM XR X.K W (fun _ => (Pure.pure ([] : List D) : M (List D))) σ H _ from q)
    exact q [] .nil
  | e :: es, ms, f, h, hp => by
    obtain ⟨m, ns, h1, h2, rfl⟩ := exsOf_cons h
    obtain ⟨pe, hs⟩ := hp e List.mem_cons_self m h1
    have pa := a_of h2 fun e' he' => hp e' (List.mem_cons_of_mem _ he')
    refine toA (pa_cons pe pa (hs es)) fun σ H Q q => ?_
    have q' : tM XR X.K W (fun ρ => ev G m ρ >>= fun d => evs G ns ρ >>= fun ds => (pure (d :: ds) : M (List D))) σ H fun ds φ' H' => ∀ vs, RVs X.K H' φ' vs ds → Q vs H' := q
    obtain ⟨φ, ρ, st, re, rs, p⟩ := q'
    refine ⟨φ, ρ, st, re, rs, p.split.mono fun a φ1 H1 x1 q1 v rv => ?_⟩
    obtain ⟨st1, rs1, _, p1⟩ := q1
    refine ⟨φ1, ρ, st1, re.ext x1, rs1, p1.split.mono fun b φ2 H2 x2 q2 us ru => ?_⟩
    obtain ⟨st2, rs2, _, p2⟩ := q2
    exact Post.pure rs2 p2 _ (.cons (rv.ext x2) ru)
theorem k_of : ∀ {ks : List Keyword} {ms : Exs} {f : Expr → Option Ex}, exsOf (ks.map fun k => f k.value) = some ms → (∀ k ∈ ks, ∀ m, f k.value = some m → PE X k.value (tE XR G X.K W m)) → PK X ks (tA XR G X.K W ms)
  | [], ms, f, h, _ => by
    cases h
    refine toK pk_nil fun σ H Q q => ?_
    obtain ⟨φ, q⟩ := tM.pure (show tM XR X.K W (fun _ => (Pure.pure ([] : List D) : M (List D))) σ H _ from q)
    exact q [] .nil
  | ⟨nm, e, kp⟩ :: ks, ms, f, h, hp => by
    obtain ⟨m, ns, h1, h2, rfl⟩ := exsOf_cons h
    have pe := hp ⟨nm, e, kp⟩ List.mem_cons_self m h1
    have pk := k_of h2 fun k' hk' => hp k' (List.mem_cons_of_mem _ hk')
    refine toK (pk_cons pe pk) fun σ H Q q => ?_
    have q' : tM XR X.K W (fun ρ => ev G m ρ >>= fun d => evs G ns ρ >>= fun ds => (pure (d :: ds) : M (List D))) σ H fun ds φ' H' => ∀ vs, RVs X.K H' φ' vs ds → Q vs H' := q
    obtain ⟨φ, ρ, st, re, rs, p⟩ := q'
    refine ⟨φ, ρ, st, re, rs, p.split.mono fun a φ1 H1 x1 q1 v rv => ?_⟩
    obtain ⟨st1, rs1, _, p1⟩ := q1
    refine ⟨φ1, ρ, st1, re.ext x1, rs1, p1.split.mono fun b φ2 H2 x2 q2 us ru => ?_⟩
    obtain ⟨st2, rs2, _, p2⟩ := q2
    exact Post.pure rs2 p2 _ (.cons (rv.ext x2) ru)
theorem e_tup {es : List Expr} {k : Nat} {pos : Pos} {ms : Exs} (ha : PA X es (tA XR G X.K W ms)) : PE X (.Tuple es k pos) (tE XR G X.K W (.tup ms)) :=
  toE (pe_tup ha) fun σ H Q q => by
    have q' : tM XR X.K W (fun ρ => evs G ms ρ >>= newT) σ H fun d φ' H' => ∀ v, RV X.K H' φ' v d → Q v H' := q
    refine (tM.split (k := fun _ => newT) q').imp fun ds φ1 H1 z vs rv => ?_
    obtain ⟨ρ, st1, re, rs, p⟩ := z
    unfold newT at p
    split at p
    · rename_i hz
      exact ⟨by rw [rv.length, sizeLine_eq]; exact hz, fun l hl => p.hereNew rs hl _ (.tup (.of upd_same) (rv.ext (Ext.new rs hl)))⟩
    · exact p.elim
theorem e_lst {es : List Expr} {pos : Pos} {ms : Exs} (ha : PA X es (tA XR G X.K W ms)) : PE X (.List es pos) (tE XR G X.K W (.lst ms)) :=
  toE (pe_lst ha) fun σ H Q q => by
    have q' : tM XR X.K W (fun ρ => evs G ms ρ >>= newL) σ H fun d φ' H' => ∀ v, RV X.K H' φ' v d → Q v H' := q
    refine (tM.split (k := fun _ => newL) q').imp fun ds φ1 H1 z vs rv => ?_
    obtain ⟨ρ, st1, re, rs, p⟩ := z
    unfold newL at p
    split at p
    · rename_i hz
      exact ⟨by rw [rv.length, sizeLine_eq]; exact hz, fun l hl => p.hereLst rs hl rv _ (.obj (last_at rs))⟩
    · exact p.elim
theorem e_idx {a b : Expr} {pos : Pos} {x y : Ex} (hb' : notSlice b = true) (ha : PE X a (tE XR G X.K W x)) (hb : PE X b (tE XR G X.K W y)) : PE X (.Subscript a b pos) (tE XR G X.K W (.idx x y)) :=
  toE (pe_ix ix_any ha hb fun o i => by cases b <;> first | rfl | cases hb') fun σ H Q q => step2 q
end
end Mi

set_option maxRecDepth 100000
/-! Mini: calls and comprehensions. -/
namespace Mi
open PySem PySem.Spec PyProof.Rows L2
section
variable {T : TC} {G : Fs} {XR : XRT} {N : List Str} {W : WX} {sc : Scope} {X : Cx}
/-- from the arguments' reading to the promise -/
theorem to_sp {f : Str} {ms : Exs} {σ : L2.St} {H : Hp} {Q : VK} (q : tM XR X.K W (fun ρ => evs G ms ρ >>= fun ds => G f ds) σ H fun d φ' H' => ∀ v, RV X.K H' φ' v d → Q v H') :
    tA XR G X.K W ms σ H fun vs H1 => spM XR X.K (G f) vs H1 Q fun c d H' => W c d σ H' := by
  refine (tM.split (k := fun _ ds => G f ds) q).imp fun ds φ1 H1 z vs rv => ?_
  obtain ⟨ρ, st1, re, rs, p⟩ := z
  exact ⟨φ1, st1, ds, rs, rv, p⟩
theorem e_call (g : Good T G XR N W sc X) {x : Str} {p pos : Pos} {es : List Expr} {ms : Exs} {ps : List Str} (hx : isGlo sc x = true) (hf : T.fns.lookup x = some ps) (ha : PA X es (tA XR G X.K W ms))
    (hs : ∀ e r, es = e :: r → starEach es X.env = (false, eval e X.env) :: starEach r X.env ∧ (backTo pos (starEach r X.env)).any (·.1) = false) (hn : es = [] → ms = .nil) :
    PE X (.Call (.Name x p) es [] pos) (tE XR G X.K W (.call x ms)) := by
  obtain ⟨hd, k, f, fd, F, hr, hm, hk, hb, _⟩ := g.fn x ps hf
  cases es with
  | nil =>
    have e : ms = .nil := hn rfl
    subst e
    refine toE (pe_callG0 F hr g.gd g.tk (g.glo hx) hm hk hb hd) fun σ H Q q => ?_
    have q' : tM XR X.K W (fun ρ => (pure ([] : List D) : M (List D)) >>= fun ds => G x ds) σ H fun d φ' H' => ∀ v, RV X.K H' φ' v d → Q v H' := q
    obtain ⟨φ, ρ, st, re, rs, p⟩ := q'
    exact ⟨φ, st, [], rs, .nil, p⟩
  | cons e r =>
    obtain ⟨h1, h2⟩ := hs e r rfl
    exact toE (pe_callG F hr g.gd g.tk (g.glo hx) hm hk hb ha hd h1 h2) fun σ H Q q => to_sp q
theorem mapM_rel {α β : Type} {R : α → β → Prop} {f : Nat → Option α} {h : Nat → Option β} (hr : ∀ j a, f j = some a → ∃ b, h j = some b ∧ R a b) :
    ∀ (l : List Nat) (xs : List α), l.mapM f = some xs → ∃ ys, l.mapM h = some ys ∧ Paired R xs ys
  | [], xs, e => by
    simp at e
    subst e
    exact ⟨[], by simp, .nil⟩
  | j :: l, xs, e => by
    simp only [List.mapM_cons, Option.bind_eq_bind, Option.bind_eq_some_iff, Option.pure_def, Option.some.injEq] at e
    obtain ⟨a, ha, as, has, rfl⟩ := e
    obtain ⟨b, hb, rb⟩ := hr j a ha
    obtain ⟨bs, hbs, rbs⟩ := mapM_rel hr l as has
    exact ⟨b :: bs, by simp [hb, hbs], .cons rb rbs⟩
theorem Paired.at {α β : Type} {R : α → β → Prop} : ∀ {xs : List α} {ys : List β} {i : Nat} {a : α}, Paired R xs ys → xs[i]? = some a → ∃ b, ys[i]? = some b ∧ R a b
  | _, _, _, _, .nil, h => by simp at h
  | _, _, 0, _, .cons r _, h => by
    simp at h
    subst h
    exact ⟨_, rfl, r⟩
  | _, _, i + 1, a, .cons _ t, h => by
    obtain ⟨b, h1, h2⟩ := Paired.at (i := i) (a := a) t (by simpa using h)
    exact ⟨b, by simpa using h1, h2⟩
theorem Paired.look {α β : Type} {R : α → β → Prop} {j : Nat} : ∀ {ks : List Nat} {xs : List α} {ys : List β} {a : α}, Paired R xs ys → (ks.zip xs).lookup j = some a → ∃ b, (ks.zip ys).lookup j = some b ∧ R a b
  | [], _, _, _, _, h => by simp at h
  | k :: ks, _, _, _, .nil, h => by simp at h
  | k :: ks, _, _, a, .cons r t, h => by
    simp only [List.zip_cons_cons, List.lookup_cons] at h ⊢
    by_cases e : (j == k) = true
    · rw [e] at h ⊢
      cases h
      exact ⟨_, rfl, r⟩
    · rw [Bool.eq_false_iff.mpr e] at h ⊢
      exact Paired.look t h
theorem permG_rel {α β : Type} {R : α → β → Prop} {n m : Nat} {ks : List Nat} {us zs : List α} {us' zs' : List β} {xs : List α} (r1 : Paired R us us') (r2 : Paired R zs zs') (h : permG n m ks us zs = some xs) :
    ∃ ys, permG n m ks us' zs' = some ys ∧ Paired R xs ys := by
  unfold permG at h ⊢
  split at h
  · rename_i hl
    rw [if_pos (by rw [← Paired.length r1, ← Paired.length r2]; exact hl)]
    refine mapM_rel (fun j a ha => ?_) _ _ h
    by_cases hj : j < m
    · rw [if_pos hj] at ha ⊢
      exact Paired.at r1 ha
    · rw [if_neg hj] at ha ⊢
      exact Paired.look r2 ha
  · cases h
theorem rvs_paired {K : PySem.W.Frag} {H : Hp} {φ : List Addr} : ∀ {vs : List V} {ds : List D}, RVs K H φ vs ds → Paired (fun d v => RV K H φ v d) ds vs
  | _, _, .nil => .nil
  | _, _, .cons r t => .cons r (rvs_paired t)
theorem paired_rvs {K : PySem.W.Frag} {H : Hp} {φ : List Addr} : ∀ {vs : List V} {ds : List D}, Paired (fun d v => RV K H φ v d) ds vs → RVs K H φ vs ds
  | _, _, .nil => .nil
  | _, _, .cons r t => .cons r (paired_rvs t)
theorem mapM_len {α : Type} {f : Nat → Option α} : ∀ (l : List Nat) (xs : List α), l.mapM f = some xs → xs.length = l.length
  | [], xs, e => by
    simp at e
    subst e
    rfl
  | j :: l, xs, e => by
    simp only [List.mapM_cons, Option.bind_eq_bind, Option.bind_eq_some_iff, Option.pure_def, Option.some.injEq] at e
    obtain ⟨a, _, as, has, rfl⟩ := e
    rw [List.length_cons, mapM_len l as has, List.length_cons]
theorem permG_len {α : Type} {n m : Nat} {ks : List Nat} {us zs xs : List α} (h : permG n m ks us zs = some xs) : xs.length = n := by
  unfold permG at h
  split at h
  · rw [mapM_len _ _ h, List.length_range]
  · cases h
theorem ks_names {ps : List Str} : ∀ {kws : List Keyword} {is : List Nat}, ksOf ps kws = some is → (kwNames kws).mapM (fun y => ps.idxOf? y) = some is ∧
    ∀ (pos : Pos) (env : PySem.Env), (backToKw pos (keywordEach kws env)).all (·.1.isSome) = true ∧ (backToKw pos (keywordEach kws env)).filterMap (·.1) = kwNames kws ∧ (backToKw pos (keywordEach kws env)).any (·.1.isNone) = false
  | [], is, h => by
    cases h
    exact ⟨rfl, fun _ _ => ⟨rfl, rfl, rfl⟩⟩
  | ⟨none, _, _⟩ :: r, is, h => by cases h
  | ⟨some x, v, p⟩ :: r, is, h => by
    unfold ksOf at h
    split at h
    · rename_i i js h1 h2
      cases h
      obtain ⟨e1, e2⟩ := ks_names h2
      refine ⟨?_, fun pos env => ?_⟩
      · show (x :: kwNames r).mapM _ = _
        simp [h1, e1]
      · obtain ⟨a1, a2, a3⟩ := e2 pos env
        refine ⟨?_, ?_, ?_⟩
        · show (true && (backToKw pos (keywordEach r env)).all (·.1.isSome)) = true
          rw [a1]
          rfl
        · show x :: (backToKw pos (keywordEach r env)).filterMap (·.1) = x :: kwNames r
          rw [a2]
        · show (false || (backToKw pos (keywordEach r env)).any (·.1.isNone)) = false
          rw [a3]
          rfl
    · cases h
theorem e_callK (g : Good T G XR N W sc X) {x : Str} {p pos : Pos} {es : List Expr} {kws : List Keyword} {ms zs : Exs} {ps : List Str} {is : List Nat} (hne : kws ≠ []) (hx : isGlo sc x = true) (hf : T.fns.lookup x = some ps) (hk' : ksOf ps kws = some is)
    (hin : (x, es.length, kwNames kws) ∈ T.kws) (ha : PA X es (tA XR G X.K W ms)) (hz : PK X kws (tA XR G X.K W zs))
    (hs : ∀ e r, es = e :: r → starEach es X.env = (false, eval e X.env) :: starEach r X.env ∧ (backTo pos (starEach r X.env)).any (·.1) = false) (hn : es = [] → ms = .nil) :
    PE X (.Call (.Name x p) es kws pos) (tE XR G X.K W (.callK x ps.length es.length is ms zs)) := by
  obtain ⟨hd, k, f, fd, F, hr, hm, hk, hb, hkb⟩ := g.fn x ps hf
  obtain ⟨e1, e2⟩ := ks_names hk'
  obtain ⟨a1, a2, a3⟩ := e2 pos X.env
  have B : KBinds X.K fd ps (kwNames kws) (fun us ws => (permG ps.length es.length is us ws).getD []) (fun us ws => (permG ps.length es.length is us ws).getD []) := by
    refine ⟨fun s us ws _ hl => ?_, fun {vs us zs ws} r1 r2 => ?_⟩
    · cases e : permG ps.length es.length is us ws with
      | some xs =>
        refine .of_eq ?_
        show bindArgs fd ⟨us, _⟩ = pure (ps.zip xs)
        exact hkb _ _ _ hin e1 us ws xs e
      | none =>
        rw [e] at hl
        have hl' : 0 = ps.length := hl
        have : ps = [] := List.length_eq_zero_iff.mp hl'.symm
        subst this
        exfalso
        cases kws with
        | nil => exact hne rfl
        | cons kw r =>
          obtain ⟨nm, v, q⟩ := kw
          cases nm with
          | none => cases hk'
          | some y =>
            unfold ksOf at hk'
            simp [List.idxOf?] at hk'
    · cases e : permG ps.length es.length is vs zs with
      | some xs =>
        obtain ⟨ys, h1, h2⟩ := permG_rel r1 r2 e
        show Vals xs ((permG ps.length es.length is us ws).getD [])
        rw [h1]
        exact h2
      | none =>
        cases e2 : permG ps.length es.length is us ws with
        | none => exact .nil
        | some ys =>
          exfalso
          unfold permG at e e2
          have l1 := Paired.length r1
          have l2 := Paired.length r2
          split at e2
          · rename_i hl
            rw [if_pos (by rw [l1, l2]; exact hl)] at e
            have back : ∀ {xs : List V} {us : List Value}, Vals xs us → Paired (fun (u : Value) (v : V) => RelV v u) us xs := fun r => by
              induction r with
              | nil => exact .nil
              | cons r _ ih => exact .cons r ih
            obtain ⟨zs', h1, _⟩ := mapM_rel (R := fun (u : Value) (v : V) => RelV v u) (h := fun j => if j < es.length then vs[j]? else (is.zip zs).lookup j) (fun j a hj => by
              by_cases hh : j < es.length
              · rw [if_pos hh] at hj ⊢
                exact Paired.at (back r1) hj
              · rw [if_neg hh] at hj ⊢
                exact Paired.look (back r2) hj) _ _ e2
            rw [h1] at e
            cases e
          · cases e2
  have fin : ∀ {σ : L2.St} {H : Hp} {Q : VK}, tE XR G X.K W (.callK x ps.length es.length is ms zs) σ H Q → tA XR G X.K W ms σ H fun vs H1 => tA XR G X.K W zs σ H1 fun ws H2 => spM XR X.K (G x) ((permG ps.length es.length is vs ws).getD []) H2 Q fun c d H' => W c d σ H' := by
    intro σ H Q q
    have q' : tM XR X.K W (fun ρ => evs G ms ρ >>= fun ds => evs G zs ρ >>= fun ws => liftO (permG ps.length es.length is ds ws) >>= fun xs => G x xs) σ H fun d φ' H' => ∀ v, RV X.K H' φ' v d → Q v H' := q
    obtain ⟨φ, ρ, st, re, rs, p⟩ := q'
    refine ⟨φ, ρ, st, re, rs, p.split.mono fun ds φ1 H1 x1 q1 vs rv => ?_⟩
    obtain ⟨st1, rs1, _, p1⟩ := q1
    refine ⟨φ1, ρ, st1, re.ext x1, rs1, p1.split.mono fun ws φ2 H2 x2 q2 us ru => ?_⟩
    obtain ⟨st2, rs2, _, p2⟩ := q2
    cases e : permG ps.length es.length is ds ws with
    | none =>
      have z : (liftO (permG ps.length es.length is ds ws) >>= fun xs => G x xs) st2 = none := by
        rw [e]
        rfl
      rw [z] at p2
      exact p2.elim
    | some xs =>
      have z : (liftO (permG ps.length es.length is ds ws) >>= fun xs => G x xs) st2 = G x xs st2 := by
        rw [e]
        rfl
      rw [z] at p2
      obtain ⟨ys, h1, h2⟩ := permG_rel (rvs_paired (rv.ext x2)) (rvs_paired ru) e
      rw [h1]
      exact ⟨φ2, st2, xs, rs2, paired_rvs h2, p2⟩
  cases es with
  | nil =>
    have e : ms = .nil := hn rfl
    subst e
    refine toE (pe_callKG0 F hr g.gd g.tk (g.glo hx) hm hk B hz a1 a2 hd (by rw [a3]; rfl)) fun σ H Q q => ?_
    obtain ⟨φ, ρ, st, re, rs, p⟩ := fin q
    obtain ⟨φ2, ρ2, st2, re2, rs2, p2⟩ := Post.pure rs p [] .nil
    exact ⟨φ2, ρ2, st2, re2, rs2, p2⟩
  | cons e r =>
    obtain ⟨h1, h2⟩ := hs e r rfl
    exact toE (pe_callKG F hr g.gd g.tk (g.glo hx) hm hk B ha hz a1 a2 hd h1 (by
      rw [h1, a3]
      show ((false || (backTo pos (starEach r X.env)).any (·.1)) || false) = false
      rw [h2]
      rfl)) fun σ H Q q => fin q
theorem e_bi (g : Good T G XR N W sc X) {f : String} {p pos : Pos} {e : Expr} {r : List Expr} {ms : Exs} {x : Str} (hfx : (Str.ofString f == x) = true) (hx : isGlo sc x = true) (hf : f ∈ T.bis) (hr1 : f ≠ "range") (hr2 : f ≠ "enumerate")
    (ha : PA X (e :: r) (tA XR G X.K W ms)) (h1 : starEach (e :: r) X.env = (false, eval e X.env) :: starEach r X.env) (h2 : (backTo pos (starEach r X.env)).any (·.1) = false) :
    PE X (.Call (.Name x p) (e :: r) [] pos) (tE XR G X.K W (.bi f ms)) := by
  have ex : Str.ofString f = x := eq_of_beq hfx
  subst ex
  obtain ⟨b, hb, hk, hc⟩ := bi_ok g.calm g.gd (by have := g.un; omega) f (g.bis f hf hr1 hr2)
  have fin : ∀ {σ : L2.St} {H : Hp} {Q : VK}, tE XR G X.K W (.bi f ms) σ H Q → tCB (rDs X.K (biE f)) (tA XR G X.K W ms) σ H Q := by
    intro σ H Q q
    refine (tM.split (k := fun _ => biE f) q).imp fun ds φ1 H1 z vs rv => ?_
    obtain ⟨ρ, st1, re, rs, p⟩ := z
    exact ⟨_, φ1, st1, ds, rs, rv, p⟩
  obtain ⟨n1, n2⟩ := g.bin f hf
  rcases hk with ⟨id, rfl⟩ | ⟨ty, rfl⟩
  · exact toE (pe_callB hc (g.glo hx) (g.bi f hf) hb ha n1 n2 h1 h2) fun σ H Q q => fin q
  · exact toE (pe_callTy hc (g.glo hx) (g.bi f hf) hb ha n1 n2 h1 h2) fun σ H Q q => fin q
/-- o.append(e) -/
theorem e_append {o e : Expr} {ap cp : Pos} {x : Ex} {ms : Exs} (hl : (ap.endLine == cp.line) = true) (hb : attributeBase o ("append" : Str) X.env (eval o X.env) = eval o X.env)
    (ho : PE X o (tE XR G X.K W x)) (ha : PA X [e] (tA XR G X.K W ms)) (hs : starEach [e] X.env = [(false, eval e X.env)]) :
    PE X (.Call (.Attribute o ("append" : Str) ap) [e] [] cp) (tE XR G X.K W (.met "append" x ms)) :=
  toE (pe_bm PySem.F.plainAttrs_list PySem.F.slot_list_append PySem.F.type_list_append me_append ho ha hb (by rw [hs]; rfl) hl (by rw [hs]; rfl) rfl) fun σ H Q q => by
    have q' : tM XR X.K W (fun ρ => ev G x ρ >>= fun d => metT "append" d >>= fun _ => evs G ms ρ >>= fun ds => metE "append" d ds) σ H fun d φ' H' => ∀ v, RV X.K H' φ' v d → Q v H' := q
    obtain ⟨φ, ρ, st, re, rs, p⟩ := q'
    refine ⟨φ, ρ, st, re, rs, p.split.mono fun d φ1 H1 x1 q1 v rv => ?_⟩
    obtain ⟨st1, rs1, _, p1⟩ := q1
    -- it is a list
    have key : ∃ n xs, d = .obj n ∧ lstAt st1 n = some xs ∧ Post X.K (exW XR W σ) H1 φ1 ((evs G ms ρ >>= fun ds => metE "append" d ds) st1) fun d φ' H' => ∀ v, RV X.K H' φ' v d → Q v H' := by
      cases d with
      | obj n =>
        cases e : lstAt st1 n with
        | none =>
          have z : (metT "append" (.obj n) >>= fun _ => evs G ms ρ >>= fun ds => metE "append" (.obj n) ds) st1 = none := by
            refine bind_non ?_
            show (lstAt st1 n).map (fun _ => R.ok () st1) = none
            rw [e]
            rfl
          rw [z] at p1
          exact p1.elim
        | some xs =>
          have z : (metT "append" (.obj n) >>= fun _ => evs G ms ρ >>= fun ds => metE "append" (.obj n) ds) st1 = (evs G ms ρ >>= fun ds => metE "append" (.obj n) ds) st1 := by
            refine bind_ok (a := ()) ?_
            show (lstAt st1 n).map (fun _ => R.ok () st1) = _
            rw [e]
            rfl
          rw [z] at p1
          exact ⟨n, xs, rfl, e, p1⟩
      | _ => exact p1.elim
    obtain ⟨n, xs, rfl, hn, p2⟩ := key
    obtain ⟨a, us, rfl, hφ, hh, rl⟩ := rv.lst rs1 hn
    refine ⟨.inl ⟨rfl, us, .inl (.inl hh)⟩, φ1, ρ, st1, re.ext x1, rs1, p2.split.mono fun ds φ2 H2 x2 q2 ws rw' => ?_⟩
    obtain ⟨st2, rs2, _, p3⟩ := q2
    exact ⟨_, φ2, st2, .obj n, ds, rs2, rv.ext x2, rw', p3⟩
end
end Mi

set_option maxRecDepth 100000
/-! Mini: comprehensions. -/
namespace Mi
open PySem PySem.Spec PyProof.Rows L2

section
variable {K : PySem.W.Frag} {H H' : Hp} {φ φ' : List Addr}
mutual
theorem RV.imm (x : ∀ a o, H a = some o → Imm o → H' a = some o) : ∀ {v : V} {d : D}, RV K H φ v d → RV K H' φ v d
  | _, _, .non => .non
  | _, _, .bl b => .bl b
  | _, _, .int i => .int i
  | _, _, .str z => .str z
  | _, _, .tup h r => .tup (by
      rcases h with (h | ⟨o, h⟩) | h
      · exact .inl (.inl (x _ _ h trivial))
      · exact .inl (.inr ⟨o, x _ _ h trivial⟩)
      · exact .inr h) (RVs.imm x r)
  | _, _, .frz h r => .frz (by
      rcases h with ⟨o, h⟩ | h
      · exact .inl ⟨o, x _ _ h trivial⟩
      · exact .inr h) (RVs.imm x r)
  | _, _, .obj h => .obj h
theorem RVs.imm (x : ∀ a o, H a = some o → Imm o → H' a = some o) : ∀ {vs : List V} {ds : List D}, RVs K H φ vs ds → RVs K H' φ vs ds
  | _, _, .nil => .nil
  | _, _, .cons r t => .cons (RV.imm x r) (RVs.imm x t)
end
/-- a thing that is no object of the store, and may change, is written -/
theorem imm_off {p : Addr} {o u : HO} (h : H p = some u) (ni : ¬ Imm u) : ∀ a w, H a = some w → Imm w → upd H p o a = some w := fun a w e i => by
  have ne : a ≠ p := fun z => by
    rw [z, h] at e
    cases e
    exact ni i
  rw [upd_ne ne]
  exact e
theorem RS.off {st : Sto} {p : Addr} {o u : HO} (s : RS K H φ st) (h : H p = some u) (ni : ¬ Imm u) (np : p ∉ φ) : RS K (upd H p o) φ st :=
  ⟨s.nd, s.len, fun n ob e => by
    obtain ⟨a, ha, r⟩ := s.obj n ob e
    refine ⟨a, ha, ?_⟩
    have ne : a ≠ p := fun z => np (z ▸ List.mem_of_getElem? ha)
    cases ob with
    | lst ds =>
      obtain ⟨vs, h1, h2⟩ := r
      exact ⟨vs, by rw [upd_ne ne]; exact h1, h2.imm (imm_off h ni)⟩
    | dic _ => exact r⟩
theorem Ext.off {p : Addr} {o : HO} (x : Ext H φ H' φ') (n : H p = none) : Ext H φ (upd H' p o) φ' := by
  have ne : ∀ a u, H a = some u → a ≠ p := fun a u e => ne_of_none e n
  refine ⟨fun a u e i => ?_, fun a u e m => ?_, fun a u e => ?_, x.pre⟩
  · rw [upd_ne (ne a u e)]
    exact x.imm a u e i
  · rw [upd_ne (ne a u e)]
    exact x.keep a u e m
  · rw [upd_ne (ne a u e)]
    exact x.there a u e
/-- .. the new list becomes an object of the store -/
theorem Ext.join {p : Addr} (x : Ext H φ H' φ') (n : H p = none) : Ext H φ H' (φ' ++ [p]) := by
  obtain ⟨new, e, f⟩ := x.pre
  exact ⟨x.imm, x.keep, x.there, new ++ [p], by rw [e, List.append_assoc], fun a ha => by
    rcases List.mem_append.mp ha with z | z
    · exact f a z
    · have e : a = p := by simpa using z
      rw [e]
      exact n⟩
theorem Ext.notNew {p : Addr} {u : HO} (x : Ext H φ H' φ') (h : H p = some u) (n : p ∉ φ) : p ∉ φ' := fun m => by
  obtain ⟨new, e, f⟩ := x.pre
  rw [e] at m
  rcases List.mem_append.mp m with z | z
  · exact n z
  · rw [f p z] at h
    cases h
/-- from φ to φ ++ [p] at the same heap -/
theorem RVs.join {p : Addr} {vs : List V} {ds : List D} (r : RVs K H φ vs ds) : RVs K H (φ ++ [p]) vs ds := by
  have hat : ∀ (n : Nat) (a : Addr), φ[n]? = some a → (φ ++ [p])[n]? = some a := fun n a e => by
    rw [List.getElem?_append_left (List.getElem?_eq_some_iff.mp e).1]
    exact e
  have go1 : (∀ {v : V} {d : D}, RV K H φ v d → RV K H (φ ++ [p]) v d) ∧ (∀ {vs : List V} {ds : List D}, RVs K H φ vs ds → RVs K H (φ ++ [p]) vs ds) := by
    refine ⟨fun {v d} r => ?_, fun {vs ds} r => ?_⟩
    · exact RV.rec (motive_1 := fun v d _ => RV K H (φ ++ [p]) v d) (motive_2 := fun vs ds _ => RVs K H (φ ++ [p]) vs ds)
        .non (fun b => .bl b) (fun i => .int i) (fun x => .str x) (fun h _ ih => .tup h ih) (fun h _ ih => .frz h ih) (fun h => .obj (hat _ _ h)) .nil (fun _ _ i1 i2 => .cons i1 i2) r
    · exact RVs.rec (motive_1 := fun v d _ => RV K H (φ ++ [p]) v d) (motive_2 := fun vs ds _ => RVs K H (φ ++ [p]) vs ds)
        .non (fun b => .bl b) (fun i => .int i) (fun x => .str x) (fun h _ ih => .tup h ih) (fun h _ ih => .frz h ih) (fun h => .obj (hat _ _ h)) .nil (fun _ _ i1 i2 => .cons i1 i2) r
  exact go1.2 r
theorem RS.join {st : Sto} {p : Addr} {vs : List V} {ds : List D} (s : RS K H φ st) (np : p ∉ φ) (h : H p = some (.lst vs)) (r : RVs K H φ vs ds) : RS K H (φ ++ [p]) (st ++ [.lst ds]) := by
  refine ⟨?_, by simp [s.len], fun n o' e => ?_⟩
  · rw [List.nodup_append]
    exact ⟨s.nd, by simp, fun a ha b hb => by
      have e : b = p := by simpa using hb
      rw [e]
      intro z
      exact np (z ▸ ha)⟩
  · by_cases hn : n < st.length
    · rw [List.getElem?_append_left hn] at e
      obtain ⟨a, ha, r'⟩ := s.obj n o' e
      refine ⟨a, by rw [List.getElem?_append_left (by rw [s.len]; exact hn)]; exact ha, ?_⟩
      cases o' with
      | lst ds' =>
        obtain ⟨ws, h1, h2⟩ := r'
        exact ⟨ws, h1, h2.join⟩
      | dic _ => exact r'
    · have hl : n = st.length := by
        have := (List.getElem?_eq_some_iff.mp e).1
        rw [List.length_append, List.length_singleton] at this
        omega
      subst hl
      rw [List.getElem?_append_right (Nat.le_refl _), Nat.sub_self] at e
      cases e
      exact ⟨p, by rw [List.getElem?_append_right (by rw [s.len]; exact Nat.le_refl _), s.len, Nat.sub_self]; rfl, vs, h, r.join⟩
end

/-! ### targets -/
def gsOf : List Nat → TGs
  | [] => gNil
  | i :: is => gCons (gName i) (gsOf is)
def gOf (K : PySem.W.Frag) : Tg → TG
  | .nm i => gName i
  | .tup is => gTup K is.length (gsOf is)
theorem gs_read : ∀ (is : List Nat) (vs : List V) (σ : L2.St) (H : Hp) (Q : L2.St → Hp → Prop), is.length = vs.length → Q ((is.zip vs).foldl (fun r p => r.set p.1 (some p.2)) σ) H → gsOf is vs σ H Q
  | [], [], σ, H, Q, _, q => ⟨rfl, q⟩
  | i :: is, v :: vs, σ, H, Q, h, q => ⟨v, vs, rfl, gs_read is vs (σ.set i (some v)) H Q (by simpa using h) q⟩
  | [], v :: vs, _, _, _, h, _ => by simp at h
  | i :: is, [], _, _, _, h, _ => by simp at h
theorem RE.sets {K : PySem.W.Frag} {H : Hp} {φ : List Addr} : ∀ (is : List Nat) {vs : List V} {ds : List D} {σ : L2.St} {ρ : Env}, RE K σ H φ ρ → RVs K H φ vs ds →
    RE K ((is.zip vs).foldl (fun r p => r.set p.1 (some p.2)) σ) H φ ((is.zip ds).foldl (fun r p => r.set p.1 (some p.2)) ρ)
  | [], _, _, _, _, re, _ => re
  | i :: is, _, _, _, _, re, .nil => re
  | i :: is, _, _, _, _, re, .cons r t => RE.sets is (re.set r i) t
theorem wipe_get {σ : L2.St} {j : Nat} : ∀ (vs : List Nat), (L2.wipe σ vs)[j]? = if j ∈ vs then (σ[j]?).map (fun _ => none) else σ[j]?
  | [] => by simp [L2.wipe]
  | v :: vs => by
    show ((L2.wipe σ vs).set v none)[j]? = _
    by_cases h : j = v
    · subst h
      rw [if_pos List.mem_cons_self]
      by_cases hl : j < σ.length
      · rw [List.getElem?_set_self (by rw [wipe_length]; exact hl), List.getElem?_eq_getElem hl]
        rfl
      · rw [List.getElem?_eq_none (by rw [List.length_set, wipe_length]; omega), List.getElem?_eq_none (by omega)]
        rfl
    · rw [List.getElem?_set_ne (Ne.symm h), wipe_get vs]
      simp [h]
theorem wipe_set {σ : L2.St} {vs : List Nat} {i : Nat} {x : Option V} (h : i ∈ vs) : L2.wipe (σ.set i x) vs = L2.wipe σ vs := by
  apply List.ext_getElem?
  intro j
  rw [wipe_get, wipe_get]
  by_cases hj : j ∈ vs
  · rw [if_pos hj, if_pos hj]
    by_cases e : j = i
    · subst e
      by_cases hl : j < σ.length
      · rw [List.getElem?_set_self hl, List.getElem?_eq_getElem hl]
        rfl
      · rw [List.getElem?_eq_none (by rw [List.length_set]; omega), List.getElem?_eq_none (by omega)]
    · rw [List.getElem?_set_ne (Ne.symm e)]
  · rw [if_neg hj, if_neg hj, List.getElem?_set_ne]
    intro e
    exact hj (e ▸ h)
theorem wipe_sets {own : List Nat} : ∀ (is : List Nat) (vs : List V) (σ : L2.St), (∀ i ∈ is, i ∈ own) → L2.wipe ((is.zip vs).foldl (fun r p => r.set p.1 (some p.2)) σ) own = L2.wipe σ own
  | [], _, _, _ => rfl
  | i :: is, [], _, _ => rfl
  | i :: is, v :: vs, σ, h => by
    show L2.wipe ((is.zip vs).foldl _ (σ.set i (some v))) own = _
    rw [wipe_sets is vs _ fun j hj => h j (List.mem_cons_of_mem _ hj), wipe_set (h i List.mem_cons_self)]
/-- a target's assignment -/
theorem g_read {K : PySem.W.Frag} {H : Hp} {φ : List Addr} {t : Tg} {d : D} {v : V} {σ : L2.St} {ρ ρ' : Env} {Q : L2.St → Hp → Prop} (h : asgTg t d ρ = some ρ') (re : RE K σ H φ ρ) (rv : RV K H φ v d)
    (q : ∀ σ', RE K σ' H φ ρ' → (∀ own, tgIn own t = true → L2.wipe σ' own = L2.wipe σ own) → Q σ' H) : gOf K t v σ H Q := by
  cases t with
  | nm i =>
    cases h
    exact q _ (re.set rv i) fun own ho => wipe_set (by simpa [tgIn] using ho)
  | tup is =>
    cases d with
    | tup ds =>
      have h' : (if is.length = ds.length then some ((is.zip ds).foldl (fun r p => r.set p.1 (some p.2)) ρ) else none) = some ρ' := h
      split at h'
      · rename_i hl
        cases h'
        cases rv with
        | tup hs r =>
          refine ⟨_, _, rfl, hs, by rw [r.length]; exact hl.symm, gs_read is _ σ H Q (by rw [r.length]; exact hl) (q _ (RE.sets is re r) fun own ho => wipe_sets is _ σ fun i hi => ?_)⟩
          have := List.all_eq_true.mp (show is.all own.contains = true from ho) i hi
          simpa using this
      · cases h'
    | _ => cases h

/-! ### sources -/
section
variable {T : TC} {G : Fs} {XR : XRT} {N : List Str} {W : WX} {sc : Scope} {X : Cx} {tg : Expr}
theorem walk_only {d : D} {st : Sto} {r : R Wk} (h : walkOf d st = some r) : ∃ w, r = .ok w st := by
  cases d with
  | tup _ => cases h; exact ⟨_, rfl⟩
  | frz _ => cases h; exact ⟨_, rfl⟩
  | obj n =>
    obtain ⟨xs, e, h2⟩ := Option.map_eq_some_iff.mp (show (lstAt st n).map (fun xs => R.ok (⟨xs, some (n, xs)⟩ : Wk) st) = some r from h)
    exact ⟨_, h2.symm⟩
  | _ => cases h
theorem s_seq {e : Expr} {x : Ex} (he : PE X e (tE XR G X.K W x)) : PI X tg e (tI XR G X.K W (.seq x)) :=
  toI (pi_seq he) fun σ H R q => by
    refine (tM.split (k := fun _ => walkOf) q).imp fun d φ1 H1 z v rv => ?_
    obtain ⟨ρ, st1, re, rs, p⟩ := z
    cases e : walkOf d st1 with
    | none => rw [e] at p; exact p.elim
    | some r =>
      obtain ⟨w, rfl⟩ := walk_only e
      obtain ⟨_, a, rfl, h⟩ := walk_of rs e rv
      rw [e] at p
      have p' := p φ1 H1 (Ext.refl _ _) rs
      refine ⟨a, rfl, ?_⟩
      rcases h with ⟨h1, h2, _⟩ | ⟨h1, h2, _⟩
      · exact .inl ⟨h1, p' _ h2⟩
      · exact .inr ⟨h1, p' _ h2⟩
theorem s_enum (g : Good T G XR N W sc X) {elts : List Expr} {kk : Nat} {tpos p pos : Pos} {e : Expr} {x : Ex} (hx : isGlo sc (Str.ofString "enumerate") = true) (hb : "enumerate" ∈ T.bis) (he : PE X e (tE XR G X.K W x)) (hs : starEach [e] X.env = [(false, eval e X.env)]) :
    PI X (.Tuple elts kk tpos) (.Call (.Name "enumerate" p) [e] [] pos) (tI XR G X.K W (.enum x)) :=
  toI (pi_enumA (g.glo hx) (g.bi _ hb) he hs) fun σ H R q => by
    refine (tM.split (k := fun _ d => walkOf d >>= fun w => (pure (wkEnum w) : M Wk)) q).imp fun d φ1 H1 z v rv => ?_
    obtain ⟨ρ, st1, re, rs, p⟩ := z
    cases e : walkOf d st1 with
    | none => rw [bind_non e] at p; exact p.elim
    | some r =>
      obtain ⟨w, rfl⟩ := walk_only e
      obtain ⟨_, a, rfl, h⟩ := walk_of rs e rv
      rw [bind_ok e] at p
      have p' := Post.pure rs p
      refine ⟨a, rfl, ?_⟩
      rcases h with ⟨h1, _, h2⟩ | ⟨h1, _, h2⟩
      · exact .inl ⟨h1, p' _ h2⟩
      · exact .inr ⟨h1, p' _ h2⟩
theorem r62_ok {i : Int} (h : r62 i = true) : -(2 ^ 62) ≤ i ∧ i < 2 ^ 62 := of_decide_eq_true h
theorem s_range1 (g : Good T G XR N W sc X) {p pos : Pos} {b : Expr} {y : Ex} (hx : isGlo sc (Str.ofString "range") = true) (hr : "range" ∈ T.bis) (hb : PE X b (tE XR G X.K W y)) (hs : starEach [b] X.env = [(false, eval b X.env)]) :
    PI X tg (.Call (.Name "range" p) [b] [] pos) (tI XR G X.K W (.range1 y)) :=
  toI (pi_range1 (g.glo hx) (g.bi _ hr) (pa_cons hb pa_nil (by rw [hs]; rfl)) hs) fun σ H R q => by
    refine (tM.split (k := fun _ y => rangeOf [y]) q).imp fun d φ1 H1 z v rv => ?_
    obtain ⟨ρ, st1, re, rs, p⟩ := z
    unfold rangeOf at p
    split at p
    · rename_i j e
      cases e
      split at p
      · rename_i hj
        cases rv
        obtain ⟨h1, h2⟩ := r62_ok hj
        exact ⟨j, rfl, h1, h2, p φ1 H1 (Ext.refl _ _) rs _ (wk_range 0 _)⟩
      · exact p.elim
    · rename_i e
      cases e
    · exact p.elim
theorem s_range2 (g : Good T G XR N W sc X) {p pos : Pos} {a b : Expr} {x y : Ex} (hx : isGlo sc (Str.ofString "range") = true) (hr : "range" ∈ T.bis) (ha : PE X a (tE XR G X.K W x)) (hb : PE X b (tE XR G X.K W y))
    (hs : ∀ r, starEach (a :: r) X.env = (false, eval a X.env) :: starEach r X.env) (hs2 : starEach [b] X.env = [(false, eval b X.env)]) :
    PI X tg (.Call (.Name "range" p) [a, b] [] pos) (tI XR G X.K W (.range2 x y)) :=
  toI (pi_range2 (g.glo hx) (g.bi _ hr) (pa_cons ha (pa_cons hb pa_nil (by rw [hs2]; rfl)) (hs _)) (by rw [hs, hs2]) hs2) fun σ H R q => by
    have q' : tM XR X.K W (fun ρ => ev G x ρ >>= fun u => ev G y ρ >>= fun w => rangeOf [u, w]) σ H fun w φ' H' => ∀ J, WkJ X.K w H' φ' J → R J H' := q
    obtain ⟨φ, ρ, st, re, rs, p⟩ := q'
    refine ⟨φ, ρ, st, re, rs, p.split.mono fun u φ1 H1 x1 q1 v rv => ?_⟩
    obtain ⟨st1, rs1, _, p1⟩ := q1
    refine ⟨φ1, ρ, st1, re.ext x1, rs1, p1.split.mono fun w φ2 H2 x2 q2 v2 rv2 => ?_⟩
    obtain ⟨st2, rs2, _, p2⟩ := q2
    unfold rangeOf at p2
    split at p2
    · rename_i e
      cases e
    · rename_i i j e
      cases e
      split at p2
      · rename_i hj
        cases rv
        cases rv2
        have hj' := Bool.and_eq_true_iff.mp hj
        exact ⟨i, j, rfl, ⟨(r62_ok hj'.1).1, (r62_ok hj'.1).2, (r62_ok hj'.2).1, (r62_ok hj'.2).2⟩, p2 φ2 H2 (Ext.refl _ _) rs2 _ (wk_range i _)⟩
      · exact p2.elim
    · exact p2.elim
end

/-! ### a comprehension's turns -/
/-- the tests -/
def tTs (XR : XRT) (G : Fs) (K : PySem.W.Frag) (W : WX) (fs : Exs) : TT := fun σ H Q => tM XR K W (evTs G fs) σ H fun b _ H' => Q b H'
abbrev WF : WX := fun _ _ _ _ => False
def turnOf (G : Fs) (own : List Nat) (t : Tg) (fs : Exs) (x : Ex) (ρ : Env) (d : D) : M (Option D) :=
  noX (liftO (asgTg t d (wipeE ρ own)) >>= fun ρ' => evTs G fs ρ' >>= fun b => if b then ev G x ρ' >>= fun y => pure (some y) else pure none)
theorem Post.of_ok {α : Type} {K : PySem.W.Frag} {XX : Str → D → List Addr → Hp → Prop} {H : Hp} {φ : List Addr} {r : Option (R α)} {a : α} {st : Sto} {Q : α → List Addr → Hp → Prop} (e : r = some (.ok a st)) (q : ∀ φ' H', Ext H φ H' φ' → RS K H' φ' st → Q a φ' H') : Post K XX H φ r Q := by
  rw [e]
  exact q
theorem Post.ok_of {α : Type} {K : PySem.W.Frag} {XX : Str → D → List Addr → Hp → Prop} {H : Hp} {φ : List Addr} {r : Option (R α)} {a : α} {st : Sto} {Q : α → List Addr → Hp → Prop} (e : r = some (.ok a st)) (p : Post K XX H φ r Q) : ∀ φ' H', Ext H φ H' φ' → RS K H' φ' st → Q a φ' H' := by
  rw [e] at p
  exact p
/-- a turn that is not stuck -/
theorem turn_cases {G : Fs} {own : List Nat} {t : Tg} {fs : Exs} {x : Ex} {ρ : Env} {d : D} {st : Sto} {r : R (Option D)} (h : turnOf G own t fs x ρ d st = some r) :
    ∃ ρ' b st3, asgTg t d (wipeE ρ own) = some ρ' ∧ evTs G fs ρ' st = some (.ok b st3) ∧ ((b = false ∧ r = .ok none st3) ∨ ∃ y st4, b = true ∧ ev G x ρ' st3 = some (.ok y st4) ∧ r = .ok (some y) st4) := by
  unfold turnOf noX at h
  cases e0 : asgTg t d (wipeE ρ own) with
  | none =>
    rw [e0] at h
    cases h
  | some ρ' =>
    rw [e0] at h
    have hz : (liftO (some ρ') >>= fun ρ' => evTs G fs ρ' >>= fun b => if b then ev G x ρ' >>= fun y => (pure (some y) : M (Option D)) else pure none) st = (evTs G fs ρ' >>= fun b => if b then ev G x ρ' >>= fun y => (pure (some y) : M (Option D)) else pure none) st := rfl
    rw [hz] at h
    cases e1 : evTs G fs ρ' st with
    | none =>
      rw [bind_non e1] at h
      cases h
    | some q =>
      cases q with
      | exc c w s =>
        rw [bind_exc e1] at h
        cases h
      | ok b st3 =>
        rw [bind_ok e1] at h
        refine ⟨ρ', b, st3, rfl, e1, ?_⟩
        cases b with
        | false =>
          cases h
          exact .inl ⟨rfl, rfl⟩
        | true =>
          cases e2 : ev G x ρ' st3 with
          | none =>
            rw [if_pos rfl, bind_non e2] at h
            cases h
          | some q2 =>
            cases q2 with
            | exc c w s =>
              rw [if_pos rfl, bind_exc e2] at h
              cases h
            | ok y st4 =>
              rw [if_pos rfl, bind_ok e2] at h
              cases h
              exact .inr ⟨y, st4, rfl, rfl, rfl⟩
/-- a comprehension's reading -/
theorem lc_read {G : Fs} {XR : XRT} {K : PySem.W.Frag} {W : WX} {own : List Nat} {t : Tg} {it : Src} {fs : Exs} {x : Ex} {σ : L2.St} {H : Hp} {Q : VK} (hin : tgIn own t = true) (q : tE XR G K W (.comp own t it fs x) σ H Q) :
    tLc (tI XR G K W it) (gOf K t) (tTs XR G K WF fs) (tE XR G K WF x) own σ H Q := by
  have q' : tM XR K W (fun ρ => evSrc G it ρ >>= fun w => compL w (turnOf G own t fs x ρ) w.items [] >>= fun xs => newL xs) σ H fun d φ' H' => ∀ v, RV K H' φ' v d → Q v H' := q
  refine (tM.split q').imp fun w φ1 H1 z J wj Dd hD => ?_
  obtain ⟨ρ, st1, re, rs, p⟩ := z
  refine ⟨fun i m Hc => m = w.items.length - i ∧ i ≤ w.items.length ∧ ∃ φi sti vs acc, Ext H1 φ1 Hc φi ∧ RS K Hc φi sti ∧ Dd ∉ φi ∧ Hc Dd = some (.lst vs) ∧ RVs K Hc φi vs acc ∧
    Post K (exW XR W σ) H1 φ1 ((compL w (turnOf G own t fs x ρ) (w.items.drop i) acc >>= fun xs => newL xs) sti) (fun d φ' H' => ∀ v, RV K H' φ' v d → Q v H'),
    ⟨w.items.length, rfl, Nat.zero_le _, φ1, st1, [], [], Ext.new rs hD, rs.new hD, rs.notMem hD, upd_same, .nil, p⟩, ?_⟩
  rintro i m Hc ⟨rfl, hi, φi, sti, vs, acc, ex, rsi, nD, hl, rv, pi⟩
  by_cases hlt : i < w.items.length
  · have ed : w.items.drop i = w.items[i] :: w.items.drop (i + 1) := List.drop_eq_getElem_cons hlt
    rw [ed] at pi
    have hok : w.ok sti = true := by
      cases e : w.ok sti with
      | true => rfl
      | false =>
        have z : compL w (turnOf G own t fs x ρ) (w.items[i] :: w.items.drop (i + 1)) acc sti = none := by
          unfold compL
          rw [e]
          rfl
        rw [bind_non z] at pi
        exact pi.elim
    have ez : compL w (turnOf G own t fs x ρ) (w.items[i] :: w.items.drop (i + 1)) acc sti = (turnOf G own t fs x ρ w.items[i] >>= fun o => match o with
        | some x' => fun s' => if acc.length < 16777216 then compL w (turnOf G own t fs x ρ) (w.items.drop (i + 1)) (acc ++ [x']) s' else none
        | none => compL w (turnOf G own t fs x ρ) (w.items.drop (i + 1)) acc) sti := by
      conv => lhs; unfold compL
      rw [hok]
      rfl
    obtain ⟨hgo, hy⟩ := wj.go φi Hc sti i w.items[i] ex rsi hok (List.getElem?_eq_getElem hlt)
    cases et : turnOf G own t fs x ρ w.items[i] sti with
    | none =>
      rw [bind_non et] at ez
      rw [bind_non ez] at pi
      exact pi.elim
    | some r =>
      obtain ⟨ρ', b, st3, h1, h2, h3⟩ := turn_cases et
      refine .inr ⟨hgo, fun Hn => i + 1 ≤ w.items.length ∧ ∃ φi sti vs acc, Ext H1 φ1 Hn φi ∧ RS K Hn φi sti ∧ Dd ∉ φi ∧ Hn Dd = some (.lst vs) ∧ RVs K Hn φi vs acc ∧
        Post K (exW XR W σ) H1 φ1 ((compL w (turnOf G own t fs x ρ) (w.items.drop (i + 1)) acc >>= fun xs => newL xs) sti) (fun d φ' H' => ∀ v, RV K H' φ' v d → Q v H'), fun Hn hn => ⟨w.items.length - (i + 1), by omega, rfl, hn.1, hn.2⟩, fun y H2 hyl => ?_⟩
      obtain ⟨x2, rs2, rvy⟩ := hy y H2 hyl
      have hl2 : H2 Dd = some (.lst vs) := x2.keep _ _ hl nD
      have rew : RE K (L2.wipe σ own) H2 φi (wipeE ρ own) := (re.ext (ex.trans x2)).wipe own
      refine g_read h1 rew rvy fun σ2 re2 hwp => ⟨?_, ?_⟩
      · have z := hwp own hin
        rw [z]
        apply List.ext_getElem?
        intro j
        rw [wipe_get, wipe_get]
        by_cases hj : j ∈ own
        · rw [if_pos hj, if_pos hj]
          cases σ[j]? <;> rfl
        · rw [if_neg hj]
      · refine ⟨φi, ρ', sti, re2, rs2, Post.of_ok h2 fun φ3 H3 x3 rs3 => ?_⟩
        have hl3 : H3 Dd = some (.lst vs) := x3.keep _ _ hl2 nD
        have nD3 : Dd ∉ φ3 := x3.notNew hl2 nD
        have ex3 : Ext H1 φ1 H3 φ3 := (ex.trans x2).trans x3
        rcases h3 with ⟨rfl, rfl⟩ | ⟨yv, st4, rfl, h4, rfl⟩
        · rw [bind_ok et] at ez
          have e5 : (compL w (turnOf G own t fs x ρ) (w.items[i] :: w.items.drop (i + 1)) acc >>= fun xs => newL xs) sti = (compL w (turnOf G own t fs x ρ) (w.items.drop (i + 1)) acc >>= fun xs => newL xs) st3 := by
            show M.bind _ _ _ = M.bind _ _ _
            unfold M.bind
            rw [ez]
          rw [e5] at pi
          exact ⟨by omega, φ3, st3, vs, acc, ex3, rs3, nD3, hl3, rv.ext (x2.trans x3), pi⟩
        · refine ⟨φ3, ρ', st3, re2.ext x3, rs3, Post.of_ok h4 fun φ4 H4 x4 rs4 v4 rv4 => ?_⟩
          have hl4 : H4 Dd = some (.lst vs) := x4.keep _ _ hl3 nD3
          have nD4 : Dd ∉ φ4 := x4.notNew hl3 nD3
          have ex4 : Ext H1 φ1 H4 φ4 := ex3.trans x4
          have rv4' : RVs K H4 φ4 vs acc := rv.ext ((x2.trans x3).trans x4)
          rw [bind_ok et] at ez
          have hlen : acc.length < 16777216 := by
            by_cases h : acc.length < 16777216
            · exact h
            · have z : compL w (turnOf G own t fs x ρ) (w.items[i] :: w.items.drop (i + 1)) acc sti = none := by
                rw [ez]
                exact if_neg h
              rw [bind_non z] at pi
              exact pi.elim
          have e5 : (compL w (turnOf G own t fs x ρ) (w.items[i] :: w.items.drop (i + 1)) acc >>= fun xs => newL xs) sti = (compL w (turnOf G own t fs x ρ) (w.items.drop (i + 1)) (acc ++ [yv]) >>= fun xs => newL xs) st4 := by
            show M.bind _ _ _ = M.bind _ _ _
            unfold M.bind
            rw [ez]
            dsimp only
            rw [if_pos hlen]
          rw [e5] at pi
          refine ⟨vs, hl4, by rw [rv4'.length, sizeLine_eq]; exact hlen, by omega, φ4, st4, vs ++ [v4], acc ++ [yv], ex4.off hD, rs4.off hl4 id nD4, nD4, upd_same, ?_, pi⟩
          exact (rv4'.append (.cons rv4 .nil)).imm (imm_off hl4 id)
  · have ei : i = w.items.length := by omega
    subst ei
    rw [List.drop_length] at pi
    have hok : w.ok sti = true := by
      cases e : w.ok sti with
      | true => rfl
      | false =>
        have z : compL w (turnOf G own t fs x ρ) [] acc sti = none := by
          unfold compL
          rw [e]
          rfl
        rw [bind_non z] at pi
        exact pi.elim
    have z : compL w (turnOf G own t fs x ρ) [] acc sti = some (.ok acc sti) := by
      unfold compL
      rw [hok]
      rfl
    rw [bind_ok z] at pi
    refine .inl ⟨wj.stop φi Hc sti ex rsi hok, ?_⟩
    unfold newL at pi
    split at pi
    · refine pi (φi ++ [Dd]) Hc (ex.join hD) (rsi.join nD hl rv) _ (.obj ?_)
      exact last_at rsi
    · exact pi.elim
end Mi

set_option maxRecDepth 100000
/-! Mini: what is translated is sound: expressions. -/
namespace Mi
open PySem PySem.Spec PyProof.Rows L2
section
variable {T : TC} {G : Fs} {XR : XRT} {N : List Str}
theorem takes_F {X : Cx} : Takes X WF := fun _ _ h => by
  obtain ⟨_, _, _, _, _, _, _, _, _, _, _, _, _, _, _, _, w⟩ := h
  exact w.elim
theorem Good.blk {W : WX} {sc : Scope} {X : Cx} (g : Good T G XR N W sc X) {scope : Scope} (hk : scope.kind = .function) (s : Shared) (H : Hp) (C : Addr) (cl : List (Str × Addr)) (fp : List Addr) :
    Good T G XR N WF (relS scope sc) (X.blk s H scope (compEnvC scope cl C X.env) fp) :=
  ⟨g.nN, g.nd, g.calm, by rw [← g.sco]; rfl, hk, g.gd, g.un, takes_F, g.bi, g.bin, g.bis, fun x ps h => by
    obtain ⟨hd, k, f, fd, F, r⟩ := g.fn x ps h
    exact ⟨hd, k, f, fd, ⟨F.len, F.run⟩, r⟩⟩
theorem lookup_map {env : PySem.Env} : ∀ (names : List (Str × NameKind)) (x : Str) (k : NameKind), names.lookup x = some k → k ≠ .free →
    (names.map fun (n, k) => if (k == NameKind.free && env.scope.kind == .function && env.kindOf n == some .cell) then (n, NameKind.cell) else (n, k)).lookup x = some k
  | [], _, _, h, _ => by simp at h
  | (y, j) :: r, x, k, h, hk => by
    rw [List.lookup_cons] at h
    rw [List.map_cons]
    by_cases e : (x == y) = true
    · rw [e] at h
      cases h
      have hj : (j == NameKind.free) = false := beq_eq_false_iff_ne.mpr hk
      show List.lookup x ((if (j == NameKind.free && env.scope.kind == .function && env.kindOf y == some .cell) = true then (y, NameKind.cell) else (y, j)) :: _) = some j
      rw [hj, Bool.false_and, Bool.false_and, if_neg Bool.false_ne_true, List.lookup_cons, e]
    · have e' : (x == y) = false := Bool.eq_false_iff.mpr e
      rw [e'] at h
      have ih := lookup_map (env := env) r x k h hk
      show List.lookup x ((if (j == NameKind.free && env.scope.kind == .function && env.kindOf y == some .cell) = true then (y, NameKind.cell) else (y, j)) :: _) = some k
      by_cases hc : (j == NameKind.free && env.scope.kind == .function && env.kindOf y == some .cell) = true
      · rw [if_pos hc, List.lookup_cons, e']
        exact ih
      · rw [if_neg hc, List.lookup_cons, e']
        exact ih
/-- targets: of a def's own names (sc), of a block's (scope) -/
theorem pg_of {X : Cx} (hN : X.N = N) (nd : N.Nodup) (hc : X.calm = true) {sc : Scope} (hl : ∀ x k, sc.names.lookup x = some k → k = .local ∨ k = .cell → Loc X.env.scope x ∧ (X.fn x = true ∨ X.env.scope.names.lookup x = some .local)) :
    ∀ {tg : Expr} {t : Tg}, trTg sc N tg = some t → PG X tg (gOf X.K t) := by
  have one : ∀ {x : Str} {p : Pos} {i : Nat} {k : NameKind}, sc.names.lookup x = some k → (k = .local ∨ k = .cell) → N.idxOf? x = some i → PG X (.Name x p) (gName i) := fun {x p i k} h1 h2 h3 => by
    obtain ⟨a, b⟩ := hl x k h1 h2
    exact pg_name (by rw [hN]; exact nd) (by rw [hN]; exact idx_get N x i h3) a b
  have many : ∀ (es : List Expr) (is : List Nat), tgNames sc N es = some is → PGs X es (gsOf is) ∧ (assignEach es X.env).length = is.length ∧ (assignEach es X.env).findIdx? (·.1) = none := by
    intro es
    induction es with
    | nil =>
      intro is h
      cases h
      exact ⟨pgs_nil, rfl, rfl⟩
    | cons e r ih =>
      intro is h
      cases e with
      | Name x p =>
        unfold tgNames at h
        split at h
        · rename_i i js h1 h2 h3
          cases h
          obtain ⟨a, b, c⟩ := ih js h3
          refine ⟨pgs_cons (one h1 (.inl rfl) h2) a rfl, ?_, ?_⟩
          · show (assignEach r X.env).length + 1 = js.length + 1
            rw [b]
          · show List.findIdx? _ ((false, assign (.Name x p) X.env) :: assignEach r X.env) = none
            rw [List.findIdx?_cons, c]
            rfl
        · rename_i i js h1 h2 h3
          cases h
          obtain ⟨a, b, c⟩ := ih js h3
          refine ⟨pgs_cons (one h1 (.inr rfl) h2) a rfl, ?_, ?_⟩
          · show (assignEach r X.env).length + 1 = js.length + 1
            rw [b]
          · show List.findIdx? _ ((false, assign (.Name x p) X.env) :: assignEach r X.env) = none
            rw [List.findIdx?_cons, c]
            rfl
        · cases h
      | _ => cases h
  intro tg t h
  unfold trTg at h
  split at h
  · split at h
    · rename_i i hi
      cases h
      unfold tgNames at hi
      split at hi
      · rename_i j js h1 h2 h3
        have e : tgNames sc N [] = some [] := rfl
        rw [e] at h3
        cases h3
        cases hi
        exact one h1 (.inl rfl) h2
      · rename_i j js h1 h2 h3
        have e : tgNames sc N [] = some [] := rfl
        rw [e] at h3
        cases h3
        cases hi
        exact one h1 (.inr rfl) h2
      · cases hi
    · cases h
  · obtain ⟨is, h1, rfl⟩ := Option.map_eq_some_iff.mp h
    obtain ⟨a, b, c⟩ := many _ is h1
    exact pg_tup hc a b c
  · cases h
/-- what sndE says of one expression -/
def Snd (T : TC) (G : Fs) (XR : XRT) (N : List Str) (n : Nat) : Prop := ∀ (sc : Scope) (e : Expr) (m : Ex) (X : Cx) (W : WX), Good T G XR N W sc X → trE T N n sc e = some m →
  PE X e (tE XR G X.K W m) ∧ PT X e (tT XR G X.K W m) ∧ ∀ op vs p, e = .BoolOp op vs p → PW X e (tT XR G X.K W m)
section
variable {n : Nat} {W : WX} {sc : Scope} {X : Cx}
theorem Snd.args (ih : Snd T G XR N n) (g : Good T G XR N W sc X) {es : List Expr} {ms : Exs} (h : exsOf (es.map (trE T N n sc)) = some ms) : PA X es (tA XR G X.K W ms) :=
  a_of h fun e _ m hm => ⟨(ih sc e m X W g hm).1, fun r => noStar hm r X.env⟩
theorem Snd.stars {es : List Expr} {ms : Exs} (h : exsOf (es.map (trE T N n sc)) = some ms) (pos : Pos) (X : Cx) :
    (∀ e r, es = e :: r → starEach es X.env = (false, eval e X.env) :: starEach r X.env ∧ (backTo pos (starEach r X.env)).any (·.1) = false) ∧ (es = [] → ms = .nil) := by
  refine ⟨fun e r he => ?_, fun he => ?_⟩
  · subst he
    obtain ⟨x, xs, h1, h2, _⟩ := exsOf_cons h
    exact ⟨noStar h1 r X.env, noStars pos X.env h2⟩
  · subst he
    cases h
    rfl
theorem notSet {e : Expr} {m : Ex} (h : trE T N n sc e = some m) (env : PySem.Env) : ∀ x, foldedSetIterable e env x = pure x := by
  cases n with
  | zero => cases h
  | succ n =>
    intro x
    cases e <;> first
      | rfl
      | cases h
theorem src_ok (ih : Snd T G XR N n) (g : Good T G XR N W sc X) {tg iter : Expr} {it : Src} (h : srcOf T (trE T N n sc) sc tg iter = some it) :
    PI X tg iter (tI XR G X.K W it) ∧ ∀ x, foldedSetIterable iter X.env x = pure x := by
  unfold srcOf at h
  split at h
  · rename_i x p es q
    refine ⟨?_, fun _ => rfl⟩
    split at h
    · rename_i hx
      obtain ⟨h1, h2⟩ := Bool.and_eq_true_iff.mp hx
      have ex := eq_of_beq h1
      subst ex
      split at h
      · rename_i hb
        have hb' : "range" ∈ T.bis := by simpa using hb
        split at h
        · obtain ⟨y, hy, rfl⟩ := Option.map_eq_some_iff.mp h
          exact s_range1 g h2 hb' (ih sc _ y X W g hy).1 (noStar hy [] X.env)
        · split at h
          · rename_i y z hy hz
            cases h
            exact s_range2 g h2 hb' (ih sc _ y X W g hy).1 (ih sc _ z X W g hz).1 (fun r => noStar hy r X.env) (noStar hz [] X.env)
          · cases h
        · cases h
      · cases h
    · split at h
      · rename_i _ hx
        obtain ⟨h1, h2⟩ := Bool.and_eq_true_iff.mp hx
        have ex := eq_of_beq h1
        subst ex
        split at h
        · rename_i hb
          obtain ⟨hb1, hb2⟩ := Bool.and_eq_true_iff.mp hb
          have hb' : "enumerate" ∈ T.bis := by simpa using hb1
          split at h
          · obtain ⟨y, hy, rfl⟩ := Option.map_eq_some_iff.mp h
            cases tg with
            | Tuple elts kk tp => exact s_enum g h2 hb' (ih sc _ y X W g hy).1 (noStar hy [] X.env)
            | _ => cases hb2
          · cases h
        · cases h
      · obtain ⟨y, hy, rfl⟩ := Option.map_eq_some_iff.mp h
        exact s_seq (ih sc _ y X W g hy).1
  · obtain ⟨y, hy, rfl⟩ := Option.map_eq_some_iff.mp h
    exact ⟨s_seq (ih sc _ y X W g hy).1, notSet hy X.env⟩
theorem ts_ok (ih : Snd T G XR N n) (g : Good T G XR N W sc X) {ifs : List Expr} {fs : Exs} (hl : ifs.length ≤ 1) (h : exsOf (ifs.map (trE T N n sc)) = some fs) : PTs X ifs (tTs XR G X.K W fs) := by
  match ifs, hl with
  | [], _ =>
    cases h
    exact ⟨fun pins s σ H Q I q => pts_nil.run pins s σ H Q I (by
      obtain ⟨φ, q⟩ := tM.pure (show tM XR X.K W (fun _ => (Pure.pure true : M Bool)) σ H _ from q)
      exact q)⟩
  | [e], _ =>
    obtain ⟨m, ns, h1, h2, rfl⟩ := exsOf_cons h
    cases h2
    refine ⟨fun pins s σ H Q I q => (pts_one (ih sc e m X W g h1).2.1).run pins s σ H Q I ?_⟩
    have q' : tM XR X.K W (fun ρ => ev G m ρ >>= fun u => truthM u >>= fun t => if t then (pure true : M Bool) else pure false) σ H fun b _ H' => Q b H' := q
    refine tM.imp (stepTT (k := fun ρ t => if t then (pure true : M Bool) else pure false) q') fun t φ1 H1 z => ?_
    cases t with
    | true =>
      obtain ⟨_, z⟩ := tM.pure z
      exact z
    | false =>
      obtain ⟨_, z⟩ := tM.pure z
      exact z
/-- what a comprehension's parts are -/
structure CompParts (T : TC) (N : List Str) (n : Nat) (sc : Scope) (elt tg iter : Expr) (ifs : List Expr) (scope : Scope) (m : Ex) : Prop where
  parts : ∃ t fs x it, blkC N sc scope (ownOf scope N) = true ∧ ifs.length ≤ 1 ∧ trTg scope N tg = some t ∧ exsOf (ifs.map (trE T N n (relS scope sc))) = some fs ∧ trE T N n (relS scope sc) elt = some x ∧
    srcOf T (trE T N n sc) sc tg iter = some it ∧ tgIn ((ownOf scope N).map (·.2)) t = true ∧ m = .comp ((ownOf scope N).map (·.2)) t it fs x
theorem comp_parts {elt tg iter : Expr} {ifs : List Expr} {scope : Scope} {m : Ex} (h : compOf T N (trE T N n) sc elt tg iter ifs scope = some m) : CompParts T N n sc elt tg iter ifs scope m := by
  unfold compOf at h
  split at h
  · rename_i hc
    obtain ⟨h1, h2⟩ := Bool.and_eq_true_iff.mp hc
    split at h
    · rename_i t fs x it e1 e2 e3 e4
      split at h
      · rename_i hin
        cases h
        exact ⟨t, fs, x, it, h1, of_decide_eq_true h2, e1, e2, e3, e4, hin, rfl⟩
      · cases h
    · cases h
  · cases h
/-- what the rules of a comprehension ask -/
theorem comp_rules (ih : Snd T G XR N n) (g : Good T G XR N W sc X) {elt tg iter : Expr} {ifs : List Expr} {scope : Scope} {m : Ex} (h : CompParts T N n sc elt tg iter ifs scope m) :
    ∃ t fs x it, PI X tg iter (tI XR G X.K W it) ∧ BlkOk X.N X.env.scope scope (ownOf scope N) ∧
      (∀ (s : Shared) (H : Hp) (C : Addr) (cl : List (Str × Addr)) (fp : List Addr), PG (X.blk s H scope (compEnvC scope cl C X.env) fp) tg (gOf X.K t)) ∧
      (∀ (s : Shared) (H : Hp) (C : Addr) (cl : List (Str × Addr)) (fp : List Addr), PTs (X.blk s H scope (compEnvC scope cl C X.env) fp) ifs (tTs XR G X.K WF fs)) ∧
      (∀ (s : Shared) (H : Hp) (C : Addr) (cl : List (Str × Addr)) (fp : List Addr), PE (X.blk s H scope (compEnvC scope cl C X.env) fp) elt (tE XR G X.K WF x)) ∧
      (∀ x, foldedSetIterable iter X.env x = pure x) ∧ tgIn ((ownOf scope N).map (·.2)) t = true ∧ m = .comp ((ownOf scope N).map (·.2)) t it fs x := by
  obtain ⟨t, fs, x, it, h1, h2, h3, h4, h5, h6, h7, rfl⟩ := h.parts
  obtain ⟨s1, s2⟩ := src_ok ih g h6
  have ok := blkOk_by h1
  have gb := fun s H C cl fp => g.blk ok.kind s H C cl fp
  refine ⟨t, fs, x, it, s1, by rw [g.nN, g.sco]; exact ok, fun s H C cl fp => ?_, fun s H C cl fp => ts_ok ih (gb s H C cl fp) h2 h4, fun s H C cl fp => (ih _ elt x _ WF (gb s H C cl fp) h5).1, s2, h7, rfl⟩
  refine pg_of (sc := scope) (X := X.blk s H scope (compEnvC scope cl C X.env) fp) g.nN g.nd g.calm (fun x k e hk => ?_) h3
  have e2 := lookup_map (env := X.env) scope.names x k e (by rcases hk with rfl | rfl <;> decide)
  refine ⟨?_, ?_⟩
  · rcases hk with rfl | rfl
    · exact .inl e2
    · exact .inr e2
  · rcases hk with rfl | rfl
    · exact .inr e2
    · refine .inl ?_
      show (scope.names.lookup x == some .cell) = true
      rw [e]
      rfl
end
theorem sndE : ∀ n, Snd T G XR N n
  | 0 => fun _ _ _ _ _ _ h => by cases h
  | n + 1 => by
    have ih := sndE n
    intro sc e m X W g h
    -- a value whose test is its truth
    have plain : ∀ {m' : Ex}, PE X e (tE XR G X.K W m') → (∀ whole, isTrue e X.env whole = (do let v ← whole; standAt e.pos; holding [v] (truthy v))) → (∀ op vs p, e ≠ .BoolOp op vs p) →
        PE X e (tE XR G X.K W m') ∧ PT X e (tT XR G X.K W m') ∧ ∀ op vs p, e = .BoolOp op vs p → PW X e (tT XR G X.K W m') := fun pe he nb => ⟨pe, pt_of pe he, fun op vs p z => absurd z (nb op vs p)⟩
    unfold trE at h
    split at h
    · obtain ⟨i, hi, rfl⟩ := Option.map_eq_some_iff.mp h
      exact plain (e_loc g hi) (fun _ => rfl) (fun _ _ _ z => nomatch z)
    · cases h
      exact plain (e_cst pe_int (fun _ => rfl) fun _ _ => .int _) (fun _ => rfl) (fun _ _ _ z => nomatch z)
    · cases h
      exact plain (e_cst pe_bl (fun _ => rfl) fun _ _ => .bl _) (fun _ => rfl) (fun _ _ _ z => nomatch z)
    · cases h
      exact plain (e_cst pe_non (fun _ => rfl) fun _ _ => .non) (fun _ => rfl) (fun _ _ _ z => nomatch z)
    · cases h
      exact plain (e_cst pe_str (fun _ => rfl) fun _ _ => .str _) (fun _ => rfl) (fun _ _ _ z => nomatch z)
    · split at h
      · rename_i x y hx hy
        cases h
        exact plain (e_bin g (ih sc _ x X W g hx).1 (ih sc _ y X W g hy).1) (fun _ => rfl) (fun _ _ _ z => nomatch z)
      · cases h
    · obtain ⟨x, hx, rfl⟩ := Option.map_eq_some_iff.mp h
      exact plain (e_neg (ih sc _ x X W g hx).1) (fun _ => rfl) (fun _ _ _ z => nomatch z)
    · obtain ⟨x, hx, rfl⟩ := Option.map_eq_some_iff.mp h
      obtain ⟨a, b, _⟩ := ih sc _ x X W g hx
      exact ⟨(e_not a b).1, (e_not a b).2, fun _ _ _ z => nomatch z⟩
    · split at h
      · cases h
      · rename_i hm
        split at h
        · rename_i x y hx hy
          cases h
          exact ⟨(e_cmp g (Bool.eq_false_iff.mpr hm) (ih sc _ x X W g hx).1 (ih sc _ y X W g hy).1).1, (e_cmp g (Bool.eq_false_iff.mpr hm) (ih sc _ x X W g hx).1 (ih sc _ y X W g hy).1).2, fun _ _ _ z => nomatch z⟩
        · cases h
    · rename_i op a p
      obtain ⟨x1, x2, _⟩ := ih sc _ m X W g h
      have pw : PW X (.BoolOp op [a] p) (tT XR G X.K W m) := by
        cases op
        · exact pw_and1 x2
        · exact pw_or1 x2
      exact ⟨pe_one x1, pw.pt, fun _ _ _ _ => pw⟩
    · split at h
      · rename_i x y hx hy
        cases h
        obtain ⟨a1, a2, _⟩ := ih sc _ x X W g hx
        obtain ⟨b1, _, b3⟩ := ih sc _ y X W g hy
        obtain ⟨c1, c2⟩ := e_and a1 a2 b1 (b3 _ _ _ rfl)
        exact ⟨c1, c2.pt, fun _ _ _ _ => c2⟩
      · cases h
    · split at h
      · rename_i x y hx hy
        cases h
        obtain ⟨a1, a2, _⟩ := ih sc _ x X W g hx
        obtain ⟨b1, _, b3⟩ := ih sc _ y X W g hy
        obtain ⟨c1, c2⟩ := e_or a1 a2 b1 (b3 _ _ _ rfl)
        exact ⟨c1, c2.pt, fun _ _ _ _ => c2⟩
      · cases h
    · split at h
      · rename_i z x y hz hx hy
        cases h
        obtain ⟨_, c2, _⟩ := ih sc _ z X W g hz
        obtain ⟨a1, a2, _⟩ := ih sc _ x X W g hx
        obtain ⟨b1, b2, _⟩ := ih sc _ y X W g hy
        exact ⟨(e_ite c2 a1 a2 b1 b2).1, (e_ite c2 a1 a2 b1 b2).2, fun _ _ _ z => nomatch z⟩
      · cases h
    · obtain ⟨ms, hm, rfl⟩ := Option.map_eq_some_iff.mp h
      exact plain (e_tup (ih.args g hm)) (fun _ => rfl) (fun _ _ _ z => nomatch z)
    · obtain ⟨ms, hm, rfl⟩ := Option.map_eq_some_iff.mp h
      exact plain (e_lst (ih.args g hm)) (fun _ => rfl) (fun _ _ _ z => nomatch z)
    · split at h
      · rename_i hb
        split at h
        · rename_i x y hx hy
          cases h
          exact plain (e_idx hb (ih sc _ x X W g hx).1 (ih sc _ y X W g hy).1) (fun _ => rfl) (fun _ _ _ z => nomatch z)
        · cases h
      · cases h
    · rename_i x p es pos
      split at h
      · rename_i hx
        split at h
        · rename_i ms hms
          obtain ⟨s1, s2⟩ := Snd.stars hms pos X
          split at h
          · rename_i hf
            cases h
            obtain ⟨ps, hps⟩ := Option.isSome_iff_exists.mp hf
            exact plain (e_call g hx hps (ih.args g hms) s1 s2) (fun _ => rfl) (fun _ _ _ z => nomatch z)
          · split at h
            · cases h
            · rename_i hne
              split at h
              · rename_i f hfind
                cases h
                have hmem := List.mem_of_find?_eq_some hfind
                have heq := List.find?_some hfind
                cases es with
                | nil => exact absurd rfl hne
                | cons a r =>
                  obtain ⟨t1, t2⟩ := s1 a r rfl
                  simp only [Bool.and_eq_true, bne_iff_ne] at heq
                  exact plain (e_bi g heq.1.1 hx hmem heq.1.2 heq.2 (ih.args g hms) t1 t2) (fun _ => rfl) (fun _ _ _ z => nomatch z)
              · cases h
        · cases h
      · cases h
    · rename_i x p es kws pos hne
      split at h
      · rename_i hx
        split at h
        · rename_i ps ms zs hps hms hzs
          obtain ⟨s1, s2⟩ := Snd.stars hms pos X
          split at h
          · rename_i is his
            split at h
            · rename_i hin
              cases h
              exact plain (e_callK g (fun z => hne z) hx hps his (by simpa using hin) (ih.args g hms) (k_of hzs fun k _ m hm => (ih sc _ m X W g hm).1) s1 s2) (fun _ => rfl) (fun _ _ _ z => nomatch z)
            · cases h
          · cases h
        · cases h
      · cases h
    · rename_i o m' ap es cp
      split at h
      · rename_i hc
        simp only [Bool.and_eq_true] at hc
        obtain ⟨⟨⟨c1, c2⟩, c3⟩, c4⟩ := hc
        have em := eq_of_beq c4
        subst em
        split at h
        · rename_i x ms hx hms
          cases h
          match es, c2 with
          | [a], _ =>
            obtain ⟨ma, mr, h1, h2, _⟩ := exsOf_cons hms
            exact plain (e_append c1 (by cases o <;> first | rfl | cases c3) (ih sc _ x X W g hx).1 (ih.args g hms) (noStar h1 [] X.env)) (fun _ => rfl) (fun _ _ _ z => nomatch z)
        · cases h
      · cases h
    · rename_i elt tg iter ifs scope pos
      obtain ⟨t, fs, x, it, r1, r2, r3, r4, r5, r6, r7, rfl⟩ := comp_rules ih g (comp_parts h)
      exact plain (toE (pe_lc g.calm (by rw [g.nN]; exact g.nd) r1 r2 r3 r4 r5 r6) fun σ H Q q => lc_read r7 q) (fun _ => rfl) (fun _ _ _ z => nomatch z)
    · cases h
end
end Mi

set_option maxRecDepth 100000
/-! Mini: statements. -/
namespace Mi
open PySem PySem.Spec PyProof.Rows L2

/-! ### the translation -/
def smsOf : List (Option Sm) → Option Sms
  | [] => some .nil
  | none :: _ => none
  | some e :: r => match smsOf r with
    | some es => some (.cons e es)
    | none => none
def notComp : Expr → Bool
  | .ListComp .. => false
  | .SetComp .. => false
  | .DictComp .. => false
  | _ => true
def isCall : Expr → Bool
  | .Call .. => true
  | _ => false
def notStar : Expr → Bool
  | .Starred .. => false
  | _ => true
/-- a comprehension stored into a name by the exchange of stores -/
def swOk (sc : Scope) (x : Str) (p cp : Pos) (scope : Scope) : Bool :=
  decide (sc.names.lookup x = some .local) && (p.line == cp.line) && !(scope.names.any fun (n, k) => n == x && (k == .local || k == .cell))
def namesOf (sc : Scope) (l : Nat) : List Expr → Option (List Str)
  | [] => some []
  | .Name x p :: r => if decide (sc.names.lookup x = some .local) && p.line == l then (namesOf sc l r).map (x :: ·) else none
  | _ => none
/-- two or three names stored at once -/
def swTup (sc : Scope) (ts vs : List Expr) : Bool :=
  (ts.length == 2 || ts.length == 3) && vs.length == ts.length && vs.all notStar &&
    (match namesOf sc ((ts.head?.map (·.pos.line)).getD 0) ts with
      | some xs => decide (xs.Nodup)
      | none => false) && !(vs.all (foldedForSure 8)) && !(vs.all (constantsAlone 8))
def isTupE : Expr → Bool
  | .Tuple .. => true
  | _ => false
def trS (T : TC) (N : List Str) (sc : Scope) : Nat → Stmt → Option Sm
  | 0, _ => none
  | n + 1, s => match s with
    | .Expr e _ => if isCall e then (trE T N 60 sc e).map .ex else none
    | .Assign [.Name x p] (.ListComp elt [⟨tg, iter, ifs, 0⟩] scope cp) _ => match tgNames sc N [.Name x p], compOf T N (trE T N 59) sc elt tg iter ifs scope with
      | some [i], some m => if swOk sc x p cp scope then some (.asg (.nm i) m) else none
      | _, _ => none
    | .Assign [.Name x p] e _ => match tgNames sc N [.Name x p], trE T N 60 sc e with
      | some [i], some m => if notComp e then some (.asg (.nm i) m) else none
      | _, _ => none
    | .Assign [.Tuple ts k tp] e pos => match tgNames sc N ts with
      | some is => match e with
        | .Tuple vs _ _ => match exsOf (vs.map (trE T N 60 sc)) with
          | some ms => if swTup sc ts vs then some (.asgs is ms) else none
          | none => none
        | _ => if notComp e && !isTupE e then (trE T N 60 sc e).map (.asg (.tup is)) else none
      | none => none
    | .Assign [.Subscript o i p] e pos => if notSlice i && notComp e then match trE T N 60 sc e, trE T N 60 sc o, trE T N 60 sc i with
        | some v, some x, some y => some (.sub x y v)
        | _, _, _ => none
      else none
    | .AugAssign (.Name x p) op e _ => if op == .Add || op == .Sub then match tgNames sc N [.Name x p], trE T N 60 sc e with
        | some [i], some m => some (.aug op i m)
        | _, _ => none
      else none
    | .If c a b _ => match trE T N 60 sc c, smsOf (a.map (trS T N sc n)), smsOf (b.map (trS T N sc n)) with
      | some z, some x, some y => some (.ite z x y)
      | _, _, _ => none
    | .For tg iter body [] _ => match trTg sc N tg, srcOf T (trE T N 60 sc) sc tg iter, smsOf (body.map (trS T N sc n)) with
      | some t, some it, some b => some (.for t it b)
      | _, _, _ => none
    | .While c body [] _ => match trE T N 60 sc c, smsOf (body.map (trS T N sc n)) with
      | some z, some b => some (.whl z b)
      | _, _ => none
    | .Return (some e) _ => (trE T N 60 sc e).map .ret
    | .Return none _ => some (.ret .non)
    | .Pass _ => some .pass
    | .Break _ => some .brk
    | .Continue _ => some .cont
    | _ => none

/-! ### readings -/
def PostS (K : PySem.W.Frag) (H : Hp) (φ : List Addr) (r : Option (Fl × Sto)) (Q : Fl → List Addr → Hp → Prop) : Prop :=
  match r with
  | none => False
  | some (fl, st) => ∀ φ' H', Ext H φ H' φ' → RS K H' φ' st → Q fl φ' H'
/-- what is wished for behind a statement -/
def flQ (XR : XRT) (K : PySem.W.Frag) (W : WX) (Dn : Ends) (fl : Fl) (φ : List Addr) (H : Hp) : Prop :=
  match fl with
  | .nx ρ => ∀ σ, RE K σ H φ ρ → Dn.nx σ H
  | .ret d => ∀ v, RV K H φ v d → Dn.rt v H
  | .brk ρ => ∀ σ, RE K σ H φ ρ → Dn.bk σ H
  | .ct ρ => ∀ σ, RE K σ H φ ρ → Dn.ct σ H
  | .exc c w ρ => ∀ σ, RE K σ H φ ρ → ∀ cls d, XR c w φ H cls d → W cls d σ H
def tM_S (XR : XRT) (K : PySem.W.Frag) (W : WX) (f : Env → MS) : TS := fun Dn σ H => ∃ φ ρ st, RE K σ H φ ρ ∧ RS K H φ st ∧ PostS K H φ (f ρ st) (flQ XR K W Dn)
def tS (XR : XRT) (G : Fs) (F : Nat) (K : PySem.W.Frag) (W : WX) (m : Sm) : TS := tM_S XR K W (exS G F m)
def tSs (XR : XRT) (G : Fs) (F : Nat) (K : PySem.W.Frag) (W : WX) (ms : Sms) : TS := tM_S XR K W (exSs G F ms)
section
variable {K : PySem.W.Frag} {XR : XRT} {W : WX}
theorem PostS.from {H H1 : Hp} {φ φ1 : List Addr} {r : Option (Fl × Sto)} {Q : Fl → List Addr → Hp → Prop} (p : PostS K H φ r Q) (x : Ext H φ H1 φ1) : PostS K H1 φ1 r Q := by
  match r, p with
  | some (fl, st), p => exact fun φ' H' y s => p φ' H' (x.trans y) s
theorem PostS.here {H : Hp} {φ : List Addr} {fl : Fl} {st : Sto} {Q : Fl → List Addr → Hp → Prop} (s : RS K H φ st) (p : PostS K H φ (some (fl, st)) Q) : Q fl φ H := p φ H (Ext.refl _ _) s
/-- an expression, then the rest -/
theorem PostS.split {α : Type} {m : M α} {k : α → MS} {σ : L2.St} {H : Hp} {φ : List Addr} {ρ : Env} {st : Sto} {Dn : Ends} (re : RE K σ H φ ρ) (p : PostS K H φ (bindE ρ m k st) (flQ XR K W Dn)) :
    Post K (exW XR W σ) H φ (m st) fun a φ1 H1 => ∃ st1, RS K H1 φ1 st1 ∧ Ext H φ H1 φ1 ∧ PostS K H1 φ1 (k a st1) (flQ XR K W Dn) := by
  unfold bindE at p
  cases e : m st with
  | none =>
    rw [e] at p
    exact p
  | some r =>
    rw [e] at p
    cases r with
    | ok a s1 => exact fun φ1 H1 x s => ⟨s1, s, x, p.from x⟩
    | exc c w s1 => exact fun φ1 H1 x s => fun cls d hx => p φ1 H1 x s σ (re.ext x) cls d hx
theorem liftO_bindE {α : Type} {o : Option α} {k : α → MS} {ρ : Env} {st : Sto} {H : Hp} {φ : List Addr} {Q : Fl → List Addr → Hp → Prop} (p : PostS K H φ (bindE ρ (liftO o) k st) Q) : ∃ a, o = some a ∧ PostS K H φ (k a st) Q := by
  cases o with
  | none => exact p.elim
  | some a => exact ⟨a, rfl, p⟩
end
section
variable {T : TC} {G : Fs} {F : Nat} {XR : XRT} {N : List Str} {W : WX} {sc : Scope} {X : Cx}
theorem toS {s : Stmt} {t t' : TS} (h : PS X s t) (hi : ∀ Dn σ H, t' Dn σ H → t Dn σ H) : PS X s t' := ⟨fun pins s σ H Dn I q => h.run pins s σ H Dn I (hi Dn σ H q)⟩
theorem toSs {s : List Stmt} {t t' : TS} (h : PSs X s t) (hi : ∀ Dn σ H, t' Dn σ H → t Dn σ H) : PSs X s t' := ⟨fun pins s σ H Dn I q => h.run pins s σ H Dn I (hi Dn σ H q)⟩
/-- an expression's reading ahead of the rest -/
theorem stepS {x : Ex} {k : Env → D → MS} {Dn : Ends} {σ : L2.St} {H : Hp} (q : tM_S XR X.K W (fun ρ => bindE ρ (ev G x ρ) (k ρ)) Dn σ H) :
    tE XR G X.K W x σ H fun v H1 => ∃ φ1 ρ st1 d, RV X.K H1 φ1 v d ∧ RE X.K σ H1 φ1 ρ ∧ RS X.K H1 φ1 st1 ∧ PostS X.K H1 φ1 (k ρ d st1) (flQ XR X.K W Dn) := by
  obtain ⟨φ, ρ, st, re, rs, p⟩ := q
  refine ⟨φ, ρ, st, re, rs, (PostS.split re p).mono fun d φ1 H1 x1 q1 v rv => ?_⟩
  obtain ⟨st1, rs1, _, p1⟩ := q1
  exact ⟨φ1, ρ, st1, d, rv, re.ext x1, rs1, p1⟩
theorem c_expr {e : Expr} {pos : Pos} {x : Ex} (hc : isCall e = true) (he : PE X e (tE XR G X.K W x)) : PS X (.Expr e pos) (tS XR G F X.K W (.ex x)) :=
  toS (ps_expr he (by cases e <;> first | rfl | cases hc)) fun Dn σ H q => by
    refine tM.imp (stepS (k := fun ρ _ s => some (.nx ρ, s)) q) fun d φ1 H1 z v rv => ?_
    obtain ⟨φ2, ρ, st1, d', _, re, rs, p⟩ := z v rv
    exact p.here rs σ re
theorem c_asg {tg e : Expr} {pos : Pos} {t : Tg} {x : Ex} (he : PE X e (tE XR G X.K W x)) (hg : PG X tg (gOf X.K t)) (hs : swapsWithSole [tg] e pos.line X.env = pure false) (hw : swappedStores [tg] e X.env = pure none)
    (h1 : (assignEach [tg] X.env).map (·.2) = [assign tg X.env]) : PS X (.Assign [tg] e pos) (tS XR G F X.K W (.asg t x)) :=
  toS (ps_asg he hg hs hw h1) fun Dn σ H q => by
    refine tM.imp (stepS (k := fun ρ d => bindE ρ (liftO (asgTg t d ρ)) fun ρ' s => some (.nx ρ', s)) q) fun d φ1 H1 z v rv => ?_
    obtain ⟨φ2, ρ, st1, d', rv', re, rs, p⟩ := z v rv
    obtain ⟨ρ', h, p'⟩ := liftO_bindE p
    exact g_read h re rv' fun σ' re' _ => p'.here rs σ' re'
theorem c_sub {o i e : Expr} {pos p : Pos} {x y v : Ex} (hi' : notSlice i = true) (hn : notComp e = true) (he : PE X e (tE XR G X.K W v)) (ho : PE X o (tE XR G X.K W x)) (hi : PE X i (tE XR G X.K W y)) :
    PS X (.Assign [.Subscript o i p] e pos) (tS XR G F X.K W (.sub x y v)) :=
  toS (ps_asg he (pg_sub ho hi set_any fun u => by cases i <;> first | rfl | cases hi') (by cases e <;> first | rfl | cases hn) (by cases e <;> rfl) rfl) fun Dn σ H q => by
    have q' : tM_S XR X.K W (fun ρ => bindE ρ (ev G v ρ) fun c => bindE ρ (ev G x ρ) fun a => bindE ρ (ev G y ρ) fun b => bindE ρ (setE a b c) fun _ s => some (.nx ρ, s)) Dn σ H := q
    obtain ⟨φ, ρ, st, re, rs, p⟩ := q'
    refine ⟨φ, ρ, st, re, rs, (PostS.split re p).mono fun c φ1 H1 x1 q1 w rw' => ?_⟩
    obtain ⟨st1, rs1, _, p1⟩ := q1
    refine ⟨φ1, ρ, st1, re.ext x1, rs1, (PostS.split (re.ext x1) p1).mono fun a φ2 H2 x2 q2 w2 rw2 => ?_⟩
    obtain ⟨st2, rs2, _, p2⟩ := q2
    refine ⟨φ2, ρ, st2, (re.ext x1).ext x2, rs2, (PostS.split ((re.ext x1).ext x2) p2).mono fun b φ3 H3 x3 q3 w3 rw3 => ?_⟩
    obtain ⟨st3, rs3, _, p3⟩ := q3
    refine ⟨_, φ3, st3, a, b, c, rs3, rw2.ext x3, rw3, rw'.ext (x2.trans x3), (PostS.split (((re.ext x1).ext x2).ext x3) p3).mono fun _ φ4 H4 x4 q4 => ?_⟩
    obtain ⟨st4, rs4, _, p4⟩ := q4
    exact p4.here rs4 σ ((((re.ext x1).ext x2).ext x3).ext x4)
theorem c_ret {e : Expr} {pos : Pos} {x : Ex} (he : PE X e (tE XR G X.K W x)) : PS X (.Return (some e) pos) (tS XR G F X.K W (.ret x)) :=
  toS (ps_ret he) fun Dn σ H q => by
    refine tM.imp (stepS (k := fun ρ d s => some (.ret d, s)) q) fun d φ1 H1 z v rv => ?_
    obtain ⟨φ2, ρ, st1, d', rv', re, rs, p⟩ := z v rv
    exact p.here rs v rv'
theorem c_retN {pos : Pos} : PS X (.Return none pos) (tS XR G F X.K W (.ret .non)) :=
  toS ps_retN fun Dn σ H q => by
    obtain ⟨φ, ρ, st, re, rs, p⟩ := q
    exact p.here rs .non .non
theorem c_pass {pos : Pos} : PS X (.Pass pos) (tS XR G F X.K W .pass) :=
  toS ps_pass fun Dn σ H q => by
    obtain ⟨φ, ρ, st, re, rs, p⟩ := q
    exact p.here rs σ re
theorem c_brk {pos : Pos} : PS X (.Break pos) (tS XR G F X.K W .brk) :=
  toS ps_break fun Dn σ H q => by
    obtain ⟨φ, ρ, st, re, rs, p⟩ := q
    exact p.here rs σ re
theorem c_cont {pos : Pos} : PS X (.Continue pos) (tS XR G F X.K W .cont) :=
  toS ps_continue fun Dn σ H q => by
    obtain ⟨φ, ρ, st, re, rs, p⟩ := q
    exact p.here rs σ re
theorem aug_any {op : Operator} (h : (op == .Add || op == .Sub) = true) : PIp X op (rD2 X.K (augE op)) := by
  intro pins s σ H x y v u Q I rx ry hh
  obtain ⟨XX, φ, st, a, b, rs, ra, rb, p⟩ := hh
  unfold augE at p
  split at p
  · cases ra; cases rb
    exact ip_add pins s σ H _ _ v u Q I rx ry ⟨_, _, rfl, rfl, p φ H (Ext.refl _ _) rs _ (.int _)⟩
  · cases ra; cases rb
    exact ip_sub pins s σ H _ _ v u Q I rx ry ⟨_, _, rfl, rfl, p φ H (Ext.refl _ _) rs _ (.int _)⟩
  · exact p.elim
/-- the slot's value -/
theorem loc_at {K : PySem.W.Frag} {i : Nat} {k : D → MS} {ρ : Env} {st : Sto} {H : Hp} {φ : List Addr} {Q : Fl → List Addr → Hp → Prop} (p : PostS K H φ (bindE ρ (ev G (.loc i) ρ) k st) Q) : ∃ d, ρ[i]? = some (some d) ∧ PostS K H φ (k d st) Q := by
  unfold bindE ev at p
  cases e : ρ[i]? with
  | none => simp only [e] at p; exact p.elim
  | some o =>
    cases o with
    | none => simp only [e] at p; exact p.elim
    | some d =>
      simp only [e] at p
      exact ⟨d, rfl, p⟩
theorem c_aug {x : Str} {p pos : Pos} {op : Operator} {e : Expr} {i : Nat} {m : Ex} (hop : (op == .Add || op == .Sub) = true) (hN : X.N.Nodup) (hi : X.N[i]? = some x) (hx : L2.Loc X.env.scope x) (hf : X.fn x = true ∨ X.env.scope.names.lookup x = some .local) (he : PE X e (tE XR G X.K W m)) :
    PS X (.AugAssign (.Name x p) op e pos) (tS XR G F X.K W (.aug op i m)) :=
  toS (ps_aug hN hi hx he (aug_any hop) hf) fun Dn σ H q => by
    have q' : tM_S XR X.K W (fun ρ => bindE ρ (ev G (.loc i) ρ) fun x => bindE ρ (ev G m ρ) fun y => bindE ρ (augE op x y) fun z s => some (.nx (ρ.set i (some z)), s)) Dn σ H := q
    obtain ⟨φ, ρ, st, re, rs, p⟩ := q'
    obtain ⟨d, hd, p⟩ := loc_at p
    obtain ⟨v, hv, rv⟩ := re.at_ i d hd
    refine ⟨v, hv, φ, ρ, st, re, rs, (PostS.split re p).mono fun b φ1 H1 x1 q1 w rw' => ?_⟩
    obtain ⟨st1, rs1, _, p1⟩ := q1
    refine ⟨_, φ1, st1, d, b, rs1, rv.ext x1, rw', (PostS.split (re.ext x1) p1).mono fun z φ2 H2 x2 q2 u ru => ?_⟩
    obtain ⟨st2, rs2, _, p2⟩ := q2
    exact p2.here rs2 _ (((re.ext x1).ext x2).set ru i)
theorem c_ite {c : Expr} {a b : List Stmt} {pos : Pos} {z : Ex} {x y : Sms} (hc : PT X c (tT XR G X.K W z)) (ha : PSs X a (tSs XR G F X.K W x)) (hb : PSs X b (tSs XR G F X.K W y)) : PS X (.If c a b pos) (tS XR G F X.K W (.ite z x y)) :=
  toS (ps_if hc ha hb) fun Dn σ H q => by
    have q' : tM_S XR X.K W (fun ρ => bindE ρ (ev G z ρ >>= truthM) fun t => if t then exSs G F x ρ else exSs G F y ρ) Dn σ H := q
    obtain ⟨φ, ρ, st, re, rs, p⟩ := q'
    refine ⟨φ, ρ, st, re, rs, (PostS.split re p).mono fun t φ1 H1 x1 q1 => ?_⟩
    obtain ⟨st1, rs1, _, p1⟩ := q1
    cases t with
    | true => exact ⟨φ1, ρ, st1, re.ext x1, rs1, p1⟩
    | false => exact ⟨φ1, ρ, st1, re.ext x1, rs1, p1⟩
theorem ss_nil : PSs X [] (tSs XR G F X.K W .nil) :=
  toSs pss_nil fun Dn σ H q => by
    obtain ⟨φ, ρ, st, re, rs, p⟩ := q
    exact p.here rs σ re
theorem ss_cons {s : Stmt} {r : List Stmt} {m : Sm} {ms : Sms} (hs : PS X s (tS XR G F X.K W m)) (hr : PSs X r (tSs XR G F X.K W ms)) : PSs X (s :: r) (tSs XR G F X.K W (.cons m ms)) :=
  toSs (pss_cons hs hr) fun Dn σ H q => by
    have q' : tM_S XR X.K W (fun ρ => bindS (exS G F m ρ) fun ρ' => exSs G F ms ρ') Dn σ H := q
    obtain ⟨φ, ρ, st, re, rs, p⟩ := q'
    refine ⟨φ, ρ, st, re, rs, ?_⟩
    unfold bindS at p
    dsimp only at p
    cases e : exS G F m ρ st with
    | none => rw [e] at p; exact p
    | some r =>
      obtain ⟨fl, s1⟩ := r
      rw [e] at p
      cases fl with
      | nx ρ' => exact fun φ1 H1 x s σ' re' => ⟨φ1, ρ', s1, re', s, p.from x⟩
      | ret d => exact p
      | brk ρ' => exact p
      | ct ρ' => exact p
      | exc c w ρ' => exact p
theorem c_for {tg iter : Expr} {body : List Stmt} {pos : Pos} {t : Tg} {it : Src} {b : Sms} (hp : PassesOwn (model X.prog X.w) X.A X.env X.xe) (hc : X.calm = true) (hi : PI X tg iter (tI XR G X.K W it)) (hg : PG X tg (gOf X.K t)) (hb : PSs X body (tSs XR G F X.K W b))
    (hs : ∀ x, foldedSetIterable iter X.env x = pure x) : PS X (.For tg iter body [] pos) (tS XR G F X.K W (.for t it b)) :=
  toS (ps_for hp hc hi hg hb hs) fun Dn σ H q => by
    have q' : tM_S XR X.K W (fun ρ => bindE ρ (evSrc G it ρ) fun w => forS w (fun d ρ' => bindE ρ' (liftO (asgTg t d ρ')) fun ρ'' => exSs G F b ρ'') w.items ρ) Dn σ H := q
    obtain ⟨φ, ρ, st, re, rs, p⟩ := q'
    refine ⟨φ, ρ, st, re, rs, (PostS.split re p).mono fun w φ1 H1 x1 q1 J wj => ?_⟩
    obtain ⟨st1, rs1, _, p1⟩ := q1
    refine ⟨fun i m σc Hc => m = w.items.length - i ∧ i ≤ w.items.length ∧ ∃ φi ρi sti, Ext H1 φ1 Hc φi ∧ RE X.K σc Hc φi ρi ∧ RS X.K Hc φi sti ∧
      PostS X.K Hc φi (forS w (fun d ρ' => bindE ρ' (liftO (asgTg t d ρ')) fun ρ'' => exSs G F b ρ'') (w.items.drop i) ρi sti) (flQ XR X.K W Dn), ⟨w.items.length, rfl, Nat.zero_le _, φ1, ρ, st1, Ext.refl _ _, re.ext x1, rs1, p1⟩, ?_⟩
    rintro i m σc Hc ⟨rfl, hi, φi, ρi, sti, ex, rei, rsi, pi⟩
    by_cases hlt : i < w.items.length
    · have ed : w.items.drop i = w.items[i] :: w.items.drop (i + 1) := List.drop_eq_getElem_cons hlt
      rw [ed] at pi
      unfold forS at pi
      split at pi
      · rename_i hok
        obtain ⟨hgo, hy⟩ := wj.go φi Hc sti i w.items[i] ex rsi hok (List.getElem?_eq_getElem hlt)
        refine .inr ⟨hgo, fun σn Hn => i + 1 ≤ w.items.length ∧ ∃ φi ρi sti, Ext H1 φ1 Hn φi ∧ RE X.K σn Hn φi ρi ∧ RS X.K Hn φi sti ∧
          PostS X.K Hn φi (forS w (fun d ρ' => bindE ρ' (liftO (asgTg t d ρ')) fun ρ'' => exSs G F b ρ'') (w.items.drop (i + 1)) ρi sti) (flQ XR X.K W Dn), fun σn Hn hn => ⟨w.items.length - (i + 1), by omega, rfl, hn.1, hn.2⟩, fun y H2 hyl => ?_⟩
        obtain ⟨x2, rs2, rvy⟩ := hy y H2 hyl
        cases ea : asgTg t w.items[i] ρi with
        | none =>
          have z : bindE ρi (liftO (asgTg t w.items[i] ρi)) (fun ρ'' => exSs G F b ρ'') sti = none := by
            rw [ea]
            rfl
          rw [z] at pi
          exact pi.elim
        | some ρ2 =>
          have z : bindE ρi (liftO (asgTg t w.items[i] ρi)) (fun ρ'' => exSs G F b ρ'') sti = exSs G F b ρ2 sti := by
            rw [ea]
            rfl
          rw [z] at pi
          refine g_read ea (rei.ext x2) rvy fun σ2 re2 _ => ⟨φi, ρ2, sti, re2, rs2, ?_⟩
          cases eb : exSs G F b ρ2 sti with
          | none => rw [eb] at pi; exact pi.elim
          | some r =>
            obtain ⟨fl, s3⟩ := r
            rw [eb] at pi
            cases fl with
            | nx ρ3 => exact fun φ3 H3 x3 rs3 σ3 re3 => ⟨by omega, φ3, ρ3, s3, (ex.trans x2).trans x3, re3, rs3, pi.from (x2.trans x3)⟩
            | ct ρ3 => exact fun φ3 H3 x3 rs3 σ3 re3 => ⟨by omega, φ3, ρ3, s3, (ex.trans x2).trans x3, re3, rs3, pi.from (x2.trans x3)⟩
            | brk ρ3 => exact fun φ3 H3 x3 rs3 σ3 re3 => pi φ3 H3 (x2.trans x3) rs3 σ3 re3
            | ret d => exact fun φ3 H3 x3 rs3 v rv => pi φ3 H3 (x2.trans x3) rs3 v rv
            | exc c u ρ3 => exact fun φ3 H3 x3 rs3 σ3 re3 cls d hx => pi φ3 H3 (x2.trans x3) rs3 σ3 re3 cls d hx
      · exact pi.elim
    · have ei : i = w.items.length := by omega
      subst ei
      rw [List.drop_length] at pi
      unfold forS at pi
      split at pi
      · rename_i hok
        exact .inl ⟨wj.stop φi Hc sti ex rsi hok, pi.here rsi σc rei⟩
      · exact pi.elim
theorem c_whl {c : Expr} {body : List Stmt} {pos : Pos} {z : Ex} {b : Sms} (hp : PassesOwn (model X.prog X.w) X.A X.env X.xe) (hc : PT X c (tT XR G X.K W z)) (hb : PSs X body (tSs XR G F X.K W b)) : PS X (.While c body [] pos) (tS XR G F X.K W (.whl z b)) :=
  toS (ps_while hp hc hb) fun Dn σ H q => by
    have q' : tM_S XR X.K W (fun ρ => whlS (fun ρ' => ev G z ρ' >>= truthM) (fun ρ' => exSs G F b ρ') F ρ) Dn σ H := q
    obtain ⟨φ, ρ, st, re, rs, p⟩ := q'
    refine ⟨fun m σc Hc => ∃ φi ρi sti, RE X.K σc Hc φi ρi ∧ RS X.K Hc φi sti ∧ PostS X.K Hc φi (whlS (fun ρ' => ev G z ρ' >>= truthM) (fun ρ' => exSs G F b ρ') m ρi sti) (flQ XR X.K W Dn), ⟨F, φ, ρ, st, re, rs, p⟩, ?_⟩
    rintro m σc Hc ⟨φi, ρi, sti, rei, rsi, pi⟩
    cases m with
    | zero => exact pi.elim
    | succ n =>
      unfold whlS at pi
      refine ⟨φi, ρi, sti, rei, rsi, (PostS.split rei pi).mono fun t φ1 H1 x1 q1 => ?_⟩
      obtain ⟨st1, rs1, _, p1⟩ := q1
      cases t with
      | false => exact p1.here rs1 σc (rei.ext x1)
      | true =>
        refine ⟨fun σn Hn => ∃ φi ρi sti, RE X.K σn Hn φi ρi ∧ RS X.K Hn φi sti ∧ PostS X.K Hn φi (whlS (fun ρ' => ev G z ρ' >>= truthM) (fun ρ' => exSs G F b ρ') n ρi sti) (flQ XR X.K W Dn), fun σn Hn hn => ⟨n, Nat.lt_succ_self _, hn⟩, φ1, ρi, st1, rei.ext x1, rs1, ?_⟩
        rw [if_pos rfl] at p1
        cases eb : exSs G F b ρi st1 with
        | none => rw [eb] at p1; exact p1.elim
        | some r =>
          obtain ⟨fl, s3⟩ := r
          rw [eb] at p1
          cases fl with
          | nx ρ3 => exact fun φ3 H3 x3 rs3 σ3 re3 => ⟨φ3, ρ3, s3, re3, rs3, p1.from x3⟩
          | ct ρ3 => exact fun φ3 H3 x3 rs3 σ3 re3 => ⟨φ3, ρ3, s3, re3, rs3, p1.from x3⟩
          | brk ρ3 => exact p1
          | ret d => exact p1
          | exc c u ρ3 => exact p1
/-! ### two or three names at once -/
theorem names_cons {l : Nat} {e : Expr} {r : List Expr} {xs : List Str} (h : namesOf sc l (e :: r) = some xs) : ∃ x p ys, e = .Name x p ∧ sc.names.lookup x = some .local ∧ p.line = l ∧ namesOf sc l r = some ys ∧ xs = x :: ys := by
  cases e with
  | Name x p =>
    unfold namesOf at h
    split at h
    · rename_i hc
      obtain ⟨h1, h2⟩ := Bool.and_eq_true_iff.mp hc
      obtain ⟨ys, h3, rfl⟩ := Option.map_eq_some_iff.mp h
      exact ⟨x, p, ys, rfl, of_decide_eq_true h1, eq_of_beq h2, h3, rfl⟩
    · cases h
  | _ => cases h
theorem any_star {vs : List Expr} (h : vs.all notStar = true) : (vs.any fun | .Starred .. => true | _ => false) = false := by
  rw [List.any_eq_false]
  intro e he
  have := List.all_eq_true.mp h e he
  cases e <;> first
    | exact Bool.false_ne_true
    | cases this
theorem sw_two {x y : Str} {px py tp p2 : Pos} {kt k2 : Nat} {a b : Expr} {env : PySem.Env} (hk : env.scope.kind = .function) (hx : env.scope.names.lookup x = some .local) (hy : env.scope.names.lookup y = some .local) (hl : py.line = px.line)
    (hd : x ≠ y) (hs : [a, b].all notStar = true) (hf : [a, b].all (foldedForSure 8) = false) (hc : [a, b].all (constantsAlone 8) = false) :
    swappedStores [.Tuple [.Name x px, .Name y py] kt tp] (.Tuple [a, b] k2 p2) env = pure (some [x, y]) := by
  have e1 : env.blockKind = .function := by unfold Env.blockKind; rw [hk]; rfl
  have kx : (env.kindOf x == some .local) = true := by unfold Env.kindOf; rw [hx]; rfl
  have ky : (env.kindOf y == some .local) = true := by unfold Env.kindOf; rw [hy]; rfl
  have hdd : [x, y].eraseDups.length = 2 := by
    have : (y == x) = false := beq_eq_false_iff_ne.mpr (Ne.symm hd)
    simp [List.eraseDups, List.eraseDupsBy, List.eraseDupsBy.loop, this]
  unfold swappedStores
  dsimp only [List.length_cons, List.length_nil, List.head?_cons, Option.map_some, Option.getD_some, Expr.pos]
  rw [if_neg (by rw [e1]; decide)]
  refine Eq.trans (if_neg fun z => absurd (Eq.trans (Eq.symm (any_star hs)) z) Bool.false_ne_true) ?_
  simp only [List.filterMap_cons, List.filterMap_nil, kx, ky, hl, beq_self_eq_true, Bool.and_self, if_true]
  rw [hdd, hf, hc]
  rfl
theorem sw_three {x y z : Str} {px py pz tp p2 : Pos} {kt k2 : Nat} {a b c : Expr} {env : PySem.Env} (hk : env.scope.kind = .function) (hx : env.scope.names.lookup x = some .local) (hy : env.scope.names.lookup y = some .local) (hz : env.scope.names.lookup z = some .local) (hl : py.line = px.line) (hl2 : pz.line = px.line)
    (hd : x ≠ y) (hd2 : x ≠ z) (hd3 : y ≠ z) (hs : [a, b, c].all notStar = true) (hf : [a, b, c].all (foldedForSure 8) = false) (hc : [a, b, c].all (constantsAlone 8) = false) :
    swappedStores [.Tuple [.Name x px, .Name y py, .Name z pz] kt tp] (.Tuple [a, b, c] k2 p2) env = pure (some [x, y, z]) := by
  have e1 : env.blockKind = .function := by unfold Env.blockKind; rw [hk]; rfl
  have kx : (env.kindOf x == some .local) = true := by unfold Env.kindOf; rw [hx]; rfl
  have ky : (env.kindOf y == some .local) = true := by unfold Env.kindOf; rw [hy]; rfl
  have kz : (env.kindOf z == some .local) = true := by unfold Env.kindOf; rw [hz]; rfl
  have hdd : [x, y, z].eraseDups.length = 3 := by
    have h1 : (y == x) = false := beq_eq_false_iff_ne.mpr (Ne.symm hd)
    have h2 : (z == x) = false := beq_eq_false_iff_ne.mpr (Ne.symm hd2)
    have h3 : (z == y) = false := beq_eq_false_iff_ne.mpr (Ne.symm hd3)
    simp [List.eraseDups, List.eraseDupsBy, List.eraseDupsBy.loop, h1, h2, h3]
  unfold swappedStores
  dsimp only [List.length_cons, List.length_nil, List.head?_cons, Option.map_some, Option.getD_some, Expr.pos]
  rw [if_neg (by rw [e1]; decide)]
  refine Eq.trans (if_neg fun z => absurd (Eq.trans (Eq.symm (any_star hs)) z) Bool.false_ne_true) ?_
  simp only [List.filterMap_cons, List.filterMap_nil, kx, ky, kz, hl, hl2, beq_self_eq_true, Bool.and_self, if_true]
  rw [hdd, hf, hc]
  rfl
theorem tg_cons {e : Expr} {r : List Expr} {is : List Nat} (h : tgNames sc N (e :: r) = some is) : ∃ x p i js, e = .Name x p ∧ (sc.names.lookup x = some .local ∨ sc.names.lookup x = some .cell) ∧ N.idxOf? x = some i ∧ tgNames sc N r = some js ∧ is = i :: js := by
  cases e with
  | Name x p =>
    unfold tgNames at h
    split at h
    · rename_i i js h1 h2 h3
      cases h
      exact ⟨x, p, i, js, rfl, .inl h1, h2, h3, rfl⟩
    · rename_i i js h1 h2 h3
      cases h
      exact ⟨x, p, i, js, rfl, .inr h1, h2, h3, rfl⟩
    · cases h
  | _ => cases h
theorem idx_inj {x y : Str} {i : Nat} (h1 : N.idxOf? x = some i) (h2 : N.idxOf? y = some i) : x = y := Option.some.inj ((idx_get N x i h1).symm.trans (idx_get N y i h2))
/-- two, or three names at once -/
theorem c_asgs (g : Good T G XR N W sc X) {ts vs : List Expr} {kt k2 : Nat} {tp p2 pos : Pos} {is : List Nat} {ms : Exs} (ht : tgNames sc N ts = some is) (hsw : swTup sc ts vs = true) (ha : PA X vs (tA XR G X.K W ms)) :
    PS X (.Assign [.Tuple ts kt tp] (.Tuple vs k2 p2) pos) (tS XR G F X.K W (.asgs is ms)) := by
  unfold swTup at hsw
  simp only [Bool.and_eq_true, Bool.or_eq_true, beq_iff_eq, Bool.not_eq_true'] at hsw
  obtain ⟨⟨⟨⟨⟨h1, h2⟩, h3⟩, h4⟩, h5⟩, h6⟩ := hsw
  have hk : X.env.scope.kind = .function := by rw [g.sco]; exact g.kind
  split at h4
  · rename_i xs hxs
    have hnd : xs.Nodup := of_decide_eq_true h4
    rcases h1 with h1 | h1
    · match ts, vs, h1, h2 with
      | [t1, t2], [a, b], _, _ =>
        obtain ⟨x, px, ys, rfl, lx, _, hys, rfl⟩ := names_cons hxs
        obtain ⟨y, py, zs, rfl, ly, hl, hzs, rfl⟩ := names_cons hys
        obtain ⟨x', _, i, js, e1, _, ix, hjs, rfl⟩ := tg_cons ht
        cases e1
        obtain ⟨y', _, j, ks, e2, _, iy, hks, rfl⟩ := tg_cons hjs
        cases e2
        cases hzs
        cases hks
        have hxy : x ≠ y := by
          intro z
          subst z
          simp at hnd
        have hij : i ≠ j := fun z => hxy (idx_inj ix (z ▸ iy))
        refine toS (ps_par (i := i) (j := j) g.calm (by rw [g.nN]; exact g.nd) (by rw [g.nN]; exact idx_get N x i ix) (by rw [g.nN]; exact idx_get N y j iy) hij (by rw [g.sco]; exact lx) (by rw [g.sco]; exact ly) ha
          (sw_two hk (by rw [g.sco]; exact lx) (by rw [g.sco]; exact ly) hl hxy h3 h5 h6)) fun Dn σ H q => ?_
        have q' : tM_S XR X.K W (fun ρ => bindE ρ (evs G ms ρ) fun ds s => if [i, j].length = ds.length then some (.nx (([i, j].zip ds).foldl (fun r p => r.set p.1 (some p.2)) ρ), s) else none) Dn σ H := q
        obtain ⟨φ, ρ, st, re, rs, p⟩ := q'
        refine ⟨φ, ρ, st, re, rs, (PostS.split re p).mono fun ds φ1 H1 x1 q1 us ru => ?_⟩
        obtain ⟨st1, rs1, _, p1⟩ := q1
        split at p1
        · rename_i hlen
          match ds, hlen with
          | [d, e], _ =>
            obtain ⟨v, w, rfl, rv, rw'⟩ := ru.two
            exact ⟨v, w, rfl, p1.here rs1 _ (((re.ext x1).set rv i).set rw' j)⟩
        · exact p1.elim
    · match ts, vs, h1, h2 with
      | [t1, t2, t3], [a, b, c], _, _ =>
        obtain ⟨x, px, ys, rfl, lx, _, hys, rfl⟩ := names_cons hxs
        obtain ⟨y, py, zs, rfl, ly, hl, hzs, rfl⟩ := names_cons hys
        obtain ⟨z, pz, ws, rfl, lz, hl2, hws, rfl⟩ := names_cons hzs
        obtain ⟨x', _, i, js, e1, _, ix, hjs, rfl⟩ := tg_cons ht
        cases e1
        obtain ⟨y', _, j, ks, e2, _, iy, hks, rfl⟩ := tg_cons hjs
        cases e2
        obtain ⟨z', _, l, ls, e3, _, iz, hls, rfl⟩ := tg_cons hks
        cases e3
        cases hws
        cases hls
        have hxy : x ≠ y := by
          intro z
          subst z
          simp at hnd
        have hxz : x ≠ z := by
          intro z
          subst z
          simp at hnd
        have hyz : y ≠ z := by
          intro z
          subst z
          simp at hnd
        have hij : i ≠ j := fun z => hxy (idx_inj ix (z ▸ iy))
        have hil : i ≠ l := fun z => hxz (idx_inj ix (z ▸ iz))
        have hjl : j ≠ l := fun z => hyz (idx_inj iy (z ▸ iz))
        refine toS (ps_par3 (i := i) (j := j) (l := l) g.calm (by rw [g.nN]; exact g.nd) (by rw [g.nN]; exact idx_get N x i ix) (by rw [g.nN]; exact idx_get N y j iy) (by rw [g.nN]; exact idx_get N z l iz) hij hil hjl (by rw [g.sco]; exact lx) (by rw [g.sco]; exact ly) (by rw [g.sco]; exact lz) ha
          (sw_three hk (by rw [g.sco]; exact lx) (by rw [g.sco]; exact ly) (by rw [g.sco]; exact lz) hl hl2 hxy hxz hyz h3 h5 h6)) fun Dn σ H q => ?_
        have q' : tM_S XR X.K W (fun ρ => bindE ρ (evs G ms ρ) fun ds s => if [i, j, l].length = ds.length then some (.nx (([i, j, l].zip ds).foldl (fun r p => r.set p.1 (some p.2)) ρ), s) else none) Dn σ H := q
        obtain ⟨φ, ρ, st, re, rs, p⟩ := q'
        refine ⟨φ, ρ, st, re, rs, (PostS.split re p).mono fun ds φ1 H1 x1 q1 us ru => ?_⟩
        obtain ⟨st1, rs1, _, p1⟩ := q1
        split at p1
        · rename_i hlen
          match ds, hlen with
          | [d, e, f], _ =>
            cases ru with
            | cons rv ru =>
              obtain ⟨v2, v3, rfl, rv2, rv3⟩ := ru.two
              exact ⟨_, v2, v3, rfl, p1.here rs1 _ ((((re.ext x1).set rv i).set rv2 j).set rv3 l)⟩
        · exact p1.elim
  · cases h4
end
end Mi

set_option maxRecDepth 100000
/-! Mini: what is translated is sound: statements, defs, the whole text. -/
namespace Mi
open PySem PySem.Spec PyProof.Rows L2

theorem smsOf_cons {o : Option Sm} {r : List (Option Sm)} {ms : Sms} (h : smsOf (o :: r) = some ms) : ∃ e es, o = some e ∧ smsOf r = some es ∧ ms = .cons e es := by
  cases o with
  | none => cases h
  | some e =>
    unfold smsOf at h
    split at h
    · rename_i es he
      cases h
      exact ⟨e, es, rfl, he, rfl⟩
    · cases h
section
variable {T : TC} {G : Fs} {F : Nat} {XR : XRT} {N : List Str} {W : WX} {sc : Scope} {X : Cx}
structure GoodS (T : TC) (G : Fs) (XR : XRT) (N : List Str) (W : WX) (sc : Scope) (X : Cx) : Prop where
  g : Good T G XR N W sc X
  pn : PassesOwn (model X.prog X.w) X.A X.env X.xe
  fnT : ∀ x, X.fn x = true
theorem GoodS.loc (g : GoodS T G XR N W sc X) : ∀ x k, sc.names.lookup x = some k → k = .local ∨ k = .cell → L2.Loc X.env.scope x ∧ (X.fn x = true ∨ X.env.scope.names.lookup x = some .local) := fun x k h hk => by
  refine ⟨?_, .inl (g.fnT x)⟩
  rw [g.g.sco]
  rcases hk with rfl | rfl
  · exact .inl h
  · exact .inr h
theorem GoodS.pg (g : GoodS T G XR N W sc X) {tg : Expr} {t : Tg} (h : trTg sc N tg = some t) : PG X tg (gOf X.K t) := pg_of g.g.nN g.g.nd g.g.calm g.loc h
theorem GoodS.e (g : GoodS T G XR N W sc X) {e : Expr} {m : Ex} (h : trE T N 60 sc e = some m) : PE X e (tE XR G X.K W m) := (sndE 60 sc e m X W g.g h).1
theorem GoodS.t (g : GoodS T G XR N W sc X) {e : Expr} {m : Ex} (h : trE T N 60 sc e = some m) : PT X e (tT XR G X.K W m) := (sndE 60 sc e m X W g.g h).2.1
theorem ss_of {f : Stmt → Option Sm} (hf : ∀ s m, f s = some m → PS X s (tS XR G F X.K W m)) : ∀ {ss : List Stmt} {ms : Sms}, smsOf (ss.map f) = some ms → PSs X ss (tSs XR G F X.K W ms)
  | [], ms, h => by
    cases h
    exact ss_nil
  | s :: r, ms, h => by
    obtain ⟨m, ns, h1, h2, rfl⟩ := smsOf_cons h
    exact ss_cons (hf s m h1) (ss_of hf h2)
theorem sw_none {e : Expr} {t : Expr} {env : PySem.Env} (h : isTupE e = false) : swappedStores [t] e env = pure none := by
  cases e <;> first
    | (cases t <;> rfl)
    | cases h
theorem sole_none {e : Expr} {t : Expr} {l : Nat} {env : PySem.Env} (h : notComp e = true) : swapsWithSole [t] e l env = pure false := by
  cases e <;> first
    | (cases t <;> rfl)
    | cases h
theorem sndS (g : GoodS T G XR N W sc X) : ∀ n s m, trS T N sc n s = some m → PS X s (tS XR G F X.K W m)
  | 0, _, _, h => by cases h
  | n + 1, s, m, h => by
    have ih := sndS g n
    have name : ∀ {x : Str} {p : Pos} {i : Nat}, tgNames sc N [.Name x p] = some [i] → trTg sc N (.Name x p) = some (.nm i) := fun {x p i} h => by
      show (match tgNames sc N [.Name x p] with | some [i] => some (Tg.nm i) | _ => none) = _
      rw [h]
    unfold trS at h
    split at h
    · split at h
      · rename_i hc
        obtain ⟨x, hx, rfl⟩ := Option.map_eq_some_iff.mp h
        exact c_expr hc (g.e hx)
      · cases h
    · rename_i x p elt tg iter ifs scope cp pos
      split at h
      · rename_i i m' h1 h2
        split at h
        · rename_i hsw
          cases h
          unfold swOk at hsw
          simp only [Bool.and_eq_true, Bool.not_eq_true', decide_eq_true_eq] at hsw
          obtain ⟨⟨s1, s2⟩, s3⟩ := hsw
          obtain ⟨t, fs, z, it, r1, r2, r3, r4, r5, r6, r7, rfl⟩ := comp_rules (sndE 59) g.g (comp_parts h2)
          obtain ⟨_, _, j, js, e1, _, hj, _, e2⟩ := tg_cons h1
          cases e1
          cases e2
          refine toS (ps_setLc (i := i) (y := x) g.g.calm (by rw [g.g.nN]; exact g.g.nd) (by rw [g.g.nN]; exact idx_get N x i hj) (by rw [g.g.sco]; exact s1)
            (sw_true (by rw [g.g.sco]; exact g.g.kind) (by rw [g.g.sco]; exact s1) s2 s3) r1 r2 r3 r4 r5 r6) fun Dn σ H q => ?_
          refine lc_read r7 ?_
          refine tM.imp (stepS (k := fun ρ d => bindE ρ (liftO (asgTg (.nm i) d ρ)) fun ρ' s => some (.nx ρ', s)) q) fun d φ1 H1 w v rv => ?_
          obtain ⟨φ2, ρ, st1, d', rv', re, rs, p⟩ := w v rv
          obtain ⟨ρ', hρ, p'⟩ := liftO_bindE p
          cases hρ
          exact p'.here rs _ (re.set rv' i)
        · cases h
      · cases h
    · rename_i x p e pos hne
      split at h
      · rename_i i m' h1 h2
        split at h
        · rename_i hn
          cases h
          exact c_asg (g.e h2) (g.pg (name h1)) (sole_none hn) (by cases e <;> rfl) rfl
        · cases h
      · cases h
    · rename_i ts k tp e pos
      split at h
      · rename_i is hts
        split at h
        · rename_i vs k2 p2
          split at h
          · rename_i ms hms
            split at h
            · rename_i hsw
              cases h
              exact c_asgs g.g hts hsw ((sndE 60).args g.g hms)
            · cases h
          · cases h
        · split at h
          · rename_i hn
            obtain ⟨n1, n2⟩ := Bool.and_eq_true_iff.mp hn
            obtain ⟨x, hx, rfl⟩ := Option.map_eq_some_iff.mp h
            refine c_asg (g.e hx) (g.pg ?_) (sole_none n1) (sw_none (by simpa using n2)) rfl
            show (tgNames sc N ts).map Tg.tup = _
            rw [hts]
            rfl
          · cases h
      · cases h
    · rename_i o i p e pos
      split at h
      · rename_i hn
        obtain ⟨n1, n2⟩ := Bool.and_eq_true_iff.mp hn
        split at h
        · rename_i v x y hv hx hy
          cases h
          exact c_sub n1 n2 (g.e hv) (g.e hx) (g.e hy)
        · cases h
      · cases h
    · rename_i x p op e pos
      split at h
      · rename_i hop
        split at h
        · rename_i i m' h1 h2
          cases h
          obtain ⟨_, _, j, js, e1, hk, hj, _, e2⟩ := tg_cons h1
          cases e1
          cases e2
          obtain ⟨l1, l2⟩ : L2.Loc X.env.scope x ∧ (X.fn x = true ∨ X.env.scope.names.lookup x = some .local) := by
            rcases hk with hk | hk
            · exact g.loc x _ hk (.inl rfl)
            · exact g.loc x _ hk (.inr rfl)
          exact c_aug hop (by rw [g.g.nN]; exact g.g.nd) (by rw [g.g.nN]; exact idx_get N x i hj) l1 l2 (g.e h2)
        · cases h
      · cases h
    · split at h
      · rename_i z x y hz hx hy
        cases h
        exact c_ite (g.t hz) (ss_of ih hx) (ss_of ih hy)
      · cases h
    · split at h
      · rename_i t it b ht hit hb
        cases h
        obtain ⟨s1, s2⟩ := src_ok (sndE 60) g.g hit
        exact c_for g.pn g.g.calm s1 (g.pg ht) (ss_of ih hb) s2
      · cases h
    · split at h
      · rename_i z b hz hb
        cases h
        exact c_whl g.pn (g.t hz) (ss_of ih hb)
      · cases h
    · obtain ⟨x, hx, rfl⟩ := Option.map_eq_some_iff.mp h
      exact c_ret (g.e hx)
    · cases h
      exact c_retN
    · cases h
      exact c_pass
    · cases h
      exact c_brk
    · cases h
      exact c_cont
    · cases h
end
end Mi

set_option maxRecDepth 100000
/-! Mini: the defs of a text, and the law's end. -/
namespace Mi
open PySem PySem.Spec PyProof.Rows L2

/-- the defs of a text: name, parameters, body -/
abbrev Txt := List (Str × List Str × Fn)
def tabOf (L : Txt) : Tab := fun x => (L.lookup x).map (·.2)
def tcOf (L : Txt) (kws : List (Str × Nat × List Str)) (bis : List String) : TC := ⟨L.map fun p => (p.1, p.2.1), kws, bis⟩
theorem tc_lookup : ∀ (L : Txt) (x : Str) (ps : List Str), (L.map fun p => (p.1, p.2.1)).lookup x = some ps → ∃ fn, L.lookup x = some (ps, fn)
  | [], _, _, h => by cases h
  | (y, qs, fn) :: L, x, ps, h => by
    rw [List.map_cons, List.lookup_cons] at h
    rw [List.lookup_cons]
    cases e : x == y with
    | true =>
      rw [e] at h
      cases h
      exact ⟨fn, rfl⟩
    | false =>
      rw [e] at h
      exact tc_lookup L x ps h
/-- a def as it stands in the text -/
structure TxtFn (T : TC) (K : PySem.W.Frag) (mg : Str → Option Value) (x : Str) (ps : List Str) (fn : Fn) (st : Stmt) (f : Addr) (fd : FuncData) : Prop where
  F : Fun K x x st f fd
  gm : mg x = some (.ref f)
  sco : FnScope fn.names ps (defScope st)
  tr : smsOf ((defBody st).map (trS T fn.names (defScope st) 60)) = some fn.body
  np : fn.np = ps.length
  nd : (x == ("__debug__" : Str)) = false
  hb : ∀ us : List Value, us.length = ps.length → bindArgs fd ⟨us, []⟩ = pure (ps.zip us)
  hk : ∀ m ks is, (x, m, ks) ∈ T.kws → ks.mapM (fun y => ps.idxOf? y) = some is → ∀ us ws xs : List Value, permG ps.length m is us ws = some xs → bindArgs fd ⟨us, ks.zip ws⟩ = pure (ps.zip xs)
section
variable {P : Program} {w : World} {K : PySem.W.Frag} {mg : Str → Option Value} {base : Heap} {XR : XRT} {L : Txt} {kws : List (Str × Nat × List Str)} {bis : List String} {F : Nat}
theorem re_start {φ : List Addr} {H : Hp} {N : List Str} {vs : List V} {ds : List D} (r : RVs K H φ vs ds) (hl : ds.length ≤ N.length) : RE K (L2.start N vs) H φ (ds.map some ++ List.replicate (N.length - ds.length) none) := by
  have e := r.length
  refine ⟨?_, fun i d h => ?_⟩
  · unfold L2.start
    simp [e]
  · by_cases hi : i < ds.length
    · rw [List.getElem?_append_left (by simpa using hi), List.getElem?_map] at h
      cases hd : ds[i]? with
      | none =>
        rw [hd] at h
        cases h
      | some d' =>
        rw [hd] at h
        cases h
        obtain ⟨v, hv, rv⟩ := r.get hd
        refine ⟨v, ?_, rv⟩
        unfold L2.start
        rw [List.getElem?_append_left (by simp [e]; exact hi), List.getElem?_map, hv]
        rfl
    · rw [List.getElem?_append_right (by simpa using hi), List.getElem?_replicate] at h
      split at h <;> cases h
theorem all_ok (hbi : ∀ f ∈ bis, mg (Str.ofString f) = none) (hbn : ∀ f ∈ bis, Str.ofString f ≠ "__name__" ∧ ((Str.ofString f) == ("__debug__" : Str)) = false) (hbs : ∀ f ∈ bis, f ≠ "range" → f ≠ "enumerate" → f ∈ biNames)
    (HL : ∀ x ps fn, L.lookup x = some (ps, fn) → ∃ st f fd, TxtFn (tcOf L kws bis) K mg x ps fn st f fd) :
    ∀ k x ps fn, L.lookup x = some (ps, fn) → ∀ st f fd, TxtFn (tcOf L kws bis) K mg x ps fn st f fd → FnG P w K mg base k f fd ps (spM XR K (Gm (tabOf L) F k x))
  | 0, x, ps, fn, _, st, f, fd, _ => by
    have no : ∀ vs H Q E, spM XR K (Gm (tabOf L) F 0 x) vs H Q E → False := fun vs H Q E ⟨φ, s, ds, _, _, p⟩ => p
    exact ⟨fun vs H Q E h => (no _ _ _ _ h).elim, fun A outer s H args us vs Q E _ _ _ _ _ h => (no _ _ _ _ h).elim⟩
  | k + 1, x, ps, fn, hx, st, f, fd, TF => by
    have ih := all_ok hbi hbn hbs HL k
    have etab : tabOf L x = some fn := by unfold tabOf; rw [hx]; rfl
    have eG : Gm (tabOf L) F (k + 1) x = runF (Gm (tabOf L) F k) F fn := by
      show (fun ds => match tabOf L x with | some fn => runF (Gm (tabOf L) F k) F fn ds | none => M.stuck) = _
      rw [etab]
    have hlen : ∀ vs H Q E, spM XR K (Gm (tabOf L) F (k + 1) x) vs H Q E → vs.length = ps.length := by
      rintro vs H Q E ⟨φ, s, ds, rs, rv, p⟩
      rw [eG] at p
      unfold runF at p
      split at p
      · rename_i hl
        rw [rv.length, hl, TF.np]
      · exact p.elim
    refine fnG_of TF.F TF.sco hlen fun cd A outer s H vs Q E hr hg hsp => ?_
    have gs : GoodS (tcOf L kws bis) (Gm (tabOf L) F k) XR fn.names (fun c d _ H' => E c d H') (defScope st) (bodyCx P w K mg base fn.names x (defScope st) f cd A outer s H E) := by
      refine ⟨⟨rfl, TF.sco.nd, rfl, rfl, TF.sco.kind, hg, ?_, takes_of rfl rfl rfl rfl, hbi, hbn, hbs, fun y qs hy => ?_⟩, passes_of rfl, fun _ => rfl⟩
      · have := hr.un
        omega
      · obtain ⟨gn, hgn⟩ := tc_lookup L y qs hy
        obtain ⟨st', f', fd', TF'⟩ := HL y qs gn hgn
        exact ⟨TF'.nd, k, f', fd', ih y qs gn hgn st' f' fd' TF', hr, TF'.gm, TF'.F.kp, TF'.hb, TF'.hk⟩
    refine ⟨_, ss_of (fun s m => sndS (F := F) gs 60 s m) TF.tr, ?_⟩
    obtain ⟨φ, s0, ds, rs, rv, p⟩ := hsp
    rw [eG] at p
    unfold runF at p
    split at p
    · rename_i hl
      have hle : ds.length ≤ fn.names.length := by
        have := congrArg List.length TF.sco.pre
        rw [List.length_take] at this
        rw [hl, TF.np]
        omega
      refine ⟨φ, _, s0, re_start rv hle, rs, ?_⟩
      cases e : exSs (Gm (tabOf L) F k) F fn.body (ds.map some ++ List.replicate (fn.names.length - ds.length) none) s0 with
      | none =>
        rw [e] at p
        exact p.elim
      | some r =>
        obtain ⟨fl, s1⟩ := r
        rw [e] at p
        cases fl with
        | nx ρ => exact fun φ1 H1 x1 rs1 σ1 re1 => p φ1 H1 x1 rs1 _ .non
        | ret d => exact p
        | brk ρ => exact p.elim
        | ct ρ => exact p.elim
        | exc c u ρ => exact fun φ1 H1 x1 rs1 σ1 re1 cls d hx => p φ1 H1 x1 rs1 cls d hx
    · exact p.elim
end

/-! ### the end -/
/-- the law's call, from the heap behind the top -/
theorem callG {P : Program} {w : World} {K : PySem.W.Frag} {mg mb : Str → Option Value} {k : Nat} {fa a : Addr} {fd : FuncData} {x : Str} {m : List D → M D} {XR : XRT} {s1 : Shared} {vs : List Value} {ns : List Int} {st' : Sto}
    (KX : K.In s1.heap) (hns : s1.heap.Ns mainGlobals mg) (hb : s1.heap.Ns builtinsNs mb) (hbb : ∀ x : Str, x ≠ "__name__" → mb x = bootBuiltins x) (hlim : s1.heap.NoLimit) (hg : s1.gens = #[])
    (ha : s1.heap.get? a = some { cls := .type "list", data := .seq vs.toArray }) (hi : IntsAre vs ns) (hl : ns.length ≤ sizeLine) (hr : Room k callerA)
    (F : ∀ base : Heap, K.In base → base.Ns mainGlobals mg → FnG P w K mg base k fa fd [x] (spM XR K m)) (hbind : ∀ (s : Shared) (u : Value), BindsTo s fd ⟨[u], []⟩ [(x, u)])
    (hm : m [.frz (ns.map D.int)] [] = some (.ok (.bl true) st')) :
    codeAny (model P w) callerA (.call (.ref fa) ⟨[.ref a], []⟩) (fun r s' => r = .ok (.ret (.bool true)) ∧ OldK s1.heap s'.heap ∧ s'.os = s1.os ∧ AllBare s'.gens) s1 := by
  have rv := vals_ints hi
  have lv := hi.length
  have intsR : ∀ (H : Hp) (ls : List Int), RVs K H [] (ls.map V.int) (ls.map D.int) := fun H ls => by
    induction ls with
    | nil => exact .nil
    | cons i r ih => exact .cons (.int i) ih
  -- an abstract heap that knows at most the script
  have core : ∀ H : Hp, Only H → FzL K H a (ns.map V.int) → HOk P w H s1.heap → (∀ b, H b ≠ none → b = a) → (H a ≠ none → K.lookup a = none) →
      codeAny (model P w) callerA (.call (.ref fa) ⟨[.ref a], []⟩) (fun r s' => r = .ok (.ret (.bool true)) ∧ OldK s1.heap s'.heap ∧ s'.os = s1.os ∧ AllBare s'.gens) s1 := by
    intro H hO hS ok hA hK
    have dict_free : ∀ {b : Addr} {o : Obj} {es : Array DictEntry} {ep : Nat}, s1.heap.get? b = some o → o.data = .dict es ep → H b = none := by
      intro b o es ep e d
      cases q : H b with
      | none => rfl
      | some u =>
        have z : b = a := hA b (by rw [q]; exact fun h => nomatch h)
        rw [z, ha] at e
        cases e
        exact nomatch (show Data.seq vs.toArray _ = Data.dict es ep from d)
    have ns_hid : ∀ {b : Addr} {mp : Str → Option Value}, s1.heap.Ns b mp → (hidT s1.heap H).Ns b mp := by
      rintro b mp ⟨o, es, ep, e, d, r⟩
      exact ⟨o, es, ep, hidT_get e (dict_free e d), d, r⟩
    have K_hid : K.In (hidT s1.heap H) := by
      intro b o e
      refine hidT_get (KX b o e) ?_
      cases q : H b with
      | none => rfl
      | some u =>
        have hq : H b ≠ none := by rw [q]; exact fun h => nomatch h
        have z : b = a := hA b hq
        subst z
        rw [hK hq] at e
        cases e
    obtain ⟨mc, l1, l2⟩ := hlim
    have md : Mod K mg (hidT s1.heap H) := ⟨K_hid, ns_hid hns, ⟨mb, ns_hid hb, hbb⟩, ⟨mc, ns_hid l1, l2⟩⟩
    have e0 : Env0 P w K mg (hidT s1.heap H) callerA [] s1 H := ⟨rfl, md, fun b o e => of_hidT e, Nat.le_of_eq (hidT_size _ _), trivial, fun b z => absurd (show b ∈ ([] : List Addr) from z) List.not_mem_nil, ok, .of_eq hg⟩
    have hsp : spM XR K m [.ref a] H (fun v _ => v = .bl true) fun _ _ _ => False := by
      refine ⟨[], [], [.frz (ns.map D.int)], ⟨List.nodup_nil, rfl, fun n o e => by simp at e⟩, .cons (.frz hS (intsR H ns)) .nil, ?_⟩
      rw [hm]
      intro φ' H' _ _ v rv'
      cases rv'
      rfl
    refine codeAny_mono ((F _ K_hid (ns_hid hns)).run callerA [] s1 H ⟨[.ref a], []⟩ [.ref a] [.ref a] _ _ hr rfl e0 (hbind s1 (.ref a)) (.cons rfl .nil) hsp) fun r s' h => ?_
    match r, h with
    | .error e, h =>
      obtain ⟨_, _, _, _, _, _, _, _, _, _, _, _, z⟩ := h
      exact z.elim
    | .ok (.ret u), h =>
      obtain ⟨v, H', os, bare, un, hok', rel, q⟩ := h
      subst q
      obtain rfl : u = Value.bool true := rel
      refine ⟨rfl, OldK.of_keep fun b o e => ?_, os, bare⟩
      cases q : H b with
      | none => exact un.keep b o e q (fun z => absurd (show b ∈ ([] : List Addr) from z) List.not_mem_nil) (fun z => absurd z List.not_mem_nil)
      | some u =>
        rcases hO b with z | ⟨ob, xs, z⟩
        · rw [q] at z
          cases z
        · obtain ⟨e1, _⟩ := ok b _ z
          obtain ⟨e2, _⟩ := hok' b _ (un.frzs b ob _ z)
          rw [e] at e1
          cases e1
          exact e2
  cases hk : K.lookup a with
  | some o =>
    have e := KX a o hk
    rw [ha] at e
    cases e
    exact core (fun _ => none) (fun _ => .inl rfl) (.inr ⟨_, vs.toArray, _, hk, rfl, rfl, rfl, by rw [List.size_toArray, lv]; exact hl, by simpa using rv⟩) (fun b u z => nomatch z) (fun b z => absurd rfl z) (fun z => absurd rfl z)
  | none =>
    have at_a : (fun b => if b = a then some (HO.frz { cls := .type "list", data := .seq vs.toArray } (.lst (ns.map V.int))) else none : Hp) a = some (HO.frz { cls := .type "list", data := .seq vs.toArray } (.lst (ns.map V.int))) := if_pos rfl
    refine core (fun b => if b = a then some (.frz { cls := .type "list", data := .seq vs.toArray } (.lst (ns.map V.int))) else none) (fun b => ?_) (.inl ⟨_, at_a⟩) (fun b u z => ?_) (fun b z => ?_) fun _ => hk
    · by_cases hba : b = a
      · exact .inr ⟨_, _, if_pos hba⟩
      · exact .inl (if_neg hba)
    · by_cases hba : b = a
      · subst hba
        have z' := at_a.symm.trans z
        cases z'
        exact ⟨ha, by rw [List.length_map]; exact hl, vs, _, rv, ha⟩
      · have z' := (if_neg hba).symm.trans z
        cases z'
    · by_cases hba : b = a
      · exact hba
      · exact absurd (if_neg hba) z
/-- the goal that k_head leaves, from the interpreter's answer -/
theorem walkG {l : PySem.W.OpenLaw} {n k : Nat} {q : Program} {loose : List Str} {XP : (Str → Option Value) → Heap → Prop} {YP : World → Heap → Prop} {d : DefRec} {Kf : Params → PySem.W.Frag} {XR : World → XRT} {m : List D → M D} {x : Str}
    (hn : l.most = some n) (hn2 : n ≤ sizeLine) (hdf : d.params.defaults = []) (hr : Room k callerA) (hY : ∀ (w : World) (h : Heap), YP w h → (Kf w.params).In h)
    (Fn : ∀ (w : World) (mg : Str → Option Value) (fa : Addr) (h : Heap), (Kf w.params).In h → h.Ns mainGlobals mg → mg d.name = some (.ref fa) →
      ∃ fd : FuncData, (∀ (s : Shared) (u : Value), BindsTo s fd ⟨[u], []⟩ [(x, u)]) ∧ ∀ base : Heap, (Kf w.params).In base → base.Ns mainGlobals mg → FnG l.prog w (Kf w.params) mg base k fa fd [x] (spM (XR w) (Kf w.params) m))
    (hm : ∀ ns : List Int, ns.length ≤ n → ∃ st', m [.frz (ns.map D.int)] [] = some (.ok (.bl true) st')) :
    PySem.W.WalkO q loose XP YP l.row.toRowW d [] (fun f vs => PySem.call f vs) := by
  refine Att.attach_call hn hdf fun w s0 s1 mg mb fa o pm cd doc a vs ns G Y ho hd hcd hmg hobj hints hlen hg => ?_
  have KX := hY w _ Y
  obtain ⟨fd, hb, hF⟩ := Fn w mg fa _ KX G.T.g hmg
  obtain ⟨st', hst⟩ := hm ns hlen
  exact callG KX G.T.g G.T.b G.T.builtins G.T.nolimit hg hobj hints (Nat.le_trans hlen hn2) hr hF hb hst
end Mi

set_option maxRecDepth 100000
/-! Mini: how arguments are bound. -/
namespace Mi
open PySem PySem.Spec PyProof.Rows L2

theorem kw_loop {σe : Type} {ps : List Str} {f : Str × Value → List (Str × Value) × σe → Sem (ForInStep (List (Str × Value) × σe))}
    (hf : ∀ x s e, ps.contains x.1 = true → s.lookup x.1 = none → f x (s, e) = pure (.yield (s ++ [(x.1, x.2)], e))) :
    ∀ (kw : List (Str × Value)) (s : List (Str × Value)) (e : σe), (∀ x ∈ kw, ps.contains x.1 = true) → (kw.map (·.1)).Nodup → (∀ x ∈ kw, s.lookup x.1 = none) → forIn kw (s, e) f = pure (s ++ kw, e)
  | [], s, e, _, _, _ => by simp
  | x :: r, s, e, h1, h2, h3 => by
    rw [List.forIn_cons, hf x s e (h1 x List.mem_cons_self) (h3 x List.mem_cons_self), pure_bind]
    rw [List.map_cons, List.nodup_cons] at h2
    have := kw_loop hf r (s ++ [(x.1, x.2)]) e (fun y hy => h1 y (List.mem_cons_of_mem _ hy)) h2.2 (fun y hy => by
      rw [List.lookup_append, h3 y (List.mem_cons_of_mem _ hy)]
      have ne : (y.1 == x.1) = false := beq_eq_false_iff_ne.mpr fun z => h2.1 (z ▸ List.mem_map_of_mem (f := (·.1)) hy)
      simp [List.lookup_cons, ne])
    show forIn r (s ++ [(x.1, x.2)], e) f = _
    rw [this]
    simp
theorem fm_zip : ∀ (ps : List Str) (xs : List Value) (g : Str → Option Value), xs.length = ps.length → (∀ (j : Nat) (x : Str) (v : Value), ps[j]? = some x → xs[j]? = some v → g x = some v) → ps.filterMap (fun n => (g n).map (n, ·)) = ps.zip xs
  | [], [], _, _, _ => rfl
  | [], _ :: _, _, h, _ => by simp at h
  | _ :: _, [], _, h, _ => by simp at h
  | p :: ps, x :: xs, g, hl, h => by
    rw [List.filterMap_cons, h 0 p x rfl rfl]
    show (p, x) :: ps.filterMap _ = (p, x) :: ps.zip xs
    rw [fm_zip ps xs g (by simpa using hl) fun j y v h1 h2 => h (j + 1) y v (by simpa using h1) (by simpa using h2)]
/-- plain parameters -/
structure Plain (fd : FuncData) (ps : List Str) : Prop where
  po : fd.params.posonlyargs = []
  ar : fd.params.args.map (·.arg) = ps
  va : fd.params.vararg = none
  ko : fd.params.kwonlyargs = []
  kw : fd.params.kwarg = none
  df : fd.defaults = .none
theorem bind_any {fd : FuncData} {ps : List Str} {us xs : List Value} {kw : List (Str × Value)} (h : Plain fd ps) (hl : us.length ≤ ps.length) (h1 : ∀ x ∈ kw, ps.contains x.1 = true) (h2 : (kw.map (·.1)).Nodup) (h3 : ∀ x ∈ kw, (ps.zip us).lookup x.1 = none)
    (hx : xs.length = ps.length) (hg : ∀ (j : Nat) (x : Str) (v : Value), ps[j]? = some x → xs[j]? = some v → (ps.zip us ++ kw).lookup x = some v) : bindArgs fd ⟨us, kw⟩ = pure (ps.zip xs) := by
  have e7 : seqItems? Value.none = pure none := rfl
  have hmiss : ps.filter (fun n => ((ps.zip us ++ kw).lookup n).isNone) = [] := by
    rw [List.filter_eq_nil_iff]
    intro n hn
    obtain ⟨j, hj, e⟩ := List.mem_iff_getElem.mp hn
    have e1 : ps[j]? = some n := by rw [List.getElem?_eq_getElem hj, e]
    have hj' : j < xs.length := by rw [hx]; exact hj
    rw [hg j n xs[j] e1 (List.getElem?_eq_getElem hj')]
    simp
  have hgt : (decide (us.length > ps.length) && true) = false := by simp; omega
  unfold bindArgs
  simp only [h.po, h.ar, h.va, h.ko, h.kw, h.df, List.map_nil, List.nil_append, List.append_nil, e7, pure_bind, Option.getD_none, List.isEmpty_nil, List.length_nil, Nat.zero_sub, List.drop_nil, Nat.sub_zero, List.take_length, List.zip_nil_right, List.forIn_nil, Option.isSome_none]
  rw [kw_loop (ps := ps) (fun x s e c1 c2 => by
    dsimp only
    rw [if_pos (by rw [c1]; rfl), if_neg (by rw [c2]; exact Bool.false_ne_true)]) kw _ _ h1 h2 h3]
  simp only [pure_bind]
  have e8 : ¬ ((decide (us.length > ps.length) && Option.isNone (none : Option PySem.Arg)) = true) := by
    rw [show Option.isNone (none : Option PySem.Arg) = true from rfl, hgt]
    exact Bool.false_ne_true
  rw [if_neg e8]
  simp only [Array.toList, hmiss, List.isEmpty_nil, Bool.not_true, Bool.false_eq_true, if_false, List.drop_nil, List.length_nil, Nat.sub_zero, List.take_length, List.zip_nil_right, List.forIn_nil, pure_bind, Nat.zero_sub]
  rw [fm_zip ps xs _ hx hg]
theorem zip_at : ∀ {ps : List Str} {us : List Value} {j : Nat} {x : Str} {v : Value}, ps.Nodup → ps[j]? = some x → us[j]? = some v → (ps.zip us).lookup x = some v
  | [], _, _, _, _, _, h, _ => by simp at h
  | _ :: _, [], _, _, _, _, _, h => by simp at h
  | p :: ps, u :: us, 0, x, v, _, h1, h2 => by
    simp at h1 h2
    subst h1
    subst h2
    simp [List.lookup_cons]
  | p :: ps, u :: us, j + 1, x, v, nd, h1, h2 => by
    rw [List.nodup_cons] at nd
    have h1' : ps[j]? = some x := by simpa using h1
    have ne : (x == p) = false := beq_eq_false_iff_ne.mpr fun z => nd.1 (z ▸ List.mem_of_getElem? h1')
    rw [List.zip_cons_cons, List.lookup_cons, ne]
    exact zip_at nd.2 h1' (by simpa using h2)
theorem zip_no : ∀ {ps : List Str} {us : List Value} {j : Nat} {x : Str}, ps.Nodup → ps[j]? = some x → us.length ≤ j → (ps.zip us).lookup x = none
  | [], _, _, _, _, h, _ => by simp at h
  | _ :: _, [], _, _, _, _, _ => by simp
  | p :: ps, u :: us, 0, _, _, _, h => by simp at h
  | p :: ps, u :: us, j + 1, x, nd, h1, h2 => by
    rw [List.nodup_cons] at nd
    have h1' : ps[j]? = some x := by simpa using h1
    have ne : (x == p) = false := beq_eq_false_iff_ne.mpr fun z => nd.1 (z ▸ List.mem_of_getElem? h1')
    rw [List.zip_cons_cons, List.lookup_cons, ne]
    exact zip_no nd.2 h1' (by simpa using h2)
theorem bind_pos {fd : FuncData} {ps : List Str} (h : Plain fd ps) (nd : ps.Nodup) (us : List Value) (hl : us.length = ps.length) : bindArgs fd ⟨us, []⟩ = pure (ps.zip us) :=
  bind_any h (Nat.le_of_eq hl) (fun _ z => absurd z List.not_mem_nil) List.nodup_nil (fun _ z => absurd z List.not_mem_nil) hl fun j x v h1 h2 => by
    rw [List.append_nil]
    exact zip_at nd h1 h2
theorem range_mapM {α : Type} {f : Nat → Option α} : ∀ (l : List Nat) (xs : List α), l.mapM f = some xs → ∀ (j i : Nat), l[j]? = some i → ∃ a, xs[j]? = some a ∧ f i = some a
  | [], _, _, j, _, h => by simp at h
  | k :: l, xs, e, j, i, h => by
    simp only [List.mapM_cons, Option.bind_eq_bind, Option.bind_eq_some_iff, Option.pure_def, Option.some.injEq] at e
    obtain ⟨a, ha, as, has, rfl⟩ := e
    cases j with
    | zero =>
      simp at h
      subst h
      exact ⟨a, rfl, ha⟩
    | succ j =>
      obtain ⟨b, h1, h2⟩ := range_mapM l as has j i (by simpa using h)
      exact ⟨b, by simpa using h1, h2⟩
theorem nodup_at {ps : List Str} (nd : ps.Nodup) {i j : Nat} {x : Str} (h1 : ps[i]? = some x) (h2 : ps[j]? = some x) : i = j := by
  obtain ⟨l1, e1⟩ := List.getElem?_eq_some_iff.mp h1
  obtain ⟨l2, e2⟩ := List.getElem?_eq_some_iff.mp h2
  exact (List.getElem_inj nd).mp (e1.trans e2.symm)
theorem kw_look {ps : List Str} (nd : ps.Nodup) {j : Nat} {x : Str} (hx : ps[j]? = some x) : ∀ (ks : List Str) (is : List Nat) (ws : List Value), ks.mapM (fun y => ps.idxOf? y) = some is → (ks.zip ws).lookup x = (is.zip ws).lookup j
  | [], is, ws, h => by
    simp at h
    subst h
    simp
  | k :: ks, is, ws, h => by
    simp only [List.mapM_cons, Option.bind_eq_bind, Option.bind_eq_some_iff, Option.pure_def, Option.some.injEq] at h
    obtain ⟨i, hi, js, hjs, rfl⟩ := h
    cases ws with
    | nil => simp
    | cons w ws =>
      rw [List.zip_cons_cons, List.zip_cons_cons, List.lookup_cons, List.lookup_cons, kw_look nd hx ks js ws hjs]
      have hk := idx_get ps k i hi
      by_cases e : x = k
      · subst e
        have : j = i := nodup_at nd hx hk
        simp [this]
      · have e1 : (x == k) = false := beq_eq_false_iff_ne.mpr e
        have e2 : (j == i) = false := beq_eq_false_iff_ne.mpr fun z => e (by
          subst z
          rw [hx] at hk
          exact Option.some.inj hk)
        rw [e1, e2]
theorem zip_sub : ∀ (ks : List Str) (ws : List Value), List.Sublist ((ks.zip ws).map (·.1)) ks
  | [], _ => by simp
  | _ :: _, [] => by simp
  | k :: ks, w :: ws => (zip_sub ks ws).cons_cons k
/-- what is checked of a keyword call -/
def kwOk (ps : List Str) (m : Nat) (ks : List Str) : Bool := match ks.mapM fun y => ps.idxOf? y with
  | some is => is.all (fun i => decide (m ≤ i)) && decide (is.Nodup) && decide (m ≤ ps.length) && decide (ks.Nodup)
  | none => false
theorem bind_kw {fd : FuncData} {ps : List Str} (h : Plain fd ps) (nd : ps.Nodup) {m : Nat} {ks : List Str} {is : List Nat} (hc : kwOk ps m ks = true) (hi : ks.mapM (fun y => ps.idxOf? y) = some is) (us ws xs : List Value) (hp : permG ps.length m is us ws = some xs) :
    bindArgs fd ⟨us, ks.zip ws⟩ = pure (ps.zip xs) := by
  unfold kwOk at hc
  rw [hi] at hc
  simp only [Bool.and_eq_true, List.all_eq_true, decide_eq_true_eq] at hc
  obtain ⟨⟨⟨c1, c2⟩, c3⟩, c4⟩ := hc
  have hlen := permG_len hp
  unfold permG at hp
  split at hp
  · rename_i hl
    obtain ⟨l1, l2⟩ := hl
    -- a keyword's name and its place
    have place : ∀ y ∈ ks, ∃ i, ps[i]? = some y ∧ m ≤ i := by
      intro y hy
      obtain ⟨a, ha, e⟩ := List.mem_iff_getElem.mp hy
      have : ∀ (ks : List Str) (is : List Nat), ks.mapM (fun y => ps.idxOf? y) = some is → y ∈ ks → ∃ i ∈ is, ps.idxOf? y = some i := by
        intro ks
        induction ks with
        | nil => intro is _ h; simp at h
        | cons k r ih =>
          intro is h hy
          simp only [List.mapM_cons, Option.bind_eq_bind, Option.bind_eq_some_iff, Option.pure_def, Option.some.injEq] at h
          obtain ⟨i, hi, js, hjs, rfl⟩ := h
          rcases List.mem_cons.mp hy with rfl | hy
          · exact ⟨i, List.mem_cons_self, hi⟩
          · obtain ⟨i', h1, h2⟩ := ih js hjs hy
            exact ⟨i', List.mem_cons_of_mem _ h1, h2⟩
      obtain ⟨i, h1, h2⟩ := this ks is hi hy
      exact ⟨i, idx_get ps y i h2, c1 i h1⟩
    refine bind_any h (by rw [l1]; exact c3) (fun x hx => ?_) ?_ (fun x hx => ?_) hlen fun j x v hj hv => ?_
    · obtain ⟨i, h1, _⟩ := place x.1 (List.of_mem_zip hx).1
      simpa using List.mem_of_getElem? h1
    · refine c4.sublist ?_
      exact zip_sub ks ws
    · obtain ⟨i, h1, h2⟩ := place x.1 (List.of_mem_zip hx).1
      exact zip_no nd h1 (by rw [l1]; exact h2)
    · have hjl : j < ps.length := (List.getElem?_eq_some_iff.mp hj).1
      obtain ⟨a, ha, hf⟩ := range_mapM _ xs hp j j (by rw [List.getElem?_range hjl])
      rw [hv] at ha
      cases ha
      by_cases hm : j < m
      · rw [if_pos hm] at hf
        rw [List.lookup_append, zip_at nd hj hf]
        rfl
      · rw [if_neg hm] at hf
        rw [List.lookup_append, zip_no nd hj (by rw [l1]; omega), kw_look nd hj ks is ws hi, hf]
        rfl
  · cases hp
end Mi

set_option maxRecDepth 100000
/-! Mini: from the head's facts to the law's end. -/
namespace Mi
open PySem PySem.Spec PyProof.Rows L2

/-- a def of the row: its statement, name, parameters, text -/
structure TD where
  st : Stmt
  x : Str
  ps : List Str
  fn : Fn
def TD.dd (t : TD) : He.DefD := ⟨(t.x, none), t.x, t.x, defArgs t.st, defBody t.st, defScope t.st, [], []⟩
def txtOf (ts : List TD) : Txt := ts.map fun t => (t.x, t.ps, t.fn)
def faOf (ts : List TD) (bis : List String) : List He.Fa := ts.map (fun t => He.Fa.glo t.x) ++ bis.map fun b => He.Fa.free (Str.ofString b)
def plainC (a : Arguments) (ps : List Str) : Bool := a.posonlyargs.isEmpty && decide (a.args.map (·.arg) = ps) && a.vararg.isNone && a.kwonlyargs.isEmpty && a.kwarg.isNone
/-- what is looked at, by the kernel -/
def tdC (T : TC) (t : TD) : Bool :=
  C8.scC t.fn.names t.ps (defScope t.st) && (decide (smsOf ((defBody t.st).map (trS T t.fn.names (defScope t.st) 60)) = some t.fn.body) && (decide (t.fn.np = t.ps.length) && (!(t.x == ("__debug__" : Str)) &&
    (plainC (defArgs t.st) t.ps && (decide t.ps.Nodup && T.kws.all fun q => !(decide (q.1 = t.x)) || kwOk t.ps q.2.1 q.2.2)))))
theorem txt_of {T : TC} {K : PySem.W.Frag} {mg : Str → Option Value} {t : TD} (h : tdC T t = true) {f : Addr} {fd : FuncData} (F : FunD K t.x t.x (defArgs t.st) (defBody t.st) (defScope t.st) [] [] f fd) (hm : mg t.x = some (.ref f)) :
    TxtFn T K mg t.x t.ps t.fn t.st f fd := by
  unfold tdC at h
  simp only [Bool.and_eq_true] at h
  obtain ⟨h1, h2, h3, h4, h5, h6, h7⟩ := h
  have pl : plainC (defArgs t.st) t.ps = true := h5
  unfold plainC at pl
  simp only [Bool.and_eq_true, List.isEmpty_iff, Option.isNone_iff_eq_none, decide_eq_true_eq] at pl
  obtain ⟨⟨⟨⟨p1, p2⟩, p3⟩, p4⟩, p5⟩ := pl
  have nd := of_decide_eq_true h6
  obtain ⟨oc, od, dV, kV, doc, pm, an, cdv, ct, osl, rfl, lk, hcd, hD, _⟩ := F.ex
  have hdV : dV = .none := by
    rcases hD with ⟨_, e⟩ | ⟨e, _⟩
    · exact e
    · exact absurd rfl e
  subst hdV
  have P : Plain (PySem.W.fnOf t.x t.x (defArgs t.st) (defBody t.st) (defScope t.st) .none kV doc pm an cdv ct) t.ps := ⟨p1, p2, p3, p4, p5, rfl⟩
  refine ⟨⟨⟨oc, od, kV, doc, pm, an, cdv, ct, osl, rfl, lk, hcd⟩, F.kp⟩, hm, C8.fnScope_by h1, of_decide_eq_true h2, of_decide_eq_true h3, ?_, fun us hl => bind_pos P nd us hl, fun m ks is hk hi us ws xs hp => bind_kw P nd ?_ hi us ws xs hp⟩
  · simpa using h4
  · have := List.all_eq_true.mp h7 _ hk
    simpa using this
theorem look_td : ∀ {ts : List TD} {x : Str} {ps : List Str} {fn : Fn}, (txtOf ts).lookup x = some (ps, fn) → ∃ (i : Nat) (t : TD), ts[i]? = some t ∧ t.x = x ∧ t.ps = ps ∧ t.fn = fn
  | [], _, _, _, h => by cases h
  | t :: ts, x, ps, fn, h => by
    unfold txtOf at h
    rw [List.map_cons, List.lookup_cons] at h
    cases e : x == t.x with
    | true =>
      rw [e] at h
      cases h
      exact ⟨0, t, rfl, (eq_of_beq e).symm, rfl, rfl⟩
    | false =>
      rw [e] at h
      obtain ⟨i, t', h1, h2⟩ := look_td (ts := ts) h
      exact ⟨i + 1, t', by simpa using h1, h2⟩
section
variable {K : PySem.W.Frag} {mg : Str → Option Value} {h : Heap} {ts : List TD} {kws : List (Str × Nat × List Str)} {bis : List String}
theorem tds_ok (hT : ts.all (tdC (tcOf (txtOf ts) kws bis)) = true) (X : K.In h) (G : h.Ns mainGlobals mg) (c : He.SaysD (faOf ts bis) (ts.map TD.dd) K) :
    ∀ x ps fn, (txtOf ts).lookup x = some (ps, fn) → ∃ st f fd, TxtFn (tcOf (txtOf ts) kws bis) K mg x ps fn st f fd := by
  intro x ps fn hl
  obtain ⟨i, t, hi, rfl, rfl, rfl⟩ := look_td hl
  have hi' : (ts.map TD.dd)[i]? = some t.dd := by rw [List.getElem?_map, hi]; rfl
  obtain ⟨fd, F⟩ := c.def_ i hi'
  have hf : (faOf ts bis)[i]? = some (He.Fa.glo t.x) := by
    unfold faOf
    rw [List.getElem?_append_left (by rw [List.length_map]; exact (List.getElem?_eq_some_iff.mp hi).1), List.getElem?_map, hi]
    rfl
  exact ⟨t.st, _, fd, txt_of (List.all_eq_true.mp hT _ (List.mem_of_getElem? hi)) F (He.glo_ok X G (c.fact i hf))⟩
theorem bis_ok (X : K.In h) (G : h.Ns mainGlobals mg) (c : He.SaysD (faOf ts bis) (ts.map TD.dd) K) : ∀ f ∈ bis, mg (Str.ofString f) = none := by
  intro f hf
  obtain ⟨i, hi, e⟩ := List.mem_iff_getElem.mp hf
  have : (faOf ts bis)[ts.length + i]? = some (He.Fa.free (Str.ofString f)) := by
    unfold faOf
    rw [List.getElem?_append_right (by simp), List.length_map, Nat.add_sub_cancel_left, List.getElem?_map, List.getElem?_eq_getElem hi, e]
    rfl
  exact He.free_ok X G (c.fact _ this)
end
def bisC (bis : List String) : Bool := bis.all fun f => !(decide (Str.ofString f = "__name__")) && (!((Str.ofString f) == ("__debug__" : Str)) && (decide (f = "range") || (decide (f = "enumerate") || decide (f ∈ biNames))))
/-- the goal that the head leaves, from the interpreter's answer -/
theorem walkM {l : PySem.W.OpenLaw} {n k F : Nat} {q : Program} {loose : List Str} {XP : (Str → Option Value) → Heap → Prop} {d : DefRec} (ts : List TD) (kws : List (Str × Nat × List Str)) (bis : List String) {y x : Str} {fn : Fn} {XR : World → XRT}
    (hn : l.most = some n) (hn2 : n ≤ sizeLine) (hdf : d.params.defaults = []) (hr : Room k callerA) (hd : d.name = y) (hT : ts.all (tdC (tcOf (txtOf ts) kws bis)) = true) (hB : bisC bis = true) (hy : (txtOf ts).lookup y = some ([x], fn))
    (hm : ∀ ns : List Int, ns.length ≤ n → ∃ st', Gm (tabOf (txtOf ts)) F k y [.frz (ns.map D.int)] [] = some (.ok (.bl true) st')) :
    PySem.W.WalkO q loose XP (fun _ h => ∃ K : PySem.W.Frag, K.In h ∧ He.SaysD (faOf ts bis) (ts.map TD.dd) K) l.row.toRowW d [] (fun f vs => PySem.call f vs) := by
  refine Att.attach_call hn hdf fun w s0 s1 mg mb fa o pm cd doc a vs ns G Y ho hd' hcd hmg hobj hints hlen hg => ?_
  obtain ⟨K, KX, c⟩ := Y
  rw [hd] at hmg
  have all := tds_ok hT KX G.T.g c
  obtain ⟨st, f, fd, TF⟩ := all y [x] fn hy
  have e := hmg.symm.trans TF.gm
  cases e
  have hB' := List.all_eq_true.mp (show (bis.all _) = true from hB)
  obtain ⟨st', hst⟩ := hm ns hlen
  exact callG (XR := XR w) (m := Gm (tabOf (txtOf ts)) F k y) (mg := mg) KX G.T.g G.T.b G.T.builtins G.T.nolimit hg hobj hints (Nat.le_trans hlen hn2) hr
    (fun base hK hN => all_ok (kws := kws) (bis_ok KX G.T.g c) (fun f hf => by
      have := hB' f hf
      simp at this
      exact ⟨this.1, by simpa using this.2.1⟩) (fun f hf h1 h2 => by
      have := hB' f hf
      simp at this
      rcases this.2.2 with z | z | z
      · exact absurd z h1
      · exact absurd z h2
      · exact z) all k y [x] fn hy st _ fd TF)
    (fun s u => .of_eq (TF.hb [u] rfl)) hst
end Mi

set_option maxRecDepth 100000
/-! Mini: tools of the plain laws. -/
namespace Mi
open PySem

@[simp] theorem bind_at {α β : Type} (m : M α) (k : α → M β) (s : Sto) : (m >>= k) s = (match m s with
  | none => none
  | some (.ok a s') => k a s'
  | some (.exc c w s') => some (.exc c w s')) := rfl
@[simp] theorem lift_at {α : Type} (o : Option α) (s : Sto) : (liftO o : M α) s = o.map fun a => .ok a s := rfl
theorem gm_at {T : Tab} {F k : Nat} {f : Str} {fn : Fn} (h : T f = some fn) {ds : List D} (hl : ds.length = fn.np) {s s' : Sto} {d : D}
    (e : exSs (Gm T F k) F fn.body (ds.map some ++ List.replicate (fn.names.length - ds.length) none) s = some (.ret d, s')) : Gm T F (k + 1) f ds s = some (.ok d s') := by
  show (match T f with
    | some fn => runF (Gm T F k) F fn ds
    | none => M.stuck) s = _
  rw [h]
  show runF (Gm T F k) F fn ds s = _
  unfold runF
  rw [if_pos hl, e]
/-! ### the store -/
theorem lstAt_lt {s : Sto} {n : Nat} {xs : List D} (h : lstAt s n = some xs) : n < s.length := (List.getElem?_eq_some_iff.mp (lstAt_some.mp h)).1
theorem lstAt_set {s : Sto} {n : Nat} {xs : List D} (ys : List D) (h : lstAt s n = some xs) : lstAt (s.set n (.lst ys)) n = some ys := by
  rw [lstAt_some, List.getElem?_set]
  simp [lstAt_lt h]
theorem lstAt_set_ne {s : Sto} {n m : Nat} {o : O} (h : n ≠ m) : lstAt (s.set n o) m = lstAt s m := by
  unfold lstAt
  rw [List.getElem?_set_ne h]
@[simp] theorem lstAt_new (s : Sto) (xs : List D) : lstAt (s ++ [.lst xs]) s.length = some xs := by
  rw [lstAt_some]
  simp
theorem lstAt_app {s : Sto} {n : Nat} {xs : List D} (h : lstAt s n = some xs) (t : Sto) : lstAt (s ++ t) n = some xs := by
  rw [lstAt_some, List.getElem?_append_left (lstAt_lt h)]
  exact lstAt_some.mp h
/-- what a drawing leaves: all but the jar at j stands as it stood -/
def Fr (j : Nat) (s s' : Sto) : Prop := s.length ≤ s'.length ∧ ∀ m, m < s.length → m ≠ j → s'[m]? = s[m]?
theorem Fr.same (j : Nat) (s : Sto) : Fr j s s := ⟨Nat.le_refl _, fun _ _ _ => rfl⟩
theorem Fr.trans {j : Nat} {s s1 s2 : Sto} (a : Fr j s s1) (b : Fr j s1 s2) : Fr j s s2 :=
  ⟨Nat.le_trans a.1 b.1, fun m h n => (b.2 m (Nat.lt_of_lt_of_le h a.1) n).trans (a.2 m h n)⟩
theorem Fr.set {j : Nat} {s : Sto} (o : O) : Fr j s (s.set j o) := ⟨by simp, fun m _ n => List.getElem?_set_ne (Ne.symm n)⟩
theorem Fr.app {j : Nat} {s : Sto} (t : Sto) : Fr j s (s ++ t) := ⟨by simp, fun m h _ => List.getElem?_append_left h⟩
theorem Fr.lst {j n : Nat} {s s' : Sto} {xs : List D} (f : Fr j s s') (h : lstAt s n = some xs) (hn : n ≠ j) : lstAt s' n = some xs := by
  rw [lstAt_some, f.2 n (lstAt_lt h) hn]
  exact lstAt_some.mp h
/-- .. an object made behind s changed as well -/
theorem Fr.setNew {j n : Nat} {s s' : Sto} (f : Fr j s s') (h : s.length ≤ n) (o : O) : Fr j s (s'.set n o) :=
  ⟨by simpa using f.1, fun m hm hj => by rw [List.getElem?_set_ne (by omega)]; exact f.2 m hm hj⟩
/-- a jar stands at j -/
def Jar (s : Sto) (j : Nat) : Prop := ∃ a b : Int, lstAt s j = some [.int a, .int b]
theorem Jar.app {s : Sto} {j : Nat} (h : Jar s j) (t : Sto) : Jar (s ++ t) j := by
  obtain ⟨a, b, h⟩ := h
  exact ⟨a, b, lstAt_app h t⟩
theorem Jar.lt {s : Sto} {j : Nat} (h : Jar s j) : j < s.length := by
  obtain ⟨a, b, h⟩ := h
  exact lstAt_lt h
theorem Jar.set {s : Sto} {j n : Nat} {o : O} (h : Jar s j) (hn : n ≠ j) : Jar (s.set n o) j := by
  obtain ⟨a, b, h⟩ := h
  exact ⟨a, b, by rw [lstAt_set_ne hn]; exact h⟩
/-! ### items by places -/
theorem atD_nat {xs : List D} {i : Nat} (h : i < xs.length) : atD xs (i : Int) = xs[i]? := by
  unfold atD L2.ixN
  rw [if_pos (by omega), if_pos (by omega)]
  simp
theorem atD_int {xs : List D} {i : Int} (h0 : 0 ≤ i) (h : i < xs.length) : ∃ d, atD xs i = some d ∧ d ∈ xs := by
  obtain ⟨n, rfl⟩ := Int.eq_ofNat_of_zero_le h0
  have hn : n < xs.length := by omega
  exact ⟨xs[n], by rw [atD_nat hn, List.getElem?_eq_getElem hn], List.getElem_mem hn⟩
theorem idxE_seq {th : D} {xs : List D} {s : Sto} (h : seqOf th s = some xs) (i : Int) : idxE th (.int i) s = (atD xs i).map fun d => .ok d s := by
  cases th with
  | tup ys => cases h; rfl
  | frz ys => cases h; rfl
  | obj n =>
    show (lstAt s n).bind _ = _
    rw [show lstAt s n = some xs from h]
    rfl
  | _ => cases h
theorem seqOf_Fr {j : Nat} {s s' : Sto} (f : Fr j s s') {th : D} {xs : List D} (h : seqOf th s = some xs) (hn : th ≠ .obj j) : seqOf th s' = some xs := by
  cases th with
  | obj n => exact f.lst h fun z => hn (by rw [z])
  | _ => exact h
theorem enumD_at : ∀ (ds : List D) (k i : Nat), (enumD k ds)[i]? = ds[i]?.map fun d => .tup [.int ((k + i : Nat) : Int), d]
  | [], k, i => by simp [enumD]
  | d :: ds, k, 0 => by simp [enumD]
  | d :: ds, k, i + 1 => by
    rw [enumD, List.getElem?_cons_succ, enumD_at ds (k + 1) i, List.getElem?_cons_succ]
    congr 2
    funext d
    rw [show k + 1 + i = k + (i + 1) by omega]
theorem enumD_len : ∀ (ds : List D) (k : Nat), (enumD k ds).length = ds.length
  | [], k => rfl
  | d :: ds, k => by simp [enumD, enumD_len ds (k + 1)]
theorem rangeD_at : ∀ (n : Nat) (lo : Int) (i : Nat), (rangeD lo n)[i]? = if i < n then some (.int (lo + i)) else none
  | 0, lo, i => by simp [rangeD]
  | n + 1, lo, 0 => by simp [rangeD]
  | n + 1, lo, i + 1 => by
    rw [rangeD, List.getElem?_cons_succ, rangeD_at n (lo + 1) i]
    by_cases h : i < n
    · rw [if_pos h, if_pos (by omega)]
      congr 2
      omega
    · rw [if_neg h, if_neg (by omega)]
theorem rangeD_len : ∀ (n : Nat) (lo : Int), (rangeD lo n).length = n
  | 0, lo => rfl
  | n + 1, lo => by simp [rangeD, rangeD_len n (lo + 1)]
/-! ### comprehensions, loops -/
/-- a comprehension that changes nothing: its items by places -/
theorem comp_at {w : Wk} {turn : D → M (Option D)} {s : Sto} (hw : w.ok s = true) : ∀ (ds : List D) (acc : List D) (r : Nat → Option D), acc.length + ds.length ≤ 16777216 → (∀ i d, ds[i]? = some d → turn d s = some (.ok (r i) s)) →
    compL w turn ds acc s = some (.ok (acc ++ (List.range ds.length).filterMap r) s)
  | [], acc, r, _, _ => by
    show (if w.ok s then some (R.ok acc s) else none) = _
    rw [if_pos hw]
    simp
  | d :: ds, acc, r, hl, h => by
    have h0 := h 0 d rfl
    have ht : ∀ i e, ds[i]? = some e → turn e s = some (.ok (r (i + 1)) s) := fun i e he => h (i + 1) e (by simpa using he)
    have hr : (List.range (d :: ds).length).filterMap r = (match r 0 with
      | some x => [x]
      | none => []) ++ (List.range ds.length).filterMap fun i => r (i + 1) := by
      rw [List.length_cons, List.range_succ_eq_map, List.filterMap_cons, List.filterMap_map]
      cases r 0 <;> rfl
    rw [List.length_cons] at hl
    rw [hr]
    unfold compL
    rw [if_pos hw, bind_ok h0]
    cases e0 : r 0 with
    | none =>
      dsimp only
      rw [comp_at hw ds acc (fun i => r (i + 1)) (by omega) ht]
      simp
    | some x =>
      dsimp only
      rw [if_pos (by omega), comp_at hw ds (acc ++ [x]) (fun i => r (i + 1)) (by simp; omega) ht]
      simp
theorem comp_run {w : Wk} {turn : D → M (Option D)} {I : List D → List D → Sto → Prop} (hw : ∀ ds acc s, I ds acc s → w.ok s = true)
    (hs : ∀ d ds acc s, I (d :: ds) acc s → acc.length < 16777216 ∧ ∃ o s', turn d s = some (.ok o s') ∧ I ds (acc ++ o.toList) s') : ∀ (ds acc : List D) (s : Sto), I ds acc s → ∃ xs s', compL w turn ds acc s = some (.ok xs s') ∧ I [] xs s'
  | [], acc, s, h => ⟨acc, s, by
    show (if w.ok s then some (R.ok acc s) else none) = _
    rw [if_pos (hw _ _ _ h)], h⟩
  | d :: ds, acc, s, h => by
    obtain ⟨hl, o, s', e, h'⟩ := hs d ds acc s h
    obtain ⟨xs, s2, e2, h2⟩ := comp_run hw hs ds _ s' h'
    refine ⟨xs, s2, ?_, h2⟩
    unfold compL
    rw [if_pos (hw _ _ _ h), bind_ok e]
    cases o with
    | none => simpa using e2
    | some x =>
      dsimp only
      rw [if_pos hl]
      exact e2
theorem for_run {w : Wk} {turn : D → Env → MS} {I : List D → Env → Sto → Prop} (hw : ∀ ds ρ s, I ds ρ s → w.ok s = true)
    (hs : ∀ d ds ρ s, I (d :: ds) ρ s → ∃ ρ' s', turn d ρ s = some (.nx ρ', s') ∧ I ds ρ' s') : ∀ (ds : List D) (ρ : Env) (s : Sto), I ds ρ s → ∃ ρ' s', forS w turn ds ρ s = some (.nx ρ', s') ∧ I [] ρ' s'
  | [], ρ, s, h => ⟨ρ, s, by
    show (if w.ok s then some (Fl.nx ρ, s) else none) = _
    rw [if_pos (hw _ _ _ h)], h⟩
  | d :: ds, ρ, s, h => by
    obtain ⟨ρ', s', e, h'⟩ := hs d ds ρ s h
    obtain ⟨ρ2, s2, e2, h2⟩ := for_run hw hs ds ρ' s' h'
    refine ⟨ρ2, s2, ?_, h2⟩
    unfold forS
    rw [if_pos (hw _ _ _ h), e]
    exact e2
/-! ### data of a bounded size -/
structure Tame (p : PyData) (dp wt : Nat) : Prop where
  sh : p.showable = true
  nd : p.hasDict = false
  cl : p.canLay0 = true
  ls : PyData.leavesShort 13 p = true
  de : p.depth ≤ dp
  we : p.weight ≤ wt
theorem Tame.int {i : Int} (h : i.natAbs < 10 ^ 12) : Tame (.int i) 0 41 := by
  have hl : i.natAbs.log2 < 40 := by
    by_cases z : i.natAbs = 0
    · rw [z]; decide
    · exact (Nat.log2_lt z).mpr (Nat.lt_of_lt_of_le h (by decide))
  refine ⟨?_, by simp [PyData.hasDict], by simp [PyData.canLay0], ?_, by simp [PyData.depth], ?_⟩
  · simp only [PyData.showable, decide_eq_true_eq]
    omega
  · simp only [PyData.leavesShort, decide_eq_true_eq]
    exact PyData.shown_int_le h
  · unfold PyData.weight
    split
    · omega
    · omega
theorem tame_all : ∀ {ps : List PyData} {dp wt : Nat}, (∀ p ∈ ps, Tame p dp wt) → PyData.showableAll ps = true ∧ PyData.hasDictAll ps = false ∧ PyData.canLayAll0 ps = true ∧ PyData.leavesShortAll 13 ps = true ∧ PyData.depthAll ps ≤ dp ∧ PyData.weightAll ps ≤ ps.length * (wt + 1)
  | [], dp, wt, _ => by simp [PyData.showableAll, PyData.hasDictAll, PyData.canLayAll0, PyData.leavesShortAll, PyData.depthAll, PyData.weightAll]
  | p :: ps, dp, wt, h => by
    have a := h p List.mem_cons_self
    obtain ⟨b1, b2, b3, b4, b5, b6⟩ := tame_all fun q hq => h q (List.mem_cons_of_mem _ hq)
    refine ⟨?_, ?_, ?_, ?_, ?_, ?_⟩
    · simp [PyData.showableAll, a.sh, b1]
    · simp [PyData.hasDictAll, a.nd, b2]
    · simp [PyData.canLayAll0, a.cl, b3]
    · simp [PyData.leavesShortAll, a.ls, b4]
    · simp only [PyData.depthAll]
      exact Nat.max_le.mpr ⟨a.de, b5⟩
    · have := a.we
      simp only [PyData.weightAll, List.length_cons, Nat.add_mul, Nat.one_mul]
      omega
theorem Tame.tuple {ps : List PyData} {dp wt : Nat} (h : ∀ p ∈ ps, Tame p dp wt) : Tame (.tuple ps) (dp + 1) (ps.length * (wt + 1)) := by
  obtain ⟨b1, b2, b3, b4, b5, b6⟩ := tame_all h
  exact ⟨by simpa [PyData.showable] using b1, by simpa [PyData.hasDict] using b2, by simpa [PyData.canLay0] using b3, by simpa [PyData.leavesShort] using b4, by simp only [PyData.depth]; omega, by simpa only [PyData.weight] using b6⟩
theorem Tame.mono {p : PyData} {dp wt dp' wt' : Nat} (h : Tame p dp wt) (h1 : dp ≤ dp') (h2 : wt ≤ wt') : Tame p dp' wt' := ⟨h.sh, h.nd, h.cl, h.ls, Nat.le_trans h.de h1, Nat.le_trans h.we h2⟩
def TameD (dp wt : Nat) (d : D) : Prop := ∃ p, toPy d = some p ∧ Tame p dp wt
theorem TameD.mono {d : D} {dp wt dp' wt' : Nat} (h : TameD dp wt d) (h1 : dp ≤ dp') (h2 : wt ≤ wt') : TameD dp' wt' d := by
  obtain ⟨p, e, t⟩ := h
  exact ⟨p, e, t.mono h1 h2⟩
theorem TameD.int {i : Int} (h : i.natAbs < 10 ^ 12) : TameD 0 41 (.int i) := ⟨_, rfl, .int h⟩
theorem toPys_all : ∀ {ds : List D} {dp wt : Nat}, (∀ d ∈ ds, TameD dp wt d) → ∃ ps, toPys ds = some ps ∧ ps.length = ds.length ∧ ∀ p ∈ ps, Tame p dp wt
  | [], dp, wt, _ => ⟨[], rfl, rfl, fun _ h => absurd h List.not_mem_nil⟩
  | d :: ds, dp, wt, h => by
    obtain ⟨p, e, t⟩ := h d List.mem_cons_self
    obtain ⟨ps, e2, l, ts⟩ := toPys_all fun q hq => h q (List.mem_cons_of_mem _ hq)
    refine ⟨p :: ps, by simp [toPys, e, e2], by simp [l], fun q hq => ?_⟩
    rcases List.mem_cons.mp hq with rfl | hq
    · exact t
    · exact ts q hq
theorem TameD.tup {ds : List D} {dp wt : Nat} (h : ∀ d ∈ ds, TameD dp wt d) : TameD (dp + 1) (ds.length * (wt + 1)) (.tup ds) := by
  obtain ⟨ps, e, l, t⟩ := toPys_all h
  refine ⟨.tuple ps, by simp [toPy, e], ?_⟩
  rw [← l]
  exact .tuple t
theorem pyOf_tame {s : Sto} {d : D} {dp wt : Nat} (h : TameD dp wt d) : ∃ p, pyOf s d = some p ∧ Tame p dp wt := by
  obtain ⟨p, e, t⟩ := h
  refine ⟨p, ?_, t⟩
  cases d with
  | obj n => cases e
  | _ => exact e
theorem repr_tame {s : Sto} {d : D} {wt : Nat} (h : TameD 60 wt d) (hw : wt ≤ 1000000) : ∃ x, reprE d s = some x := by
  obtain ⟨p, e, t⟩ := pyOf_tame (s := s) h
  have hs := PyData.shown_le 13 (by decide) p t.ls
  have := t.we
  unfold reprE
  rw [e]
  refine ⟨p.shown, ?_⟩
  dsimp only
  rw [if_pos]
  simp only [t.sh, t.nd, Bool.not_false, Bool.and_self, Bool.true_and, Bool.and_eq_true, decide_eq_true_eq]
  exact ⟨t.de, by omega⟩
theorem shaped_tame {p : PyData} {wt : Nat} (h : Tame p 60 wt) : SeqAt.shaped p = true := by
  have := h.de
  show (p.canLay0 && decide (p.depth ≤ 64)) = true
  rw [h.cl]
  simp
  omega
@[simp] theorem eq_int (i j : Int) (s : Sto) : cmpE .Eq (.int i) (.int j) s = some (.ok (.bl (decide (i = j))) s) := by
  have : PyData.eqv (.int i) (.int j) = decide (i = j) := by
    rw [PyData.eqv, Bool.eq_iff_iff]
    simp
  show (if (SeqAt.shaped (.int i) && SeqAt.shaped (.int j)) = true then some (R.ok (D.bl (PyData.eqv (.int i) (.int j))) s) else none) = _
  rw [this]
  rfl
@[simp] theorem ne_int (i j : Int) (s : Sto) : cmpE .NotEq (.int i) (.int j) s = some (.ok (.bl (!decide (i = j))) s) := by
  have : PyData.eqv (.int i) (.int j) = decide (i = j) := by
    rw [PyData.eqv, Bool.eq_iff_iff]
    simp
  show (if (SeqAt.shaped (.int i) && SeqAt.shaped (.int j)) = true then some (R.ok (D.bl (!PyData.eqv (.int i) (.int j))) s) else none) = _
  rw [this]
  rfl
/-- a thing beside itself -/
theorem cmp_self {s : Sto} {d : D} {wt : Nat} (h : TameD 60 wt d) : cmpE .NotEq d d s = some (.ok (.bl false) s) ∧ cmpE .Eq d d s = some (.ok (.bl true) s) := by
  obtain ⟨p, e, t⟩ := pyOf_tame (s := s) h
  have h1 := shaped_tame t
  have h2 : PyData.eqv p p = true := SeqAt.eqv_refl p t.cl
  cases d with
  | str x =>
    constructor
    · show some (R.ok (D.bl (!decide (x = x))) s) = _
      simp
    · show some (R.ok (D.bl (decide (x = x))) s) = _
      simp
  | _ =>
    constructor
    · unfold cmpE
      simp only [e, h1, h2, Bool.and_self, if_true, Bool.not_true]
    · unfold cmpE
      simp only [e, h1, h2, Bool.and_self, if_true]
end Mi

set_option maxRecDepth 100000
/-! Mini: what is wished for behind a computation, as rules for simp. -/
namespace Mi
open PySem

def WE {α : Type} (m : M α) (s : Sto) (P : α → Sto → Prop) : Prop := ∃ a s', m s = some (.ok a s') ∧ P a s'
def WS (m : MS) (s : Sto) (P : Fl → Sto → Prop) : Prop := ∃ f s', m s = some (f, s') ∧ P f s'
theorem WE.ok {α : Type} {m : M α} {s s' : Sto} {a : α} {P : α → Sto → Prop} (h : m s = some (.ok a s')) (p : P a s') : WE m s P := ⟨a, s', h, p⟩
theorem WE.of {α : Type} {m : M α} {s s' : Sto} {a : α} {P : α → Sto → Prop} (h : m s = some (.ok a s')) : WE m s P ↔ P a s' := by
  constructor
  · rintro ⟨b, t, e, p⟩
    rw [h] at e
    cases e
    exact p
  · exact .ok h
theorem WE.no {α : Type} {m : M α} {s : Sto} {P : α → Sto → Prop} (h : m s = none) : WE m s P ↔ False := by
  constructor
  · rintro ⟨b, t, e, p⟩
    rw [h] at e
    cases e
  · exact False.elim
theorem WS.of {m : MS} {s s' : Sto} {f : Fl} {P : Fl → Sto → Prop} (h : m s = some (f, s')) : WS m s P ↔ P f s' := by
  constructor
  · rintro ⟨b, t, e, p⟩
    rw [h] at e
    cases e
    exact p
  · exact fun p => ⟨f, s', h, p⟩
theorem WE.imp {α : Type} {m : M α} {s : Sto} {P Q : α → Sto → Prop} (h : WE m s P) (k : ∀ a s', P a s' → Q a s') : WE m s Q := by
  obtain ⟨a, s', e, p⟩ := h
  exact ⟨a, s', e, k _ _ p⟩
@[simp] theorem we_pure {α : Type} (a : α) (s : Sto) (P : α → Sto → Prop) : WE (pure a) s P ↔ P a s := WE.of rfl
@[simp] theorem we_bind {α β : Type} (m : M α) (k : α → M β) (s : Sto) (P : β → Sto → Prop) : WE (m >>= k) s P ↔ WE m s fun a s' => WE (k a) s' P := by
  constructor
  · rintro ⟨b, t, e, p⟩
    rw [bind_at] at e
    cases h : m s with
    | none => rw [h] at e; cases e
    | some r =>
      rw [h] at e
      cases r with
      | ok a s' => exact ⟨a, s', h, b, t, e, p⟩
      | exc c w s' => cases e
  · rintro ⟨a, s', e, b, t, e2, p⟩
    exact ⟨b, t, by rw [bind_ok e]; exact e2, p⟩
@[simp] theorem we_ite {α : Type} (c : Prop) [Decidable c] (m n : M α) (s : Sto) (P : α → Sto → Prop) : WE (if c then m else n) s P ↔ (if c then WE m s P else WE n s P) := by
  split <;> exact Iff.rfl
@[simp] theorem we_loc (G : Fs) (i : Nat) (ρ : Env) (s : Sto) (P : D → Sto → Prop) : WE (ev G (.loc i) ρ) s P ↔ (match ρ[i]? with
    | some (some d) => P d s
    | _ => False) := by
  cases h : ρ[i]? with
  | none => exact WE.no (by simp only [ev, h])
  | some o =>
    cases o with
    | none => exact WE.no (by simp only [ev, h])
    | some d => exact WE.of (by simp only [ev, h])
@[simp] theorem we_lift {α : Type} (o : Option α) (s : Sto) (P : α → Sto → Prop) : WE (liftO o) s P ↔ (match o with
    | some a => P a s
    | none => False) := by
  cases o with
  | none => exact WE.no rfl
  | some a => exact WE.of rfl
section
variable (i j : Int) (s : Sto) (P : D → Sto → Prop)
@[simp] theorem we_add : WE (binE .Add (.int i) (.int j)) s P ↔ P (.int (i + j)) s := WE.of rfl
@[simp] theorem we_sub : WE (binE .Sub (.int i) (.int j)) s P ↔ P (.int (i - j)) s := WE.of rfl
@[simp] theorem we_mul : WE (binE .Mult (.int i) (.int j)) s P ↔ ((small i = true ∨ small j = true) ∧ P (.int (i * j)) s) := by
  by_cases h : (small i || small j) = true
  · rw [WE.of (s' := s) (a := .int (i * j)) (by show (if (small i || small j) = true then _ else _) = _; rw [if_pos h])]
    simp only [Bool.or_eq_true] at h
    exact ⟨fun p => ⟨h, p⟩, fun p => p.2⟩
  · rw [WE.no (by show (if (small i || small j) = true then _ else _) = _; rw [if_neg h])]
    simp only [Bool.or_eq_true] at h
    exact ⟨False.elim, fun p => h p.1⟩
@[simp] theorem we_div : WE (binE .FloorDiv (.int i) (.int j)) s P ↔ ((0 < j ∧ j.natAbs.log2 < 9000) ∧ P (.int (i / j)) s) := by
  by_cases h : 0 < j ∧ j.natAbs.log2 < 9000
  · rw [WE.of (s' := s) (a := .int (i / j)) (by show (if 0 < j ∧ j.natAbs.log2 < 9000 then _ else _) = _; rw [if_pos h])]
    exact ⟨fun p => ⟨h, p⟩, fun p => p.2⟩
  · rw [WE.no (by show (if 0 < j ∧ j.natAbs.log2 < 9000 then _ else _) = _; rw [if_neg h])]
    exact ⟨False.elim, fun p => h p.1⟩
@[simp] theorem we_mod : WE (binE .Mod (.int i) (.int j)) s P ↔ (0 < j ∧ P (.int (i % j)) s) := by
  by_cases h : 0 < j
  · rw [WE.of (s' := s) (a := .int (i % j)) (by show (if 0 < j then _ else _) = _; rw [if_pos h])]
    exact ⟨fun p => ⟨h, p⟩, fun p => p.2⟩
  · rw [WE.no (by show (if 0 < j then _ else _) = _; rw [if_neg h])]
    exact ⟨False.elim, fun p => h p.1⟩
/-- a power of small numbers: its value is left as it is -/
@[simp] theorem we_pow : WE (binE .Pow (.int i) (.int j)) s P ↔ ((0 ≤ j ∧ j ≤ 1000000 ∧ i.natAbs < 2 ^ 64) ∧ P (.int (i ^ j.toNat)) s) := by
  by_cases h : 0 ≤ j ∧ j ≤ 1000000 ∧ i.natAbs < 2 ^ 64
  · rw [WE.of (s' := s) (a := .int (i ^ j.toNat)) (by show (if 0 ≤ j ∧ j ≤ 1000000 ∧ i.natAbs < 2 ^ 64 then _ else _) = _; rw [if_pos h])]
    exact ⟨fun p => ⟨h, p⟩, fun p => p.2⟩
  · rw [WE.no (by show (if 0 ≤ j ∧ j ≤ 1000000 ∧ i.natAbs < 2 ^ 64 then _ else _) = _; rw [if_neg h])]
    exact ⟨False.elim, fun p => h p.1⟩
@[simp] theorem we_lt : WE (cmpE .Lt (.int i) (.int j)) s P ↔ P (.bl (decide (i < j))) s := WE.of rfl
@[simp] theorem we_le : WE (cmpE .LtE (.int i) (.int j)) s P ↔ P (.bl (decide (i ≤ j))) s := WE.of rfl
@[simp] theorem we_gt : WE (cmpE .Gt (.int i) (.int j)) s P ↔ P (.bl (decide (j < i))) s := WE.of rfl
@[simp] theorem we_ge : WE (cmpE .GtE (.int i) (.int j)) s P ↔ P (.bl (decide (j ≤ i))) s := WE.of rfl
@[simp] theorem we_eq : WE (cmpE .Eq (.int i) (.int j)) s P ↔ P (.bl (decide (i = j))) s := WE.of (eq_int i j s)
@[simp] theorem we_ne : WE (cmpE .NotEq (.int i) (.int j)) s P ↔ P (.bl (!decide (i = j))) s := WE.of (ne_int i j s)
@[simp] theorem we_bi_int : WE (biE "int" [.int i]) s P ↔ P (.int i) s := WE.of rfl
@[simp] theorem we_bi_max : WE (biE "max" [.int i, .int j]) s P ↔ P (.int (if j > i then j else i)) s := WE.of rfl
@[simp] theorem we_bi_min : WE (biE "min" [.int i, .int j]) s P ↔ P (.int (if j < i then j else i)) s := WE.of rfl
@[simp] theorem we_range1 (j : Int) (P : Wk → Sto → Prop) : WE (rangeOf [.int j]) s P ↔ (r62 j = true ∧ P ⟨rangeD 0 j.toNat, none⟩ s) := by
  by_cases h : r62 j = true
  · rw [WE.of (s' := s) (a := ⟨rangeD 0 j.toNat, none⟩) (by show (if r62 j = true then _ else _) = _; rw [if_pos h])]
    exact ⟨fun p => ⟨h, p⟩, fun p => p.2⟩
  · rw [WE.no (by show (if r62 j = true then _ else _) = _; rw [if_neg h])]
    exact ⟨False.elim, fun p => h p.1⟩
end
@[simp] theorem we_bi_intb (b : Bool) (s : Sto) (P : D → Sto → Prop) : WE (biE "int" [.bl b]) s P ↔ P (.int (if b then 1 else 0)) s := WE.of rfl
@[simp] theorem we_tr_bl (b : Bool) (s : Sto) (P : Bool → Sto → Prop) : WE (truthM (.bl b)) s P ↔ P b s := WE.of rfl
@[simp] theorem we_tr_int (i : Int) (s : Sto) (P : Bool → Sto → Prop) : WE (truthM (.int i)) s P ↔ P (i != 0) s := WE.of rfl
theorem we_len {d : D} {s : Sto} {xs : List D} (h : seqOf d s = some xs) (P : D → Sto → Prop) : WE (biE "len" [d]) s P ↔ P (.int xs.length) s :=
  WE.of (by show (seqOf d s).map _ = _; rw [h]; rfl)
@[simp] theorem we_len_tup (xs : List D) (s : Sto) (P : D → Sto → Prop) : WE (biE "len" [.tup xs]) s P ↔ P (.int xs.length) s := we_len rfl P
@[simp] theorem we_len_frz (xs : List D) (s : Sto) (P : D → Sto → Prop) : WE (biE "len" [.frz xs]) s P ↔ P (.int xs.length) s := we_len rfl P
theorem we_tuple {d : D} {s : Sto} {xs : List D} (h : seqOf d s = some xs) (P : D → Sto → Prop) : WE (biE "tuple" [d]) s P ↔ P (.tup xs) s :=
  WE.of (by show (seqOf d s).map _ = _; rw [h]; rfl)
theorem we_list {d : D} {s : Sto} {xs : List D} (h : seqOf d s = some xs) (P : D → Sto → Prop) : WE (biE "list" [d]) s P ↔ P (.obj s.length) (s ++ [.lst xs]) :=
  WE.of (by show (seqOf d s).map _ = _; rw [h]; rfl)
@[simp] theorem we_newT (xs : List D) (s : Sto) (P : D → Sto → Prop) : WE (newT xs) s P ↔ (xs.length ≤ 16777216 ∧ P (.tup xs) s) := by
  unfold newT
  by_cases h : xs.length ≤ 16777216
  · rw [WE.of (s' := s) (a := .tup xs) (by rw [if_pos h])]
    exact ⟨fun p => ⟨h, p⟩, fun p => p.2⟩
  · rw [WE.no (by rw [if_neg h])]
    exact ⟨False.elim, fun p => h p.1⟩
@[simp] theorem we_newL (xs : List D) (s : Sto) (P : D → Sto → Prop) : WE (newL xs) s P ↔ (xs.length ≤ 16777216 ∧ P (.obj s.length) (s ++ [.lst xs])) := by
  unfold newL
  by_cases h : xs.length ≤ 16777216
  · rw [WE.of (s' := s ++ [.lst xs]) (a := .obj s.length) (by rw [if_pos h])]
    exact ⟨fun p => ⟨h, p⟩, fun p => p.2⟩
  · rw [WE.no (by rw [if_neg h])]
    exact ⟨False.elim, fun p => h p.1⟩
@[simp] theorem we_walk_tup (xs : List D) (s : Sto) (P : Wk → Sto → Prop) : WE (walkOf (.tup xs)) s P ↔ P ⟨xs, none⟩ s := WE.of rfl
@[simp] theorem we_walk_frz (xs : List D) (s : Sto) (P : Wk → Sto → Prop) : WE (walkOf (.frz xs)) s P ↔ P ⟨xs, none⟩ s := WE.of rfl
theorem we_idx {th d : D} {xs : List D} {i : Int} {s : Sto} (h : seqOf th s = some xs) (e : atD xs i = some d) (P : D → Sto → Prop) : WE (idxE th (.int i)) s P ↔ P d s :=
  WE.of (by rw [idxE_seq h, e]; rfl)
section
variable (G : Fs) (ρ : Env) (s : Sto) (P : D → Sto → Prop)
@[simp] theorem we_x_non : WE (ev G .non ρ) s P ↔ P .non s := WE.of (by simp only [ev]; rfl)
@[simp] theorem we_x_bl (b : Bool) : WE (ev G (.bl b) ρ) s P ↔ P (.bl b) s := WE.of (by simp only [ev]; rfl)
@[simp] theorem we_x_int (i : Int) : WE (ev G (.int i) ρ) s P ↔ P (.int i) s := WE.of (by simp only [ev]; rfl)
@[simp] theorem we_x_str (x : Str) : WE (ev G (.str x) ρ) s P ↔ P (.str x) s := WE.of (by simp only [ev]; rfl)
@[simp] theorem we_x_bin (op : Operator) (a b : Ex) : WE (ev G (.bin op a b) ρ) s P ↔ WE (ev G a ρ) s fun x s1 => WE (ev G b ρ) s1 fun y s2 => WE (binE op x y) s2 P := by simp only [ev, we_bind]
@[simp] theorem we_x_cmp (op : CmpOp) (a b : Ex) : WE (ev G (.cmp op a b) ρ) s P ↔ WE (ev G a ρ) s fun x s1 => WE (ev G b ρ) s1 fun y s2 => WE (cmpE op x y) s2 P := by simp only [ev, we_bind]
@[simp] theorem we_x_neg (a : Ex) : WE (ev G (.neg a) ρ) s P ↔ WE (ev G a ρ) s fun x s1 => match x with
    | .int i => P (.int (-i)) s1
    | _ => False := by
  simp only [ev, we_bind]
  constructor
  · intro h
    refine h.imp fun a s' p => ?_
    cases a <;> first | exact (we_pure _ _ _).mp p | exact (WE.no rfl).mp p
  · intro h
    refine h.imp fun a s' p => ?_
    cases a <;> first | exact (we_pure _ _ _).mpr p | exact p.elim
@[simp] theorem we_x_and (a b : Ex) : WE (ev G (.and a b) ρ) s P ↔ WE (ev G a ρ) s fun x s1 => WE (truthM x) s1 fun t s2 => if t then WE (ev G b ρ) s2 P else P x s2 := by
  simp only [ev, we_bind, we_ite, we_pure]
@[simp] theorem we_x_or (a b : Ex) : WE (ev G (.or a b) ρ) s P ↔ WE (ev G a ρ) s fun x s1 => WE (truthM x) s1 fun t s2 => if t then P x s2 else WE (ev G b ρ) s2 P := by
  simp only [ev, we_bind, we_ite, we_pure]
@[simp] theorem we_x_not (a : Ex) : WE (ev G (.not a) ρ) s P ↔ WE (ev G a ρ) s fun x s1 => WE (truthM x) s1 fun t s2 => P (.bl (!t)) s2 := by simp only [ev, we_bind, we_pure]
@[simp] theorem we_x_ite (c a b : Ex) : WE (ev G (.ite c a b) ρ) s P ↔ WE (ev G c ρ) s fun x s1 => WE (truthM x) s1 fun t s2 => if t then WE (ev G a ρ) s2 P else WE (ev G b ρ) s2 P := by
  simp only [ev, we_bind, we_ite]
@[simp] theorem we_x_tup (es : Exs) : WE (ev G (.tup es) ρ) s P ↔ WE (evs G es ρ) s fun ds s1 => WE (newT ds) s1 P := by simp only [ev, we_bind]
@[simp] theorem we_x_lst (es : Exs) : WE (ev G (.lst es) ρ) s P ↔ WE (evs G es ρ) s fun ds s1 => WE (newL ds) s1 P := by simp only [ev, we_bind]
@[simp] theorem we_x_call (f : Str) (es : Exs) : WE (ev G (.call f es) ρ) s P ↔ WE (evs G es ρ) s fun ds s1 => WE (G f ds) s1 P := by simp only [ev, we_bind]
@[simp] theorem we_x_callK (f : Str) (n m : Nat) (ks : List Nat) (es kes : Exs) : WE (ev G (.callK f n m ks es kes) ρ) s P ↔ WE (evs G es ρ) s fun ds s1 => WE (evs G kes ρ) s1 fun zs s2 => WE (liftO (permG n m ks ds zs)) s2 fun xs s3 => WE (G f xs) s3 P := by simp only [ev, we_bind]
@[simp] theorem we_x_bi (f : String) (es : Exs) : WE (ev G (.bi f es) ρ) s P ↔ WE (evs G es ρ) s fun ds s1 => WE (biE f ds) s1 P := by simp only [ev, we_bind]
@[simp] theorem we_x_met (m : String) (o : Ex) (es : Exs) : WE (ev G (.met m o es) ρ) s P ↔ WE (ev G o ρ) s fun x s1 => WE (metT m x) s1 fun _ s2 => WE (evs G es ρ) s2 fun ds s3 => WE (metE m x ds) s3 P := by simp only [ev, we_bind]
@[simp] theorem we_x_idx (a b : Ex) : WE (ev G (.idx a b) ρ) s P ↔ WE (ev G a ρ) s fun x s1 => WE (ev G b ρ) s1 fun y s2 => WE (idxE x y) s2 P := by simp only [ev, we_bind]
@[simp] theorem we_s_nil (Q : List D → Sto → Prop) : WE (evs G .nil ρ) s Q ↔ Q [] s := by simp only [evs, we_pure]
@[simp] theorem we_s_cons (e : Ex) (es : Exs) (Q : List D → Sto → Prop) : WE (evs G (.cons e es) ρ) s Q ↔ WE (ev G e ρ) s fun d s1 => WE (evs G es ρ) s1 fun ds s2 => Q (d :: ds) s2 := by simp only [evs, we_bind, we_pure]
@[simp] theorem we_t_nil (Q : Bool → Sto → Prop) : WE (evTs G .nil ρ) s Q ↔ Q true s := by simp only [evTs, we_pure]
@[simp] theorem we_t_cons (e : Ex) (es : Exs) (Q : Bool → Sto → Prop) : WE (evTs G (.cons e es) ρ) s Q ↔ WE (ev G e ρ) s fun x s1 => WE (truthM x) s1 fun t s2 => if t then WE (evTs G es ρ) s2 Q else Q false s2 := by simp only [evTs, we_bind, we_pure, we_ite]
@[simp] theorem we_i_seq (e : Ex) (Q : Wk → Sto → Prop) : WE (evSrc G (.seq e) ρ) s Q ↔ WE (ev G e ρ) s fun d s1 => WE (walkOf d) s1 Q := by simp only [evSrc, we_bind]
@[simp] theorem we_i_range1 (e : Ex) (Q : Wk → Sto → Prop) : WE (evSrc G (.range1 e) ρ) s Q ↔ WE (ev G e ρ) s fun d s1 => WE (rangeOf [d]) s1 Q := by simp only [evSrc, we_bind]
@[simp] theorem we_i_range2 (a b : Ex) (Q : Wk → Sto → Prop) : WE (evSrc G (.range2 a b) ρ) s Q ↔ WE (ev G a ρ) s fun x s1 => WE (ev G b ρ) s1 fun y s2 => WE (rangeOf [x, y]) s2 Q := by simp only [evSrc, we_bind]
@[simp] theorem we_i_enum (e : Ex) (Q : Wk → Sto → Prop) : WE (evSrc G (.enum e) ρ) s Q ↔ WE (ev G e ρ) s fun d s1 => WE (walkOf d) s1 fun w s2 => Q (wkEnum w) s2 := by simp only [evSrc, we_bind, we_pure]
end
/-! statements -/
@[simp] theorem ws_cons (G : Fs) (F : Nat) (c : Sm) (cs : Sms) (ρ : Env) (s : Sto) (P : Fl → Sto → Prop) : WS (exSs G F (.cons c cs) ρ) s P ↔ WS (exS G F c ρ) s fun f s' => match f with
    | .nx ρ' => WS (exSs G F cs ρ') s' P
    | f => P f s' := by
  have e : exSs G F (.cons c cs) ρ s = bindS (exS G F c ρ) (fun ρ' => exSs G F cs ρ') s := by simp only [exSs]
  unfold WS
  rw [e]
  unfold bindS
  cases h : exS G F c ρ s with
  | none =>
    constructor
    · rintro ⟨f, s', e, _⟩
      cases e
    · rintro ⟨f, s', e, _⟩
      cases e
  | some r =>
    obtain ⟨f, s1⟩ := r
    cases f with
    | nx ρ' =>
      constructor
      · exact fun p => ⟨_, _, rfl, p⟩
      · rintro ⟨f, s', e, p⟩
        cases e
        exact p
    | _ =>
      constructor
      · rintro ⟨f, s', e, p⟩
        cases e
        exact ⟨_, _, rfl, p⟩
      · rintro ⟨f, s', e, p⟩
        cases e
        exact ⟨_, _, rfl, p⟩
@[simp] theorem ws_nil (G : Fs) (F : Nat) (ρ : Env) (s : Sto) (P : Fl → Sto → Prop) : WS (exSs G F .nil ρ) s P ↔ P (.nx ρ) s := WS.of (by simp only [exSs])
theorem ws_bindE {α : Type} (ρ : Env) (m : M α) (k : α → MS) (s : Sto) (P : Fl → Sto → Prop) (h : WE m s fun a s' => WS (k a) s' P) : WS (bindE ρ m k) s P := by
  obtain ⟨a, s', e, f, s2, e2, p⟩ := h
  exact ⟨f, s2, by unfold bindE; rw [e]; exact e2, p⟩
section
variable {G : Fs} {F : Nat} {ρ : Env} {s : Sto} {P : Fl → Sto → Prop}
theorem ws_ex {e : Ex} (h : WE (ev G e ρ) s fun _ s' => P (.nx ρ) s') : WS (exS G F (.ex e) ρ) s P := by
  simp only [exS]
  exact ws_bindE _ _ _ _ _ (h.imp fun a s' p => ⟨_, _, rfl, p⟩)
theorem ws_asg {i : Nat} {e : Ex} (h : WE (ev G e ρ) s fun d s' => P (.nx (ρ.set i (some d))) s') : WS (exS G F (.asg (.nm i) e) ρ) s P := by
  simp only [exS]
  exact ws_bindE _ _ _ _ _ (h.imp fun a s' p => ws_bindE _ _ _ _ _ (.ok rfl ⟨_, _, rfl, p⟩))
theorem ws_asgs {is : List Nat} {es : Exs} (h : WE (evs G es ρ) s fun ds s' => is.length = ds.length ∧ P (.nx ((is.zip ds).foldl (fun r p => r.set p.1 (some p.2)) ρ)) s') : WS (exS G F (.asgs is es) ρ) s P := by
  simp only [exS]
  exact ws_bindE _ _ _ _ _ (h.imp fun a s' p => ⟨_, _, if_pos p.1, p.2⟩)
theorem ws_sub {o i e : Ex} (h : WE (ev G e ρ) s fun v s1 => WE (ev G o ρ) s1 fun x s2 => WE (ev G i ρ) s2 fun y s3 => WE (setE x y v) s3 fun _ s4 => P (.nx ρ) s4) : WS (exS G F (.sub o i e) ρ) s P := by
  simp only [exS]
  exact ws_bindE _ _ _ _ _ (h.imp fun _ _ p => ws_bindE _ _ _ _ _ (p.imp fun _ _ p => ws_bindE _ _ _ _ _ (p.imp fun _ _ p => ws_bindE _ _ _ _ _ (p.imp fun _ _ p => ⟨_, _, rfl, p⟩))))
theorem ws_ite {c : Ex} {a b : Sms} (h : WE (ev G c ρ) s fun d s1 => WE (truthM d) s1 fun t s2 => if t then WS (exSs G F a ρ) s2 P else WS (exSs G F b ρ) s2 P) : WS (exS G F (.ite c a b) ρ) s P := by
  simp only [exS]
  refine ws_bindE _ _ _ _ _ ((we_bind _ _ _ _).mpr (h.imp fun _ _ p => p.imp fun t _ p => ?_))
  cases t <;> exact p
theorem ws_ret {e : Ex} (h : WE (ev G e ρ) s fun d s' => P (.ret d) s') : WS (exS G F (.ret e) ρ) s P := by
  simp only [exS]
  exact ws_bindE _ _ _ _ _ (h.imp fun a s' p => ⟨_, _, rfl, p⟩)
theorem ws_pass (h : P (.nx ρ) s) : WS (exS G F .pass ρ) s P := ⟨_, _, by simp only [exS], h⟩
theorem ws_for {tg : Tg} {it : Src} {b : Sms} (I : List D → Env → Sto → Prop) (h : WE (evSrc G it ρ) s fun w s' => (∀ ds ρ s, I ds ρ s → w.ok s = true) ∧ I w.items ρ s')
    (hs : ∀ d ds ρ s, I (d :: ds) ρ s → ∃ ρ', asgTg tg d ρ = some ρ' ∧ WS (exSs G F b ρ') s fun f s' => match f with
      | .nx ρ2 => I ds ρ2 s'
      | _ => False) (hd : ∀ ρ s, I [] ρ s → P (.nx ρ) s) : WS (exS G F (.for tg it b) ρ) s P := by
  simp only [exS]
  refine ws_bindE _ _ _ _ _ (h.imp fun w s' p => ?_)
  obtain ⟨hw, h0⟩ := p
  obtain ⟨ρ', s2, e, h2⟩ := for_run hw (turn := fun d ρ' => bindE ρ' (liftO (asgTg tg d ρ')) fun ρ'' => exSs G F b ρ'') (fun d ds ρ s hI => by
    obtain ⟨ρ1, e1, f, s1, e2, p⟩ := hs d ds ρ s hI
    cases f with
    | nx ρ2 =>
      refine ⟨ρ2, s1, ?_, p⟩
      unfold bindE
      rw [lift_at, e1]
      exact e2
    | _ => exact p.elim) _ _ _ h0
  exact ⟨_, _, e, hd _ _ h2⟩
/-- a comprehension -/
theorem we_comp {own : List Nat} {tg : Tg} {it : Src} {ifs : Exs} {elt : Ex} {Q : D → Sto → Prop} (I : List D → List D → Sto → Prop) (h : WE (evSrc G it ρ) s fun w s' => (∀ ds acc s, I ds acc s → w.ok s = true) ∧ I w.items [] s')
    (hs : ∀ d ds acc s, I (d :: ds) acc s → acc.length < 16777216 ∧ ∃ ρ', asgTg tg d (wipeE ρ own) = some ρ' ∧ WE (evTs G ifs ρ') s fun t s1 => if t then WE (ev G elt ρ') s1 fun x s2 => I ds (acc ++ [x]) s2 else I ds acc s1)
    (hd : ∀ acc s, I [] acc s → acc.length ≤ 16777216 ∧ Q (.obj s.length) (s ++ [.lst acc])) : WE (ev G (.comp own tg it ifs elt) ρ) s Q := by
  simp only [ev]
  rw [we_bind]
  refine h.imp fun w s' p => ?_
  obtain ⟨hw, h0⟩ := p
  rw [we_bind]
  obtain ⟨xs, s2, e, h2⟩ := comp_run hw (turn := fun d => noX (liftO (asgTg tg d (wipeE ρ own)) >>= fun ρ' => evTs G ifs ρ' >>= fun t => if t then ev G elt ρ' >>= fun x => pure (some x) else pure none)) (fun d ds acc s hI => by
    obtain ⟨hl, ρ', e1, t, s1, e2, p⟩ := hs d ds acc s hI
    refine ⟨hl, ?_⟩
    cases t with
    | true =>
      obtain ⟨x, s2, e3, p⟩ := p
      refine ⟨some x, s2, ?_, p⟩
      simp [noX, e1, e2, e3]
    | false =>
      refine ⟨none, s1, ?_, by simpa using p⟩
      simp [noX, e1, e2]) _ _ _ h0
  refine .ok e ?_
  rw [we_newL]
  exact hd _ _ h2
end
/-- a def by its body -/
theorem we_gm {T : Tab} {F k : Nat} {f : Str} {fn : Fn} (h : T f = some fn) {ds : List D} (hl : ds.length = fn.np) {s : Sto} {P : D → Sto → Prop}
    (e : WS (exSs (Gm T F k) F fn.body (ds.map some ++ List.replicate (fn.names.length - ds.length) none)) s fun f s' => match f with
      | .ret d => P d s'
      | _ => False) : WE (Gm T F (k + 1) f ds) s P := by
  obtain ⟨f, s', e, p⟩ := e
  cases f with
  | ret d => exact ⟨d, s', gm_at h hl e, p⟩
  | _ => exact p.elim
end Mi

set_option maxRecDepth 100000
/-! The texts of the defs of k02. -/
namespace Mi
open PySem
def f_changed : Fn := ⟨2, ["x", "y", "setting", "worth"], (.cons (.ret (.bi "tuple" (.cons (.comp [2, 3] (.tup [2, 3]) (.enum (.loc 0)) (.cons (.cmp .NotEq (.idx (.loc 1) (.loc 2)) (.loc 3)) .nil) (.loc 2)) .nil))) .nil)⟩
def f_move : Fn := ⟨3, ["x", "y", "z", "setting", "worth"], (.cons (.ret (.bi "tuple" (.cons (.comp [3, 4] (.tup [3, 4]) (.enum (.loc 0)) .nil (.ite (.cmp .Eq (.idx (.loc 1) (.loc 3)) (.loc 4)) (.loc 4) (.idx (.loc 2) (.loc 3)))) .nil))) .nil)⟩
def f_agreed : Fn := ⟨2, ["x", "y", "setting", "worth"], (.cons (.ret (.bi "tuple" (.cons (.comp [2, 3] (.tup [2, 3]) (.enum (.loc 0)) (.cons (.cmp .Eq (.idx (.loc 1) (.loc 2)) (.loc 3)) .nil) (.tup (.cons (.loc 2) (.cons (.loc 3) .nil)))) .nil))) .nil)⟩
def f__law_pool : Fn := ⟨2, ["script", "k", "cell", "big", "mixed"], (.cons (.asg (.nm 2) (.int 0)) (.cons (.ite (.cmp .Lt (.loc 1) (.bi "len" (.cons (.loc 0) .nil))) (.cons (.asg (.nm 2) (.idx (.loc 0) (.loc 1))) .nil) (.cons (.ite (.cmp .NotEq (.loc 0) (.lst .nil)) (.cons (.asg (.nm 2) (.idx (.loc 0) (.int 0))) .nil) .nil) .nil)) (.cons (.asg (.nm 3) (.bi "max" (.cons (.bi "int" (.cons (.loc 2) .nil)) (.cons (.bi "int" (.cons (.bin .Sub (.neg (.int 1)) (.loc 2)) .nil)) .nil)))) (.cons (.asg (.nm 4) (.bin .Mod (.bi "int" (.cons (.bin .Mult (.bin .Add (.bin .Add (.bin .Add (.bin .Mod (.bi "int" (.cons (.loc 3) .nil)) (.int 2147483629)) (.bin .Mult (.bin .Mult (.int 7919) (.loc 1)) (.loc 1))) (.bin .Mult (.int 31) (.loc 1))) (.int 17)) (.int 48271)) .nil)) (.int 2147483647))) (.cons (.ret (.lst (.cons (.bin .Mult (.loc 3) (.bi "int" (.cons (.and (.cmp .GtE (.loc 3) (.bin .Pow (.int 10) (.int 18))) (.cmp .Lt (.loc 1) (.bi "len" (.cons (.loc 0) .nil)))) .nil))) (.cons (.loc 4) .nil)))) .nil)))))⟩
def f__law_take : Fn := ⟨2, ["jar", "top", "drawn"], (.cons (.ite (.cmp .Gt (.idx (.loc 0) (.int 0)) (.int 0)) (.cons (.asg (.nm 2) (.bin .Mod (.bi "int" (.cons (.idx (.loc 0) (.int 0)) .nil)) (.loc 1))) (.cons (.sub (.loc 0) (.int 0) (.bin .FloorDiv (.idx (.loc 0) (.int 0)) (.loc 1))) (.cons (.ret (.loc 2)) .nil))) .nil) (.cons (.sub (.loc 0) (.int 1) (.bin .Mod (.bi "int" (.cons (.bin .Add (.bin .Mult (.idx (.loc 0) (.int 1)) (.int 39373)) (.int 7)) .nil)) (.int 2147483647))) (.cons (.ret (.bin .Mod (.bi "int" (.cons (.bin .FloorDiv (.bin .Mod (.bi "int" (.cons (.bin .Mult (.idx (.loc 0) (.int 1)) (.idx (.loc 0) (.int 1))) .nil)) (.int 2147483629)) (.int 32)) .nil)) (.loc 1))) .nil)))⟩
def f__law_one : Fn := ⟨2, ["jar", "things"], (.cons (.ret (.idx (.loc 1) (.call "_law_take" (.cons (.loc 0) (.cons (.bi "len" (.cons (.loc 1) .nil)) .nil))))) .nil)⟩
def f__law_drawn_sizes : Fn := ⟨3, ["jar", "most", "high", "found", "turn"], (.cons (.asg (.nm 3) (.lst .nil)) (.cons (.for (.nm 4) (.range1 (.bin .Add (.int 1) (.call "_law_take" (.cons (.loc 0) (.cons (.loc 1) .nil))))) (.cons (.ex (.met "append" (.loc 3) (.cons (.bi "min" (.cons (.loc 2) (.cons (.call "_law_one" (.cons (.loc 0) (.cons (.lst (.cons (.int 1) (.cons (.int 2) (.cons (.int 2) (.cons (.int 2) (.cons (.int 2) (.cons (.int 3) (.cons (.int 3) (.cons (.int 3) (.cons (.int 4) (.cons (.int 5) (.cons (.int 6) .nil)))))))))))) .nil))) .nil))) .nil))) .nil)) (.cons (.ret (.bi "tuple" (.cons (.loc 3) .nil))) .nil)))⟩
def f__law_any_page : Fn := ⟨2, ["jar", "sizes", "size"], (.cons (.ret (.bi "tuple" (.cons (.comp [2] (.nm 2) (.seq (.loc 1)) .nil (.call "_law_take" (.cons (.loc 0) (.cons (.loc 2) .nil)))) .nil))) .nil)⟩
def f__law_any_edit : Fn := ⟨3, ["jar", "sizes", "rare", "i"], (.cons (.ret (.bi "tuple" (.cons (.comp [3] (.nm 3) (.range1 (.bi "len" (.cons (.loc 1) .nil))) (.cons (.cmp .Eq (.call "_law_take" (.cons (.loc 0) (.cons (.loc 2) .nil))) (.int 0)) .nil) (.tup (.cons (.loc 3) (.cons (.call "_law_take" (.cons (.loc 0) (.cons (.idx (.loc 1) (.loc 3)) .nil))) .nil)))) .nil))) .nil)⟩
def f__law_over : Fn := ⟨2, ["page", "edit", "found", "i", "a"], (.cons (.asg (.nm 2) (.bi "list" (.cons (.loc 0) .nil))) (.cons (.for (.tup [3, 4]) (.seq (.loc 1)) (.cons (.sub (.loc 2) (.loc 3) (.loc 4)) .nil)) (.cons (.ret (.bi "tuple" (.cons (.loc 2) .nil))) .nil)))⟩
def f__law_parted_at : Fn := ⟨2, ["x", "y", "i"], (.cons (.ret (.bi "tuple" (.cons (.comp [2] (.nm 2) (.range1 (.bi "len" (.cons (.loc 0) .nil))) (.cons (.cmp .NotEq (.idx (.loc 0) (.loc 2)) (.idx (.loc 1) (.loc 2))) .nil) (.loc 2)) .nil))) .nil)⟩
def f__law_moved : Fn := ⟨3, ["x", "y", "z", "i"], (.cons (.ret (.bi "tuple" (.cons (.comp [3] (.nm 3) (.range1 (.bi "len" (.cons (.loc 2) .nil))) .nil (.ite (.cmp .Eq (.idx (.loc 0) (.loc 3)) (.idx (.loc 1) (.loc 3))) (.idx (.loc 0) (.loc 3)) (.idx (.loc 2) (.loc 3)))) .nil))) .nil)⟩
def f__law_four_pages : Fn := ⟨2, ["jar", "sizes", "found", "turn", "near_one", "last"], (.cons (.asg (.nm 2) (.lst (.cons (.call "_law_any_page" (.cons (.loc 0) (.cons (.loc 1) .nil))) .nil))) (.cons (.for (.nm 3) (.range1 (.int 2)) (.cons (.asg (.nm 4) (.call "_law_one" (.cons (.loc 0) (.cons (.loc 2) .nil)))) (.cons (.ex (.met "append" (.loc 2) (.cons (.call "_law_over" (.cons (.loc 4) (.cons (.call "_law_any_edit" (.cons (.loc 0) (.cons (.loc 1) (.cons (.bin .Add (.int 1) (.call "_law_take" (.cons (.loc 0) (.cons (.int 4) .nil)))) .nil)))) .nil))) .nil))) .nil))) (.cons (.asg (.nm 5) (.call "_law_any_page" (.cons (.loc 0) (.cons (.loc 1) .nil)))) (.cons (.ret (.bin .Add (.loc 2) (.lst (.cons (.call "_law_one" (.cons (.loc 0) (.cons (.bin .Add (.loc 2) (.lst (.cons (.loc 5) .nil))) .nil))) .nil)))) .nil))))⟩
def f__law_agreed_edit : Fn := ⟨2, ["x", "y", "i"], (.cons (.ret (.bi "tuple" (.cons (.comp [2] (.nm 2) (.range1 (.bi "len" (.cons (.loc 0) .nil))) (.cons (.cmp .Eq (.idx (.loc 0) (.loc 2)) (.idx (.loc 1) (.loc 2))) .nil) (.tup (.cons (.loc 2) (.cons (.idx (.loc 0) (.loc 2)) .nil)))) .nil))) .nil)⟩
def f__law_two_right : Fn := ⟨2, ["x", "y"], (.cons (.ite (.cmp .NotEq (.bi "repr" (.cons (.call "changed" (.cons (.loc 0) (.cons (.loc 1) .nil))) .nil)) (.bi "repr" (.cons (.call "_law_parted_at" (.cons (.loc 0) (.cons (.loc 1) .nil))) .nil))) (.cons (.ret (.bl false)) .nil) .nil) (.cons (.ret (.cmp .Eq (.bi "repr" (.cons (.call "agreed" (.cons (.loc 0) (.cons (.loc 1) .nil))) .nil)) (.bi "repr" (.cons (.call "_law_agreed_edit" (.cons (.loc 0) (.cons (.loc 1) .nil))) .nil)))) .nil))⟩
def f__law_four_right : Fn := ⟨1, ["some", "x", "y", "z"], (.cons (.for (.nm 1) (.seq (.loc 0)) (.cons (.for (.nm 2) (.seq (.loc 0)) (.cons (.ite (.not (.call "_law_two_right" (.cons (.loc 1) (.cons (.loc 2) .nil)))) (.cons (.ret (.bl false)) .nil) .nil) (.cons (.for (.nm 3) (.seq (.loc 0)) (.cons (.ite (.cmp .NotEq (.bi "repr" (.cons (.call "move" (.cons (.loc 1) (.cons (.loc 2) (.cons (.loc 3) .nil)))) .nil)) (.bi "repr" (.cons (.call "_law_moved" (.cons (.loc 1) (.cons (.loc 2) (.cons (.loc 3) .nil)))) .nil))) (.cons (.ret (.bl false)) .nil) .nil) .nil)) .nil))) .nil)) (.cons (.ret (.bl true)) .nil))⟩
def f_law : Fn := ⟨1, ["script", "k", "jar", "some", "x", "y", "z"], (.cons (.ite (.or (.cmp .NotEq (.call "move" (.cons (.tup (.cons (.int 0) (.cons (.int 0) (.cons (.int 2) .nil)))) (.cons (.tup (.cons (.int 1) (.cons (.int 0) (.cons (.int 1) .nil)))) (.cons (.tup (.cons (.int 2) (.cons (.int 1) (.cons (.int 0) .nil)))) .nil)))) (.tup (.cons (.int 2) (.cons (.int 0) (.cons (.int 0) .nil))))) (.cmp .NotEq (.call "move" (.cons (.tup (.cons (.int 2) .nil)) (.cons (.tup (.cons (.int 0) .nil)) (.cons (.tup (.cons (.int 1) .nil)) .nil)))) (.tup (.cons (.int 1) .nil)))) (.cons (.ret (.bl false)) .nil) .nil) (.cons (.for (.nm 1) (.range1 (.bi "max" (.cons (.int 1) (.cons (.bi "min" (.cons (.bi "len" (.cons (.loc 0) .nil)) (.cons (.int 4) .nil))) .nil)))) (.cons (.asg (.nm 2) (.call "_law_pool" (.cons (.loc 0) (.cons (.loc 1) .nil)))) (.cons (.asg (.nm 3) (.call "_law_four_pages" (.cons (.loc 2) (.cons (.call "_law_drawn_sizes" (.cons (.loc 2) (.cons (.int 24) (.cons (.int 6) .nil)))) .nil)))) (.cons (.ite (.not (.call "_law_four_right" (.cons (.loc 3) .nil))) (.cons (.ret (.bl false)) .nil) .nil) (.cons (.asgs [4, 5, 6] (.cons (.idx (.loc 3) (.int 0)) (.cons (.idx (.loc 3) (.int 1)) (.cons (.idx (.loc 3) (.int 2)) .nil)))) (.cons (.ite (.or (.cmp .NotEq (.callK "move" 3 0 [2, 0, 1] .nil (.cons (.loc 4) (.cons (.loc 5) (.cons (.loc 6) .nil)))) (.call "_law_moved" (.cons (.loc 5) (.cons (.loc 6) (.cons (.loc 4) .nil))))) (.cmp .NotEq (.callK "changed" 2 0 [1, 0] .nil (.cons (.loc 4) (.cons (.loc 6) .nil))) (.call "_law_parted_at" (.cons (.loc 6) (.cons (.loc 4) .nil))))) (.cons (.ret (.bl false)) .nil) .nil) (.cons (.ite (.cmp .NotEq (.callK "agreed" 2 0 [1, 0] .nil (.cons (.loc 6) (.cons (.loc 5) .nil))) (.call "_law_agreed_edit" (.cons (.loc 5) (.cons (.loc 6) .nil)))) (.cons (.ret (.bl false)) .nil) .nil) .nil))))))) (.cons (.ret (.bl true)) .nil)))⟩
end Mi

set_option maxRecDepth 100000
/-! Mini: what the laws' drawings do. -/
namespace Mi
open PySem

theorem ret_end {T : Tab} {F k : Nat} {f : Str} {ds : List D} {s : Sto} {P : D → Sto → Prop} (h : WE (Gm T F k f ds) s P) : ∃ d s', Gm T F k f ds s = some (.ok d s') ∧ P d s' := h
theorem log_small {i : Int} (h0 : 0 ≤ i) (h : i < 4294967296) : i.natAbs.log2 < 9000 := by
  by_cases z : i.natAbs = 0
  · rw [z]; decide
  · have : i.natAbs.log2 < 32 := (Nat.log2_lt z).mpr (by omega)
    omega
theorem small_of {i : Int} (h0 : -1000000000000 < i) (h : i < 1000000000000) : small i = true := by
  unfold small
  rw [decide_eq_true_eq]
  have e : (2 : Int) ^ 64 = 18446744073709551616 := by decide
  rw [e]
  omega
theorem we_set0 {s : Sto} {j : Nat} {xs : List D} {n : Nat} {v : D} (h : lstAt s j = some xs) (hn : n < xs.length) (P : Unit → Sto → Prop) : WE (setE (.obj j) (.int n) v) s P ↔ P () (s.set j (.lst (xs.set n v))) := by
  refine WE.of ?_
  show (lstAt s j).bind _ = _
  rw [h]
  show (L2.ixN xs.length (n : Int)).map _ = _
  unfold L2.ixN
  rw [if_pos (by omega), if_pos (by omega)]
  simp
theorem we_jar {s : Sto} {j : Nat} {x y : D} (h : lstAt s j = some [x, y]) (P : D → Sto → Prop) : (WE (idxE (.obj j) (.int 0)) s P ↔ P x s) ∧ (WE (idxE (.obj j) (.int 1)) s P ↔ P y s) :=
  ⟨we_idx (th := .obj j) (xs := [x, y]) h rfl P, we_idx (th := .obj j) (xs := [x, y]) h rfl P⟩
/-- a drawing below top -/
theorem take_at {T : Tab} (h : T "_law_take" = some f__law_take) {F k j : Nat} {s : Sto} {top : Int} (hj : Jar s j) (h0 : 0 < top) (h1 : top.natAbs.log2 < 9000) :
    ∃ (d : Int) (s' : Sto), Gm T F (k + 1) "_law_take" [.obj j, .int top] s = some (.ok (.int d) s') ∧ 0 ≤ d ∧ d < top ∧ Fr j s s' ∧ Jar s' j := by
  obtain ⟨a, b, hj⟩ := hj
  by_cases ha : 0 < a
  · refine ⟨a % top, s.set j (.lst [.int (a / top), .int b]), gm_at h (Eq.refl _) ?_, Int.emod_nonneg _ (by omega), Int.emod_lt_of_pos _ h0, .set _, _, _, lstAt_set _ hj⟩
    simp [f__law_take, exSs, exS, bindS, bindE, ev, evs, idxE, hj, cmpE, truthM, truth, biE, biInt, binE, setE, asgTg, atD, L2.ixN, ha, h0, h1]
  · refine ⟨((b * 39373 + 7) % 2147483647 * ((b * 39373 + 7) % 2147483647)) % 2147483629 / 32 % top, s.set j (.lst [.int a, .int ((b * 39373 + 7) % 2147483647)]), gm_at h (Eq.refl _) ?_, Int.emod_nonneg _ (by omega), Int.emod_lt_of_pos _ h0, .set _, _, _, lstAt_set _ hj⟩
    have c1 : small 39373 = true := rfl
    have c2 : small ((b * 39373 + 7) % 2147483647) = true := small_of (by omega) (by omega)
    have c3 : Int.natAbs 32 = 32 := rfl
    have c4 : Nat.log2 32 < 9000 := by decide
    simp [f__law_take, exSs, exS, bindS, bindE, ev, evs, idxE, hj, cmpE, truthM, truth, biE, biInt, binE, setE, asgTg, atD, L2.ixN, ha, h0, c1, c2, c3, c4, lstAt_set _ hj]
theorem one_at {T : Tab} (h : T "_law_take" = some f__law_take) (h2 : T "_law_one" = some f__law_one) {F k j : Nat} {s : Sto} {th : D} {xs : List D} (hj : Jar s j) (hs : seqOf th s = some xs) (hn : th ≠ .obj j) (h0 : 0 < xs.length) (h1 : xs.length ≤ 16777216) :
    ∃ (d : D) (s' : Sto), Gm T F (k + 2) "_law_one" [.obj j, th] s = some (.ok d s') ∧ d ∈ xs ∧ Fr j s s' ∧ Jar s' j := by
  obtain ⟨i, s', e, i0, i1, fr, jr⟩ := take_at (F := F) (k := k) h hj (show (0 : Int) < (xs.length : Int) by omega) (log_small (by omega) (by omega))
  obtain ⟨d, hd, hm⟩ := atD_int i0 i1
  refine ⟨d, s', gm_at h2 (Eq.refl _) ?_, hm, fr, jr⟩
  have hs' := seqOf_Fr fr hs hn
  simp [f__law_one, exSs, exS, bindS, bindE, ev, evs, biE, biLen, hs, e, idxE_seq hs', hd]
/-- the jar of a cell -/
theorem pool_at {T : Tab} (h : T "_law_pool" = some f__law_pool) {F k : Nat} {s : Sto} {ns : List Int} {i : Nat} (hi : i < ns.length ∨ (ns = [] ∧ i = 0)) (hs : i < 1000) :
    WE (Gm T F (k + 1) "_law_pool" [.frz (ns.map .int), .int i]) s fun d s' => ∃ j t, d = .obj j ∧ s' = s ++ t ∧ s.length ≤ j ∧ Jar s' j := by
  have c2 : small (i : Int) = true := small_of (by omega) (by omega)
  have c5 : ∀ b : Bool, small (if b = true then 1 else 0) = true := fun b => by cases b <;> rfl
  refine we_gm h rfl ?_
  show WS (exSs _ _ f__law_pool.body [some (.frz (ns.map .int)), some (.int i), none, none, none]) s _
  unfold f__law_pool
  dsimp only
  rw [ws_cons]
  refine ws_asg ?_
  simp only [we_x_int, List.set]
  rw [ws_cons]
  -- the cell
  have cell : WS (exS (Gm T F k) F (.ite (.cmp .Lt (.loc 1) (.bi "len" (.cons (.loc 0) .nil))) (.cons (.asg (.nm 2) (.idx (.loc 0) (.loc 1))) .nil) (.cons (.ite (.cmp .NotEq (.loc 0) (.lst .nil)) (.cons (.asg (.nm 2) (.idx (.loc 0) (.int 0))) .nil) .nil) .nil)) [some (.frz (ns.map .int)), some (.int i), some (.int 0), none, none]) s
      fun f s' => ∃ (c : Int) (t : Sto), f = .nx [some (.frz (ns.map .int)), some (.int i), some (.int c), none, none] ∧ s' = s ++ t := by
    refine ws_ite ?_
    rcases hi with hi | ⟨rfl, rfl⟩
    · have hi' : (i : Int) < (ns.length : Int) := by omega
      have hat : atD (ns.map D.int) (i : Int) = some (.int ns[i]) := by
        rw [atD_nat (by simpa using hi)]
        simp [hi]
      simp only [we_x_cmp, we_x_bi, we_s_cons, we_s_nil, we_loc, List.getElem?_cons_zero, List.getElem?_cons_succ, we_len_frz, List.length_map, we_lt, we_tr_bl, hi', decide_true, if_true]
      rw [ws_cons]
      refine ws_asg ?_
      simp only [we_x_idx, we_loc, List.getElem?_cons_zero, List.getElem?_cons_succ]
      rw [we_idx (xs := ns.map D.int) rfl hat, ws_nil]
      exact ⟨_, [], rfl, by simp⟩
    · have e0 : cmpE .NotEq (.frz []) (.obj s.length) (s ++ [.lst []]) = some (.ok (.bl false) (s ++ [.lst []])) := by
        unfold cmpE
        simp [pyOf, toPy, toPys, PyData.eqv, PyData.eqvAll]
        decide
      simp only [we_x_cmp, we_x_bi, we_s_cons, we_s_nil, we_loc, List.getElem?_cons_zero, List.getElem?_cons_succ, we_len_frz, List.map_nil, List.length_nil, we_lt, we_tr_bl, Int.ofNat_zero, Int.natCast_zero, Int.lt_irrefl, decide_false, Bool.false_eq_true, if_false]
      rw [ws_cons]
      refine ws_ite ?_
      simp only [we_x_cmp, we_x_lst, we_s_nil, we_loc, List.getElem?_cons_zero, List.getElem?_cons_succ, we_newL, List.length_nil, Nat.zero_le, true_and, List.map_nil]
      rw [WE.of e0]
      simp only [we_tr_bl, Bool.false_eq_true, if_false, ws_nil]
      exact ⟨_, _, rfl, rfl⟩
  obtain ⟨f, s1, e, c, t, rfl, rfl⟩ := cell
  rw [WS.of e]
  dsimp only
  rw [ws_cons]
  refine ws_asg ?_
  simp only [we_x_bi, we_x_bin, we_x_neg, we_x_int, we_s_cons, we_s_nil, we_loc, List.getElem?_cons_zero, List.getElem?_cons_succ, we_bi_int, we_sub, we_bi_max, List.set]
  generalize (if (-1 - c > c) then -1 - c else c) = big
  rw [ws_cons]
  refine ws_asg ?_
  simp only [we_x_bi, we_x_bin, we_x_int, we_s_cons, we_s_nil, we_loc, List.getElem?_cons_zero, List.getElem?_cons_succ, we_bi_int, we_mod, we_mul, we_add, List.set]
  refine ⟨by decide, .inr c2, .inr c2, .inr c2, .inr rfl, by decide, ?_⟩
  generalize ((big % 2147483629 + 7919 * (i : Int) * i + 31 * i + 17) * 48271 % 2147483647) = mixed
  rw [ws_cons]
  refine ws_ret ?_
  simp only [we_x_lst, we_x_bi, we_x_bin, we_x_and, we_x_cmp, we_x_int, we_s_cons, we_s_nil, we_loc, List.getElem?_cons_zero, List.getElem?_cons_succ, we_pow, we_ge, we_tr_bl, we_len_frz, we_lt, we_bi_intb, we_mul, we_newL]
  refine ⟨by decide, ?_⟩
  generalize (10 : Int) ^ (18 : Int).toNat = g
  have c6 : small 0 = true := rfl
  split
  · exact ⟨.inr (c5 _), by simp, _, _, rfl, by rw [List.append_assoc], by simp, _, _, lstAt_new _ _⟩
  · exact ⟨.inr c6, by simp, _, _, rfl, by rw [List.append_assoc], by simp, _, _, lstAt_new _ _⟩
end Mi

set_option maxRecDepth 100000
/-! Mini: sizes, pages, edits as they are drawn. -/
namespace Mi
open PySem

theorem we_metT {s : Sto} {n : Nat} {ys : List D} (h : lstAt s n = some ys) (P : Unit → Sto → Prop) : WE (metT "append" (.obj n)) s P ↔ P () s :=
  WE.of (by show (lstAt s n).map _ = _; rw [h]; rfl)
theorem we_append {s : Sto} {n : Nat} {ys : List D} {d : D} (h : lstAt s n = some ys) (hl : ys.length < 16777216) (P : D → Sto → Prop) : WE (metE "append" (.obj n) [d]) s P ↔ P .non (s.set n (.lst (ys ++ [d]))) :=
  WE.of (by show (lstAt s n).bind _ = _; rw [h]; show (if ys.length < 16777216 then _ else _) = _; rw [if_pos hl])
theorem we_cat {s : Sto} {m n : Nat} {xs ys : List D} (h1 : lstAt s m = some xs) (h2 : lstAt s n = some ys) (hl : xs.length + ys.length ≤ 16777216) (P : D → Sto → Prop) : WE (binE .Add (.obj m) (.obj n)) s P ↔ P (.obj s.length) (s ++ [.lst (xs ++ ys)]) :=
  WE.of (by
    show (match lstAt s m, lstAt s n with
      | some xs, some ys => if xs.length + ys.length ≤ 16777216 then some (R.ok (D.obj s.length) (s ++ [O.lst (xs ++ ys)])) else none
      | _, _ => none) = _
    rw [h1, h2]
    dsimp only
    rw [if_pos hl])
def iT (ns : List Int) : D := .tup (ns.map D.int)
/-- a page of these sizes -/
def PageOf (zs ps : List Int) : Prop := ps.length = zs.length ∧ ∀ (i : Nat) (z p : Int), zs[i]? = some z → ps[i]? = some p → 0 ≤ p ∧ p < z
/-- sizes -/
def Sizes (zs : List Int) : Prop := (∀ z ∈ zs, 1 ≤ z ∧ z ≤ 6) ∧ 1 ≤ zs.length ∧ zs.length ≤ 24
theorem sizes_at {T : Tab} (h : T "_law_take" = some f__law_take) (h2 : T "_law_one" = some f__law_one) (h3 : T "_law_drawn_sizes" = some f__law_drawn_sizes) {F k j : Nat} {s : Sto} {most high : Int} (hj : Jar s j) (h0 : 1 ≤ most) (h1 : most ≤ 24) (h4 : 1 ≤ high) :
    WE (Gm T F (k + 3) "_law_drawn_sizes" [.obj j, .int most, .int high]) s fun d s' => ∃ zs, d = iT zs ∧ Sizes zs ∧ (zs.length : Int) ≤ most ∧ (∀ z ∈ zs, z ≤ high) ∧ Fr j s s' ∧ Jar s' j := by
  refine we_gm h3 rfl ?_
  show WS (exSs _ _ f__law_drawn_sizes.body [some (.obj j), some (.int most), some (.int high), none, none]) s _
  unfold f__law_drawn_sizes
  dsimp only
  rw [ws_cons]
  refine ws_asg ?_
  simp only [we_x_cmp, we_x_bi, we_x_bin, we_x_neg, we_x_int, we_x_bl, we_x_str, we_x_non, we_x_and, we_x_or, we_x_not, we_x_ite, we_x_tup, we_x_lst, we_x_call, we_x_callK, we_x_met, we_x_idx, we_s_cons, we_s_nil, we_t_cons, we_t_nil, we_i_seq, we_i_range1, we_i_range2, we_i_enum, we_loc, List.getElem?_cons_zero, List.getElem?_cons_succ, we_add, we_sub, we_mul, we_div, we_mod, we_pow, we_lt, we_le, we_gt, we_ge, we_eq, we_ne, we_bi_int, we_bi_intb, we_bi_max, we_bi_min, we_len_tup, we_len_frz, we_tr_bl, we_tr_int, we_newT, we_newL, we_walk_tup, we_walk_frz, we_range1, List.set, List.length_cons, List.length_nil, if_true, Bool.false_eq_true, if_false]
  refine ⟨by decide, ?_⟩
  rw [ws_cons]
  obtain ⟨t, s1, e1, t0, t1, fr1, j1⟩ := take_at (F := F) (k := k + 1) h (Jar.app hj [.lst []]) (show 0 < most by omega) (log_small (by omega) (by omega))
  have fr0 : Fr j s s1 := (Fr.app _).trans fr1
  have jn := hj.lt
  refine ws_for (fun ds ρ s' => ∃ (zs : List Int) (x : Option D), ρ = [some (.obj j), some (.int most), some (.int high), some (.obj s.length), x] ∧ lstAt s' s.length = some (zs.map .int) ∧ (zs.length : Int) + ds.length = 1 + t ∧ (∀ z ∈ zs, 1 ≤ z ∧ z ≤ 6 ∧ z ≤ high) ∧ Fr j s s' ∧ Jar s' j) ?_ ?_ ?_
  · simp only [we_x_cmp, we_x_bi, we_x_bin, we_x_neg, we_x_int, we_x_bl, we_x_str, we_x_non, we_x_and, we_x_or, we_x_not, we_x_ite, we_x_tup, we_x_lst, we_x_call, we_x_callK, we_x_met, we_x_idx, we_s_cons, we_s_nil, we_t_cons, we_t_nil, we_i_seq, we_i_range1, we_i_range2, we_i_enum, we_loc, List.getElem?_cons_zero, List.getElem?_cons_succ, we_add, we_sub, we_mul, we_div, we_mod, we_pow, we_lt, we_le, we_gt, we_ge, we_eq, we_ne, we_bi_int, we_bi_intb, we_bi_max, we_bi_min, we_len_tup, we_len_frz, we_tr_bl, we_tr_int, we_newT, we_newL, we_walk_tup, we_walk_frz, we_range1, List.set, List.length_cons, List.length_nil, if_true, Bool.false_eq_true, if_false]
    rw [WE.of e1]
    simp only [we_x_cmp, we_x_bi, we_x_bin, we_x_neg, we_x_int, we_x_bl, we_x_str, we_x_non, we_x_and, we_x_or, we_x_not, we_x_ite, we_x_tup, we_x_lst, we_x_call, we_x_callK, we_x_met, we_x_idx, we_s_cons, we_s_nil, we_t_cons, we_t_nil, we_i_seq, we_i_range1, we_i_range2, we_i_enum, we_loc, List.getElem?_cons_zero, List.getElem?_cons_succ, we_add, we_sub, we_mul, we_div, we_mod, we_pow, we_lt, we_le, we_gt, we_ge, we_eq, we_ne, we_bi_int, we_bi_intb, we_bi_max, we_bi_min, we_len_tup, we_len_frz, we_tr_bl, we_tr_int, we_newT, we_newL, we_walk_tup, we_walk_frz, we_range1, List.set, List.length_cons, List.length_nil, if_true, Bool.false_eq_true, if_false]
    refine ⟨?_, fun _ _ _ _ => rfl, [], none, rfl, fr1.lst (lstAt_new _ _) (by omega), ?_, fun _ z => absurd z List.not_mem_nil, fr0, j1⟩
    · unfold r62
      simp
      omega
    · rw [rangeD_len]
      simp
      omega
  · rintro d ds ρ s' ⟨zs, x, rfl, hl, hc, hz, fr, jr⟩
    refine ⟨_, rfl, ?_⟩
    rw [ws_cons]
    refine ws_ex ?_
    simp only [we_x_cmp, we_x_bi, we_x_bin, we_x_neg, we_x_int, we_x_bl, we_x_str, we_x_non, we_x_and, we_x_or, we_x_not, we_x_ite, we_x_tup, we_x_lst, we_x_call, we_x_callK, we_x_met, we_x_idx, we_s_cons, we_s_nil, we_t_cons, we_t_nil, we_i_seq, we_i_range1, we_i_range2, we_i_enum, we_loc, List.getElem?_cons_zero, List.getElem?_cons_succ, we_add, we_sub, we_mul, we_div, we_mod, we_pow, we_lt, we_le, we_gt, we_ge, we_eq, we_ne, we_bi_int, we_bi_intb, we_bi_max, we_bi_min, we_len_tup, we_len_frz, we_tr_bl, we_tr_int, we_newT, we_newL, we_walk_tup, we_walk_frz, we_range1, List.set, List.length_cons, List.length_nil, if_true, Bool.false_eq_true, if_false]
    rw [we_metT hl]
    refine ⟨by decide, ?_⟩
    have cl := lstAt_new s' [.int 1, .int 2, .int 2, .int 2, .int 2, .int 3, .int 3, .int 3, .int 4, .int 5, .int 6]
    obtain ⟨d1, s2, e2, hd1, fr2, j2⟩ := one_at (F := F) (k := k) h h2 (th := .obj s'.length) (jr.app _) cl (fun z => by
      have := jr.lt
      injection z
      omega) (by decide) (by decide)
    rw [WE.of e2]
    have hi : ∃ z : Int, d1 = .int z ∧ 1 ≤ z ∧ z ≤ 6 := by
      simp only [List.mem_cons, List.not_mem_nil, or_false] at hd1
      rcases hd1 with rfl | rfl | rfl | rfl | rfl | rfl | rfl | rfl | rfl | rfl | rfl <;> exact ⟨_, rfl, by decide, by decide⟩
    obtain ⟨z, rfl, z1, z6⟩ := hi
    simp only [we_x_cmp, we_x_bi, we_x_bin, we_x_neg, we_x_int, we_x_bl, we_x_str, we_x_non, we_x_and, we_x_or, we_x_not, we_x_ite, we_x_tup, we_x_lst, we_x_call, we_x_callK, we_x_met, we_x_idx, we_s_cons, we_s_nil, we_t_cons, we_t_nil, we_i_seq, we_i_range1, we_i_range2, we_i_enum, we_loc, List.getElem?_cons_zero, List.getElem?_cons_succ, we_add, we_sub, we_mul, we_div, we_mod, we_pow, we_lt, we_le, we_gt, we_ge, we_eq, we_ne, we_bi_int, we_bi_intb, we_bi_max, we_bi_min, we_len_tup, we_len_frz, we_tr_bl, we_tr_int, we_newT, we_newL, we_walk_tup, we_walk_frz, we_range1, List.set, List.length_cons, List.length_nil, if_true, Bool.false_eq_true, if_false]
    have hl2 := fr2.lst (lstAt_app hl _) (show s.length ≠ j by omega)
    have hlen : (zs.map D.int).length < 16777216 := by
      rw [List.length_map]
      rw [List.length_cons] at hc
      omega
    rw [we_append hl2 hlen, ws_nil]
    generalize hm : (if z < high then z else high) = m
    have hm' : 1 ≤ m ∧ m ≤ 6 ∧ m ≤ high := by
      subst hm
      split <;> omega
    refine ⟨zs ++ [m], some d, rfl, ?_, ?_, ?_, ?_, j2.set (by omega)⟩
    · rw [lstAt_set _ hl2]
      simp
    · rw [List.length_cons] at hc
      simp
      omega
    · intro y hy
      rcases List.mem_append.mp hy with hy | hy
      · exact hz y hy
      · rw [List.mem_singleton.mp hy]
        exact hm'
    · exact (fr.trans ((Fr.app _).trans fr2)).setNew (Nat.le_refl _) _
  · rintro ρ s' ⟨zs, x, rfl, hl, hc, hz, fr, jr⟩
    dsimp only
    rw [ws_cons]
    refine ws_ret ?_
    simp only [we_x_cmp, we_x_bi, we_x_bin, we_x_neg, we_x_int, we_x_bl, we_x_str, we_x_non, we_x_and, we_x_or, we_x_not, we_x_ite, we_x_tup, we_x_lst, we_x_call, we_x_callK, we_x_met, we_x_idx, we_s_cons, we_s_nil, we_t_cons, we_t_nil, we_i_seq, we_i_range1, we_i_range2, we_i_enum, we_loc, List.getElem?_cons_zero, List.getElem?_cons_succ, we_add, we_sub, we_mul, we_div, we_mod, we_pow, we_lt, we_le, we_gt, we_ge, we_eq, we_ne, we_bi_int, we_bi_intb, we_bi_max, we_bi_min, we_len_tup, we_len_frz, we_tr_bl, we_tr_int, we_newT, we_newL, we_walk_tup, we_walk_frz, we_range1, List.set, List.length_cons, List.length_nil, if_true, Bool.false_eq_true, if_false]
    rw [we_tuple (d := .obj s.length) hl]
    simp only [List.length_nil] at hc
    exact ⟨zs, rfl, ⟨fun z h => ⟨(hz z h).1, (hz z h).2.1⟩, by omega, by omega⟩, by omega, fun z h => (hz z h).2.2, fr, jr⟩
theorem page_at {T : Tab} (h : T "_law_take" = some f__law_take) (h2 : T "_law_any_page" = some f__law_any_page) {F k j : Nat} {s : Sto} {zs : List Int} (hj : Jar s j) (hz : Sizes zs) :
    WE (Gm T F (k + 2) "_law_any_page" [.obj j, iT zs]) s fun d s' => ∃ ps, d = iT ps ∧ PageOf zs ps ∧ Fr j s s' ∧ Jar s' j := by
  obtain ⟨z1, z2, z3⟩ := hz
  refine we_gm h2 rfl ?_
  show WS (exSs _ _ f__law_any_page.body [some (.obj j), some (iT zs), none]) s _
  unfold f__law_any_page
  dsimp only
  rw [ws_cons]
  refine ws_ret ?_
  simp only [we_x_bi, we_s_cons, we_s_nil]
  refine we_comp (fun ds acc s' => ∃ (ps done rest : List Int), zs = done ++ rest ∧ ds = rest.map .int ∧ acc = ps.map .int ∧ PageOf done ps ∧ Fr j s s' ∧ Jar s' j) ?_ ?_ ?_
  · simp only [we_x_cmp, we_x_bi, we_x_bin, we_x_neg, we_x_int, we_x_bl, we_x_str, we_x_non, we_x_and, we_x_or, we_x_not, we_x_ite, we_x_tup, we_x_lst, we_x_call, we_x_callK, we_x_met, we_x_idx, we_s_cons, we_s_nil, we_t_cons, we_t_nil, we_i_seq, we_i_range1, we_i_range2, we_i_enum, we_loc, List.getElem?_cons_zero, List.getElem?_cons_succ, we_add, we_sub, we_mul, we_div, we_mod, we_pow, we_lt, we_le, we_gt, we_ge, we_eq, we_ne, we_bi_int, we_bi_intb, we_bi_max, we_bi_min, we_len_tup, we_len_frz, we_tr_bl, we_tr_int, we_newT, we_newL, we_walk_tup, we_walk_frz, we_range1, List.set, List.length_cons, List.length_nil, if_true, Bool.false_eq_true, if_false, iT]
    exact ⟨fun _ _ _ _ => rfl, [], [], zs, rfl, rfl, rfl, ⟨rfl, fun i z p h => by simp at h⟩, .same _ _, hj⟩
  · rintro d ds acc s' ⟨ps, done, rest, e, e2, rfl, pg, fr, jr⟩
    cases rest with
    | nil => cases e2
    | cons z rest =>
      cases e2
      have hzz := z1 z (by rw [e]; simp)
      have hln : zs.length = done.length + (rest.length + 1) := by rw [e]; simp
      have := pg.1
      refine ⟨by rw [List.length_map]; omega, _, rfl, ?_⟩
      simp only [we_x_cmp, we_x_bi, we_x_bin, we_x_neg, we_x_int, we_x_bl, we_x_str, we_x_non, we_x_and, we_x_or, we_x_not, we_x_ite, we_x_tup, we_x_lst, we_x_call, we_x_callK, we_x_met, we_x_idx, we_s_cons, we_s_nil, we_t_cons, we_t_nil, we_i_seq, we_i_range1, we_i_range2, we_i_enum, we_loc, List.getElem?_cons_zero, List.getElem?_cons_succ, we_add, we_sub, we_mul, we_div, we_mod, we_pow, we_lt, we_le, we_gt, we_ge, we_eq, we_ne, we_bi_int, we_bi_intb, we_bi_max, we_bi_min, we_len_tup, we_len_frz, we_tr_bl, we_tr_int, we_newT, we_newL, we_walk_tup, we_walk_frz, we_range1, List.set, List.length_cons, List.length_nil, if_true, Bool.false_eq_true, if_false, wipeE]
      obtain ⟨p, s2, e3, p0, p1, fr2, j2⟩ := take_at (F := F) (k := k) h jr (show 0 < z by omega) (log_small (by omega) (by omega))
      rw [WE.of e3]
      refine ⟨ps ++ [p], done ++ [z], rest, by rw [e]; simp, rfl, by simp, ⟨by simp [pg.1], fun i z' p' h1 h2 => ?_⟩, fr.trans fr2, j2⟩
      by_cases hi : i < done.length
      · rw [List.getElem?_append_left hi] at h1
        rw [List.getElem?_append_left (by rw [pg.1]; exact hi)] at h2
        exact pg.2 i z' p' h1 h2
      · rw [List.getElem?_append_right (by omega)] at h1
        rw [List.getElem?_append_right (by rw [pg.1]; omega), pg.1] at h2
        cases q : i - done.length with
        | zero =>
          rw [q] at h1 h2
          simp at h1 h2
          subst h1 h2
          exact ⟨p0, p1⟩
        | succ n =>
          rw [q] at h1
          simp at h1
  · rintro acc s' ⟨ps, done, rest, e, e2, rfl, pg, fr, jr⟩
    have : rest = [] := by cases rest with
      | nil => rfl
      | cons a b => cases e2
    subst this
    rw [List.append_nil] at e
    subst e
    have := pg.1
    refine ⟨by rw [List.length_map]; omega, ?_⟩
    rw [we_tuple (d := .obj s'.length) (lstAt_new _ _)]
    exact ⟨ps, rfl, pg, fr.trans (Fr.app _), jr.app _⟩
end Mi

set_option maxRecDepth 100000
/-! Mini: edits as they are drawn, pages with edits laid over. -/
namespace Mi
open PySem

def Pre (s s' : Sto) : Prop := s.length ≤ s'.length ∧ ∀ m, m < s.length → s'[m]? = s[m]?
theorem Pre.same (s : Sto) : Pre s s := ⟨Nat.le_refl _, fun _ _ => rfl⟩
theorem Pre.trans {s s1 s2 : Sto} (a : Pre s s1) (b : Pre s1 s2) : Pre s s2 := ⟨Nat.le_trans a.1 b.1, fun m h => (b.2 m (Nat.lt_of_lt_of_le h a.1)).trans (a.2 m h)⟩
theorem Pre.app (s t : Sto) : Pre s (s ++ t) := ⟨by simp, fun m h => List.getElem?_append_left h⟩
theorem Pre.set {s s' : Sto} {n : Nat} (a : Pre s s') (h : s.length ≤ n) (o : O) : Pre s (s'.set n o) := ⟨by simpa using a.1, fun m hm => by rw [List.getElem?_set_ne (by omega)]; exact a.2 m hm⟩
theorem Pre.fr {s s' : Sto} (a : Pre s s') (j : Nat) : Fr j s s' := ⟨a.1, fun m h _ => a.2 m h⟩
theorem Pre.lst {s s' : Sto} {n : Nat} {xs : List D} (a : Pre s s') (h : lstAt s n = some xs) : lstAt s' n = some xs := by
  rw [lstAt_some, a.2 n (lstAt_lt h)]
  exact lstAt_some.mp h
theorem Pre.jar {s s' : Sto} {j : Nat} (a : Pre s s') (h : Jar s j) : Jar s' j := by
  obtain ⟨x, y, h⟩ := h
  exact ⟨x, y, a.lst h⟩
def pD (e : Nat × Int) : D := .tup [.int (e.1 : Int), .int e.2]
def eT (es : List (Nat × Int)) : D := .tup (es.map pD)
def EditOf (zs : List Int) (es : List (Nat × Int)) : Prop := ∀ e ∈ es, ∃ z, zs[e.1]? = some z ∧ 0 ≤ e.2 ∧ e.2 < z
theorem edit_at {T : Tab} (h : T "_law_take" = some f__law_take) (h2 : T "_law_any_edit" = some f__law_any_edit) {F k j : Nat} {s : Sto} {zs : List Int} {rare : Int} (hj : Jar s j) (hz : Sizes zs) (r0 : 0 < rare) (r1 : rare < 1000) :
    WE (Gm T F (k + 2) "_law_any_edit" [.obj j, iT zs, .int rare]) s fun d s' => ∃ es, d = eT es ∧ EditOf zs es ∧ Fr j s s' ∧ Jar s' j := by
  obtain ⟨z1, z2, z3⟩ := hz
  refine we_gm h2 rfl ?_
  show WS (exSs _ _ f__law_any_edit.body [some (.obj j), some (iT zs), some (.int rare), none]) s _
  unfold f__law_any_edit
  dsimp only
  rw [ws_cons]
  refine ws_ret ?_
  simp only [we_x_bi, we_s_cons, we_s_nil]
  refine we_comp (fun ds acc s' => ∃ (n m : Nat) (es : List (Nat × Int)), n + m = zs.length ∧ ds = rangeD n m ∧ acc = es.map pD ∧ es.length ≤ n ∧ EditOf zs es ∧ Fr j s s' ∧ Jar s' j) ?_ ?_ ?_
  · simp only [we_x_cmp, we_x_bi, we_x_bin, we_x_neg, we_x_int, we_x_bl, we_x_str, we_x_non, we_x_and, we_x_or, we_x_not, we_x_ite, we_x_tup, we_x_lst, we_x_call, we_x_callK, we_x_met, we_x_idx, we_s_cons, we_s_nil, we_t_cons, we_t_nil, we_i_seq, we_i_range1, we_i_range2, we_i_enum, we_loc, List.getElem?_cons_zero, List.getElem?_cons_succ, we_add, we_sub, we_mul, we_div, we_mod, we_pow, we_lt, we_le, we_gt, we_ge, we_eq, we_ne, we_bi_int, we_bi_intb, we_bi_max, we_bi_min, we_len_tup, we_len_frz, we_tr_bl, we_tr_int, we_newT, we_newL, we_walk_tup, we_walk_frz, we_range1, List.set, List.length_cons, List.length_nil, if_true, Bool.false_eq_true, if_false, iT, List.length_map]
    refine ⟨?_, fun _ _ _ _ => rfl, 0, zs.length, [], by omega, rfl, rfl, Nat.le_refl _, fun _ z => absurd z List.not_mem_nil, .same _ _, hj⟩
    unfold r62
    simp
    omega
  · rintro d ds acc s' ⟨n, m, es, e, e2, rfl, el, eo, fr, jr⟩
    cases m with
    | zero => cases e2
    | succ m =>
      cases e2
      refine ⟨by rw [List.length_map]; omega, _, rfl, ?_⟩
      simp only [we_x_cmp, we_x_bi, we_x_bin, we_x_neg, we_x_int, we_x_bl, we_x_str, we_x_non, we_x_and, we_x_or, we_x_not, we_x_ite, we_x_tup, we_x_lst, we_x_call, we_x_callK, we_x_met, we_x_idx, we_s_cons, we_s_nil, we_t_cons, we_t_nil, we_i_seq, we_i_range1, we_i_range2, we_i_enum, we_loc, List.getElem?_cons_zero, List.getElem?_cons_succ, we_add, we_sub, we_mul, we_div, we_mod, we_pow, we_lt, we_le, we_gt, we_ge, we_eq, we_ne, we_bi_int, we_bi_intb, we_bi_max, we_bi_min, we_len_tup, we_len_frz, we_tr_bl, we_tr_int, we_newT, we_newL, we_walk_tup, we_walk_frz, we_range1, List.set, List.length_cons, List.length_nil, if_true, Bool.false_eq_true, if_false, wipeE]
      obtain ⟨p, s2, e3, p0, p1, fr2, j2⟩ := take_at (F := F) (k := k) h jr r0 (log_small (by omega) (by omega))
      rw [WE.of e3]
      simp only [we_x_cmp, we_x_bi, we_x_bin, we_x_neg, we_x_int, we_x_bl, we_x_str, we_x_non, we_x_and, we_x_or, we_x_not, we_x_ite, we_x_tup, we_x_lst, we_x_call, we_x_callK, we_x_met, we_x_idx, we_s_cons, we_s_nil, we_t_cons, we_t_nil, we_i_seq, we_i_range1, we_i_range2, we_i_enum, we_loc, List.getElem?_cons_zero, List.getElem?_cons_succ, we_add, we_sub, we_mul, we_div, we_mod, we_pow, we_lt, we_le, we_gt, we_ge, we_eq, we_ne, we_bi_int, we_bi_intb, we_bi_max, we_bi_min, we_len_tup, we_len_frz, we_tr_bl, we_tr_int, we_newT, we_newL, we_walk_tup, we_walk_frz, we_range1, List.set, List.length_cons, List.length_nil, if_true, Bool.false_eq_true, if_false]
      by_cases hp : p = 0
      · simp only [we_x_cmp, we_x_bi, we_x_bin, we_x_neg, we_x_int, we_x_bl, we_x_str, we_x_non, we_x_and, we_x_or, we_x_not, we_x_ite, we_x_tup, we_x_lst, we_x_call, we_x_callK, we_x_met, we_x_idx, we_s_cons, we_s_nil, we_t_cons, we_t_nil, we_i_seq, we_i_range1, we_i_range2, we_i_enum, we_loc, List.getElem?_cons_zero, List.getElem?_cons_succ, we_add, we_sub, we_mul, we_div, we_mod, we_pow, we_lt, we_le, we_gt, we_ge, we_eq, we_ne, we_bi_int, we_bi_intb, we_bi_max, we_bi_min, we_len_tup, we_len_frz, we_tr_bl, we_tr_int, we_newT, we_newL, we_walk_tup, we_walk_frz, we_range1, List.set, List.length_cons, List.length_nil, if_true, Bool.false_eq_true, if_false, hp, decide_true]
        have hn : n < zs.length := by omega
        have hzn : atD (zs.map D.int) (n : Int) = some (.int zs[n]) := by
          rw [atD_nat (by simpa using hn)]
          simp [hn]
        rw [we_idx (th := iT zs) (xs := zs.map D.int) rfl hzn]
        have hzz := z1 zs[n] (List.getElem_mem hn)
        obtain ⟨q, s3, e4, q0, q1, fr3, j3⟩ := take_at (F := F) (k := k) (top := zs[n]) h j2 (by omega) (log_small (by omega) (by omega))
        rw [WE.of e4]
        refine ⟨by omega, n + 1, m, es ++ [(n, q)], by omega, by rw [Int.natCast_add]; rfl, by simp [pD], by simp; omega, ?_, fr.trans (fr2.trans fr3), j3⟩
        intro x hx
        rcases List.mem_append.mp hx with hx | hx
        · exact eo x hx
        · rw [List.mem_singleton.mp hx]
          exact ⟨zs[n], List.getElem?_eq_getElem hn, q0, q1⟩
      · simp only [hp, decide_false, Bool.false_eq_true, if_false]
        exact ⟨n + 1, m, es, by omega, by rw [Int.natCast_add]; rfl, rfl, by omega, eo, fr.trans fr2, j2⟩
  · rintro acc s' ⟨n, m, es, e, e2, rfl, el, eo, fr, jr⟩
    refine ⟨by rw [List.length_map]; omega, ?_⟩
    rw [we_tuple (d := .obj s'.length) (lstAt_new _ _)]
    exact ⟨es, rfl, eo, fr.trans (Fr.app _), jr.app _⟩
def overL (ps : List Int) (es : List (Nat × Int)) : List Int := es.foldl (fun p e => p.set e.1 e.2) ps
theorem overL_len : ∀ (es : List (Nat × Int)) (ps : List Int), (overL ps es).length = ps.length
  | [], ps => rfl
  | e :: es, ps => by
    show (overL (ps.set e.1 e.2) es).length = _
    rw [overL_len es, List.length_set]
theorem page_set {zs ps : List Int} (h : PageOf zs ps) {i : Nat} {a z : Int} (hz : zs[i]? = some z) (h0 : 0 ≤ a) (h1 : a < z) : PageOf zs (ps.set i a) := by
  refine ⟨by rw [List.length_set]; exact h.1, fun j z' p e1 e2 => ?_⟩
  by_cases hj : i = j
  · subst hj
    rw [hz] at e1
    cases e1
    rw [List.getElem?_set] at e2
    simp at e2
    obtain ⟨_, rfl⟩ := e2
    exact ⟨h0, h1⟩
  · rw [List.getElem?_set_ne hj] at e2
    exact h.2 j z' p e1 e2
theorem page_over {zs : List Int} : ∀ {es : List (Nat × Int)} {ps : List Int}, PageOf zs ps → EditOf zs es → PageOf zs (overL ps es)
  | [], ps, h, _ => h
  | e :: es, ps, h, he => by
    obtain ⟨z, h1, h2, h3⟩ := he e List.mem_cons_self
    exact page_over (es := es) (ps := ps.set e.1 e.2) (page_set h h1 h2 h3) fun x hx => he x (List.mem_cons_of_mem _ hx)
theorem over_at {T : Tab} (h : T "_law_over" = some f__law_over) {F k : Nat} {s : Sto} {ps zs : List Int} {es : List (Nat × Int)} (hl : ps.length = zs.length) (hz : zs.length ≤ 24) (he : EditOf zs es) :
    WE (Gm T F (k + 1) "_law_over" [iT ps, eT es]) s fun d s' => d = iT (overL ps es) ∧ Pre s s' := by
  refine we_gm h rfl ?_
  show WS (exSs _ _ f__law_over.body [some (iT ps), some (eT es), none, none, none]) s _
  unfold f__law_over
  dsimp only
  rw [ws_cons]
  refine ws_asg ?_
  simp only [we_x_bi, we_s_cons, we_s_nil, we_loc, List.getElem?_cons_zero]
  rw [we_list (d := iT ps) (xs := ps.map D.int) rfl, ws_cons]
  refine ws_for (fun ds ρ s' => ∃ (done rest : List (Nat × Int)) (a b : Option D), es = done ++ rest ∧ ds = rest.map pD ∧ ρ = [some (iT ps), some (eT es), some (.obj s.length), a, b] ∧ lstAt s' s.length = some ((overL ps done).map .int) ∧ Pre s s') ?_ ?_ ?_
  · simp only [we_x_cmp, we_x_bi, we_x_bin, we_x_neg, we_x_int, we_x_bl, we_x_str, we_x_non, we_x_and, we_x_or, we_x_not, we_x_ite, we_x_tup, we_x_lst, we_x_call, we_x_callK, we_x_met, we_x_idx, we_s_cons, we_s_nil, we_t_cons, we_t_nil, we_i_seq, we_i_range1, we_i_range2, we_i_enum, we_loc, List.getElem?_cons_zero, List.getElem?_cons_succ, we_add, we_sub, we_mul, we_div, we_mod, we_pow, we_lt, we_le, we_gt, we_ge, we_eq, we_ne, we_bi_int, we_bi_intb, we_bi_max, we_bi_min, we_len_tup, we_len_frz, we_tr_bl, we_tr_int, we_newT, we_newL, we_walk_tup, we_walk_frz, we_range1, List.set, List.length_cons, List.length_nil, if_true, Bool.false_eq_true, if_false, eT]
    exact ⟨fun _ _ _ _ => rfl, [], es, none, none, rfl, rfl, rfl, lstAt_new _ _, .app _ _⟩
  · rintro d ds ρ s' ⟨done, rest, a, b, e, e2, rfl, hl', pr⟩
    cases rest with
    | nil => cases e2
    | cons x rest =>
      cases e2
      refine ⟨_, rfl, ?_⟩
      rw [ws_cons]
      refine ws_sub ?_
      simp only [we_x_cmp, we_x_bi, we_x_bin, we_x_neg, we_x_int, we_x_bl, we_x_str, we_x_non, we_x_and, we_x_or, we_x_not, we_x_ite, we_x_tup, we_x_lst, we_x_call, we_x_callK, we_x_met, we_x_idx, we_s_cons, we_s_nil, we_t_cons, we_t_nil, we_i_seq, we_i_range1, we_i_range2, we_i_enum, we_loc, List.getElem?_cons_zero, List.getElem?_cons_succ, we_add, we_sub, we_mul, we_div, we_mod, we_pow, we_lt, we_le, we_gt, we_ge, we_eq, we_ne, we_bi_int, we_bi_intb, we_bi_max, we_bi_min, we_len_tup, we_len_frz, we_tr_bl, we_tr_int, we_newT, we_newL, we_walk_tup, we_walk_frz, we_range1, List.set, List.length_cons, List.length_nil, if_true, Bool.false_eq_true, if_false, List.zip, List.zipWith, List.foldl]
      obtain ⟨z, h1, h2, h3⟩ := he x (by rw [e]; simp)
      have hx : x.1 < (List.map D.int (overL ps done)).length := by
        rw [List.length_map, overL_len, hl]
        exact (List.getElem?_eq_some_iff.mp h1).1
      rw [we_set0 hl' hx, ws_nil]
      refine ⟨done ++ [x], rest, _, _, by rw [e]; simp, rfl, rfl, ?_, pr.set (Nat.le_refl _) _⟩
      rw [lstAt_set _ hl']
      simp [overL, List.map_set]
  · rintro ρ s' ⟨done, rest, a, b, e, e2, rfl, hl', pr⟩
    have : rest = [] := by cases rest with
      | nil => rfl
      | cons a b => cases e2
    subst this
    rw [List.append_nil] at e
    subst e
    dsimp only
    rw [ws_cons]
    refine ws_ret ?_
    simp only [we_x_cmp, we_x_bi, we_x_bin, we_x_neg, we_x_int, we_x_bl, we_x_str, we_x_non, we_x_and, we_x_or, we_x_not, we_x_ite, we_x_tup, we_x_lst, we_x_call, we_x_callK, we_x_met, we_x_idx, we_s_cons, we_s_nil, we_t_cons, we_t_nil, we_i_seq, we_i_range1, we_i_range2, we_i_enum, we_loc, List.getElem?_cons_zero, List.getElem?_cons_succ, we_add, we_sub, we_mul, we_div, we_mod, we_pow, we_lt, we_le, we_gt, we_ge, we_eq, we_ne, we_bi_int, we_bi_intb, we_bi_max, we_bi_min, we_len_tup, we_len_frz, we_tr_bl, we_tr_int, we_newT, we_newL, we_walk_tup, we_walk_frz, we_range1, List.set, List.length_cons, List.length_nil, if_true, Bool.false_eq_true, if_false]
    rw [we_tuple (d := .obj s.length) hl']
    exact ⟨rfl, pr⟩
end Mi

set_option maxRecDepth 100000
/-! k02: four pages, what is compared. -/
namespace Mi
open PySem

theorem pages_at {T : Tab} (h : T "_law_take" = some f__law_take) (h1 : T "_law_one" = some f__law_one) (h2 : T "_law_any_page" = some f__law_any_page) (h3 : T "_law_any_edit" = some f__law_any_edit) (h4 : T "_law_over" = some f__law_over) (h5 : T "_law_four_pages" = some f__law_four_pages)
    {F k j : Nat} {s : Sto} {zs : List Int} (hj : Jar s j) (hz : Sizes zs) :
    WE (Gm T F (k + 3) "_law_four_pages" [.obj j, iT zs]) s fun d s' => ∃ (n : Nat) (pp : List (List Int)), d = .obj n ∧ lstAt s' n = some (pp.map iT) ∧ pp.length = 4 ∧ (∀ p ∈ pp, PageOf zs p) := by
  have z3 := hz.2.2
  refine we_gm h5 rfl ?_
  show WS (exSs _ _ f__law_four_pages.body [some (.obj j), some (iT zs), none, none, none, none]) s _
  unfold f__law_four_pages
  dsimp only
  rw [ws_cons]
  refine ws_asg ?_
  simp only [we_x_cmp, we_x_bi, we_x_bin, we_x_neg, we_x_int, we_x_bl, we_x_str, we_x_non, we_x_and, we_x_or, we_x_not, we_x_ite, we_x_tup, we_x_lst, we_x_call, we_x_callK, we_x_met, we_x_idx, we_s_cons, we_s_nil, we_t_cons, we_t_nil, we_i_seq, we_i_range1, we_i_range2, we_i_enum, we_loc, List.getElem?_cons_zero, List.getElem?_cons_succ, we_add, we_sub, we_mul, we_div, we_mod, we_pow, we_lt, we_le, we_gt, we_ge, we_eq, we_ne, we_bi_int, we_bi_intb, we_bi_max, we_bi_min, we_len_tup, we_len_frz, we_tr_bl, we_tr_int, we_newT, we_newL, we_walk_tup, we_walk_frz, we_range1, List.set, List.length_cons, List.length_nil, if_true, Bool.false_eq_true, if_false]
  obtain ⟨d, s1, e1, ps, rfl, pg, fr1, j1⟩ := page_at (F := F) (k := k) h h2 hj hz
  rw [WE.of e1]
  refine ⟨by simp, ?_⟩
  have jn : j < s.length := hj.lt
  have sn : s.length ≤ s1.length := fr1.1
  rw [ws_cons]
  refine ws_for (fun ds ρ s' => ∃ (pp : List (List Int)) (x y : Option D), ρ = [some (.obj j), some (iT zs), some (.obj s1.length), x, y, none] ∧ lstAt s' s1.length = some (pp.map iT) ∧ pp.length + ds.length = 3 ∧ 1 ≤ pp.length ∧ (∀ p ∈ pp, PageOf zs p) ∧ Jar s' j) ?_ ?_ ?_
  · simp only [we_x_cmp, we_x_bi, we_x_bin, we_x_neg, we_x_int, we_x_bl, we_x_str, we_x_non, we_x_and, we_x_or, we_x_not, we_x_ite, we_x_tup, we_x_lst, we_x_call, we_x_callK, we_x_met, we_x_idx, we_s_cons, we_s_nil, we_t_cons, we_t_nil, we_i_seq, we_i_range1, we_i_range2, we_i_enum, we_loc, List.getElem?_cons_zero, List.getElem?_cons_succ, we_add, we_sub, we_mul, we_div, we_mod, we_pow, we_lt, we_le, we_gt, we_ge, we_eq, we_ne, we_bi_int, we_bi_intb, we_bi_max, we_bi_min, we_len_tup, we_len_frz, we_tr_bl, we_tr_int, we_newT, we_newL, we_walk_tup, we_walk_frz, we_range1, List.set, List.length_cons, List.length_nil, if_true, Bool.false_eq_true, if_false]
    refine ⟨by decide, fun _ _ _ _ => rfl, [ps], none, none, rfl, lstAt_new _ _, rfl, Nat.le_refl _, fun p hp => ?_, j1.app _⟩
    rw [List.mem_singleton.mp hp]
    exact pg
  · rintro d ds ρ s' ⟨pp, x, y, rfl, hl, hc, h1c, hp, jr⟩
    refine ⟨_, rfl, ?_⟩
    rw [ws_cons]
    refine ws_asg ?_
    simp only [we_x_cmp, we_x_bi, we_x_bin, we_x_neg, we_x_int, we_x_bl, we_x_str, we_x_non, we_x_and, we_x_or, we_x_not, we_x_ite, we_x_tup, we_x_lst, we_x_call, we_x_callK, we_x_met, we_x_idx, we_s_cons, we_s_nil, we_t_cons, we_t_nil, we_i_seq, we_i_range1, we_i_range2, we_i_enum, we_loc, List.getElem?_cons_zero, List.getElem?_cons_succ, we_add, we_sub, we_mul, we_div, we_mod, we_pow, we_lt, we_le, we_gt, we_ge, we_eq, we_ne, we_bi_int, we_bi_intb, we_bi_max, we_bi_min, we_len_tup, we_len_frz, we_tr_bl, we_tr_int, we_newT, we_newL, we_walk_tup, we_walk_frz, we_range1, List.set, List.length_cons, List.length_nil, if_true, Bool.false_eq_true, if_false]
    obtain ⟨d1, s2, e2, hd1, fr2, j2⟩ := one_at (F := F) (k := k) h h1 (th := .obj s1.length) jr hl (fun z => by
      injection z
      omega) (by rw [List.length_map]; omega) (by rw [List.length_map]; rw [List.length_cons] at hc; omega)
    obtain ⟨qs, hq, rfl⟩ := List.mem_map.mp hd1
    rw [WE.of e2, ws_cons]
    refine ws_ex ?_
    simp only [we_x_cmp, we_x_bi, we_x_bin, we_x_neg, we_x_int, we_x_bl, we_x_str, we_x_non, we_x_and, we_x_or, we_x_not, we_x_ite, we_x_tup, we_x_lst, we_x_call, we_x_callK, we_x_met, we_x_idx, we_s_cons, we_s_nil, we_t_cons, we_t_nil, we_i_seq, we_i_range1, we_i_range2, we_i_enum, we_loc, List.getElem?_cons_zero, List.getElem?_cons_succ, we_add, we_sub, we_mul, we_div, we_mod, we_pow, we_lt, we_le, we_gt, we_ge, we_eq, we_ne, we_bi_int, we_bi_intb, we_bi_max, we_bi_min, we_len_tup, we_len_frz, we_tr_bl, we_tr_int, we_newT, we_newL, we_walk_tup, we_walk_frz, we_range1, List.set, List.length_cons, List.length_nil, if_true, Bool.false_eq_true, if_false]
    have hl2 := fr2.lst hl (show s1.length ≠ j by omega)
    rw [we_metT hl2]
    obtain ⟨t, s3, e3, t0, t1, fr3, j3⟩ := take_at (F := F) (k := k + 1) (top := 4) h j2 (by decide) (by decide)
    rw [WE.of e3]
    simp only [we_x_cmp, we_x_bi, we_x_bin, we_x_neg, we_x_int, we_x_bl, we_x_str, we_x_non, we_x_and, we_x_or, we_x_not, we_x_ite, we_x_tup, we_x_lst, we_x_call, we_x_callK, we_x_met, we_x_idx, we_s_cons, we_s_nil, we_t_cons, we_t_nil, we_i_seq, we_i_range1, we_i_range2, we_i_enum, we_loc, List.getElem?_cons_zero, List.getElem?_cons_succ, we_add, we_sub, we_mul, we_div, we_mod, we_pow, we_lt, we_le, we_gt, we_ge, we_eq, we_ne, we_bi_int, we_bi_intb, we_bi_max, we_bi_min, we_len_tup, we_len_frz, we_tr_bl, we_tr_int, we_newT, we_newL, we_walk_tup, we_walk_frz, we_range1, List.set, List.length_cons, List.length_nil, if_true, Bool.false_eq_true, if_false]
    obtain ⟨d2, s4, e4, es, rfl, eo, fr4, j4⟩ := edit_at (F := F) (k := k) (rare := 1 + t) h h3 j3 hz (by omega) (by omega)
    rw [WE.of e4]
    obtain ⟨d3, s5, e5, rfl, pr5⟩ := over_at (F := F) (k := k + 1) (s := s4) h4 (hp qs hq).1 z3 eo
    rw [WE.of e5]
    have hl5 := pr5.lst (fr4.lst (fr3.lst hl2 (show s1.length ≠ j by omega)) (show s1.length ≠ j by omega))
    rw [we_append hl5 (by rw [List.length_map]; rw [List.length_cons] at hc; omega), ws_nil]
    refine ⟨pp ++ [overL qs es], _, _, rfl, ?_, ?_, by simp, ?_, (pr5.jar j4).set (by omega)⟩
    · rw [lstAt_set _ hl5]
      simp
    · rw [List.length_cons] at hc
      simp
      omega
    · intro p hp'
      rcases List.mem_append.mp hp' with hp' | hp'
      · exact hp p hp'
      · rw [List.mem_singleton.mp hp']
        exact page_over (hp qs hq) eo
  · rintro ρ s' ⟨pp, x, y, rfl, hl, hc, h1c, hp, jr⟩
    dsimp only
    rw [ws_cons]
    refine ws_asg ?_
    simp only [we_x_cmp, we_x_bi, we_x_bin, we_x_neg, we_x_int, we_x_bl, we_x_str, we_x_non, we_x_and, we_x_or, we_x_not, we_x_ite, we_x_tup, we_x_lst, we_x_call, we_x_callK, we_x_met, we_x_idx, we_s_cons, we_s_nil, we_t_cons, we_t_nil, we_i_seq, we_i_range1, we_i_range2, we_i_enum, we_loc, List.getElem?_cons_zero, List.getElem?_cons_succ, we_add, we_sub, we_mul, we_div, we_mod, we_pow, we_lt, we_le, we_gt, we_ge, we_eq, we_ne, we_bi_int, we_bi_intb, we_bi_max, we_bi_min, we_len_tup, we_len_frz, we_tr_bl, we_tr_int, we_newT, we_newL, we_walk_tup, we_walk_frz, we_range1, List.set, List.length_cons, List.length_nil, if_true, Bool.false_eq_true, if_false]
    obtain ⟨d, s2, e2, ps2, rfl, pg2, fr2, j2⟩ := page_at (F := F) (k := k) h h2 jr hz
    rw [WE.of e2, ws_cons]
    refine ws_ret ?_
    simp only [we_x_cmp, we_x_bi, we_x_bin, we_x_neg, we_x_int, we_x_bl, we_x_str, we_x_non, we_x_and, we_x_or, we_x_not, we_x_ite, we_x_tup, we_x_lst, we_x_call, we_x_callK, we_x_met, we_x_idx, we_s_cons, we_s_nil, we_t_cons, we_t_nil, we_i_seq, we_i_range1, we_i_range2, we_i_enum, we_loc, List.getElem?_cons_zero, List.getElem?_cons_succ, we_add, we_sub, we_mul, we_div, we_mod, we_pow, we_lt, we_le, we_gt, we_ge, we_eq, we_ne, we_bi_int, we_bi_intb, we_bi_max, we_bi_min, we_len_tup, we_len_frz, we_tr_bl, we_tr_int, we_newT, we_newL, we_walk_tup, we_walk_frz, we_range1, List.set, List.length_cons, List.length_nil, if_true, Bool.false_eq_true, if_false]
    have hl2 := fr2.lst hl (show s1.length ≠ j by omega)
    simp only [List.length_nil, Nat.add_zero] at hc
    have q1 : lstAt (s2 ++ [.lst [iT ps2]]) s1.length = some (pp.map iT) := lstAt_app hl2 _
    refine ⟨by simp, ?_⟩
    rw [we_cat q1 (lstAt_new s2 [iT ps2]) (by simp; omega)]
    have j3 : Jar ((s2 ++ [.lst [iT ps2]]) ++ [.lst (pp.map iT ++ [iT ps2])]) j := (j2.app _).app _
    have hne := j3.lt
    obtain ⟨d3, s3, e3, hd3, fr3, j3'⟩ := one_at (F := F) (k := k) (th := .obj (s2 ++ [O.lst [iT ps2]]).length) h h1 j3 (lstAt_new _ _) (fun z => by
      injection z with z
      have := j2.lt
      simp at z
      omega) (by simp) (by simp; omega)
    rw [WE.of e3]
    refine ⟨by simp, ?_⟩
    have q2 : lstAt (s3 ++ [.lst [d3]]) s1.length = some (pp.map iT) := lstAt_app (fr3.lst (lstAt_app q1 _) (show s1.length ≠ j by omega)) _
    rw [we_cat q2 (lstAt_new s3 [d3]) (by simp; omega)]
    have hm : ∃ p, d3 = iT p ∧ PageOf zs p := by
      rcases List.mem_append.mp hd3 with z | z
      · obtain ⟨p, hp', rfl⟩ := List.mem_map.mp z
        exact ⟨p, rfl, hp p hp'⟩
      · exact ⟨ps2, List.mem_singleton.mp z, pg2⟩
    obtain ⟨p, rfl, hpz⟩ := hm
    refine ⟨_, pp ++ [p], rfl, ?_, by simp; omega, fun q hq => ?_⟩
    · rw [lstAt_new]
      simp
    · rcases List.mem_append.mp hq with z | z
      · exact hp q z
      · rw [List.mem_singleton.mp z]
        exact hpz
end Mi

set_option maxRecDepth 100000
/-! k02: what is compared. -/
namespace Mi
open PySem

/-- a comprehension that changes nothing -/
theorem we_comp_at {G : Fs} {own : List Nat} {tg : Tg} {it : Src} {ifs : Exs} {elt : Ex} {ρ : Env} {s : Sto} {Q : D → Sto → Prop} (r : Nat → Option D)
    (h : WE (evSrc G it ρ) s fun w s' => s' = s ∧ w.ok s = true ∧ w.items.length ≤ 16777216 ∧
      (∀ i d, w.items[i]? = some d → ∃ ρ', asgTg tg d (wipeE ρ own) = some ρ' ∧ WE (evTs G ifs ρ') s fun t s1 => s1 = s ∧ if t then WE (ev G elt ρ') s fun x s2 => s2 = s ∧ r i = some x else r i = none) ∧
      Q (.obj s.length) (s ++ [.lst ((List.range w.items.length).filterMap r)])) : WE (ev G (.comp own tg it ifs elt) ρ) s Q := by
  simp only [ev]
  rw [we_bind]
  obtain ⟨w, s', e, rfl, hw, hl, ht, q⟩ := h
  refine .ok e ?_
  rw [we_bind]
  have c := comp_at (turn := fun d => noX (liftO (asgTg tg d (wipeE ρ own)) >>= fun ρ' => evTs G ifs ρ' >>= fun t => if t then ev G elt ρ' >>= fun x => pure (some x) else pure none)) hw w.items [] r (by simpa using hl) fun i d hd => by
    obtain ⟨ρ', e1, t, s1, e2, rfl, p⟩ := ht i d hd
    cases t with
    | true =>
      obtain ⟨x, s2, e3, rfl, p⟩ := p
      simp [noX, e1, e2, e3, p]
    | false =>
      have p' : r i = none := p
      simp [noX, e1, e2, p']
  refine .ok c ?_
  rw [we_newL]
  refine ⟨?_, by simpa using q⟩
  simp only [List.nil_append]
  exact Nat.le_trans (List.length_filterMap_le _ _) (by simpa using hl)
def rCh (xs ys : List Int) (i : Nat) : Option D := match xs[i]?, ys[i]? with
  | some x, some y => if x = y then none else some (.int i)
  | _, _ => none
def rAg (xs ys : List Int) (i : Nat) : Option D := match xs[i]?, ys[i]? with
  | some x, some y => if x = y then some (.tup [.int i, .int x]) else none
  | _, _ => none
def rMv (xs ys zs : List Int) (i : Nat) : Option D := match xs[i]?, ys[i]?, zs[i]? with
  | some x, some y, some z => some (.int (if x = y then x else z))
  | _, _, _ => none
def dCh (xs ys : List Int) : D := .tup ((List.range xs.length).filterMap (rCh xs ys))
def dAg (xs ys : List Int) : D := .tup ((List.range xs.length).filterMap (rAg xs ys))
def dMv (xs ys zs : List Int) : D := .tup ((List.range xs.length).filterMap (rMv xs ys zs))
theorem at_i {xs : List Int} {i : Nat} {x : Int} (h : xs[i]? = some x) : atD (xs.map D.int) (i : Int) = some (.int x) := by
  have hi := (List.getElem?_eq_some_iff.mp h).1
  rw [atD_nat (by simpa using hi), List.getElem?_map, h]
  rfl
theorem at_lt {xs : List Int} {i : Nat} (h : i < xs.length) : ∃ x, xs[i]? = some x := ⟨_, List.getElem?_eq_getElem h⟩
theorem en_at {xs : List Int} {i : Nat} {d : D} (h : (enumD 0 (xs.map D.int))[i]? = some d) : ∃ x, xs[i]? = some x ∧ d = .tup [.int i, .int x] := by
  rw [enumD_at, List.getElem?_map, Option.map_map] at h
  obtain ⟨x, hx, rfl⟩ := Option.map_eq_some_iff.mp h
  exact ⟨x, hx, by simp⟩
theorem rg_at {n i : Nat} {d : D} (h : (rangeD 0 n)[i]? = some d) : i < n ∧ d = .int i := by
  rw [rangeD_at] at h
  split at h
  · rename_i hi
    cases h
    exact ⟨hi, by simp⟩
  · cases h
section
variable {T : Tab} {F k : Nat} {s : Sto} {xs ys zs : List Int}
theorem changed_at (h : T "changed" = some f_changed) (hl : xs.length = ys.length) (hb : xs.length ≤ 24) : WE (Gm T F (k + 1) "changed" [iT xs, iT ys]) s fun d s' => d = dCh xs ys ∧ Pre s s' := by
  refine we_gm h rfl ?_
  show WS (exSs _ _ f_changed.body [some (iT xs), some (iT ys), none, none]) s _
  unfold f_changed
  dsimp only
  rw [ws_cons]
  refine ws_ret ?_
  simp only [we_x_bi, we_s_cons, we_s_nil]
  refine we_comp_at (rCh xs ys) ?_
  simp only [we_x_cmp, we_x_bi, we_x_bin, we_x_neg, we_x_int, we_x_bl, we_x_str, we_x_non, we_x_and, we_x_or, we_x_not, we_x_ite, we_x_tup, we_x_lst, we_x_call, we_x_callK, we_x_met, we_x_idx, we_s_cons, we_s_nil, we_t_cons, we_t_nil, we_i_seq, we_i_range1, we_i_range2, we_i_enum, we_loc, List.getElem?_cons_zero, List.getElem?_cons_succ, we_add, we_sub, we_mul, we_div, we_mod, we_pow, we_lt, we_le, we_gt, we_ge, we_eq, we_ne, we_bi_int, we_bi_intb, we_bi_max, we_bi_min, we_len_tup, we_len_frz, we_tr_bl, we_tr_int, we_newT, we_newL, we_walk_tup, we_walk_frz, we_range1, List.set, List.length_cons, List.length_nil, if_true, Bool.false_eq_true, if_false, iT, wkEnum, true_and, enumD_len, List.length_map]
  refine ⟨rfl, by omega, fun i d hd => ?_, ?_⟩
  · obtain ⟨x, hx, rfl⟩ := en_at hd
    have hi := (List.getElem?_eq_some_iff.mp hx).1
    obtain ⟨y, hy⟩ := at_lt (xs := ys) (i := i) (by omega)
    refine ⟨_, rfl, ?_⟩
    simp only [we_x_cmp, we_x_bi, we_x_bin, we_x_neg, we_x_int, we_x_bl, we_x_str, we_x_non, we_x_and, we_x_or, we_x_not, we_x_ite, we_x_tup, we_x_lst, we_x_call, we_x_callK, we_x_met, we_x_idx, we_s_cons, we_s_nil, we_t_cons, we_t_nil, we_i_seq, we_i_range1, we_i_range2, we_i_enum, we_loc, List.getElem?_cons_zero, List.getElem?_cons_succ, we_add, we_sub, we_mul, we_div, we_mod, we_pow, we_lt, we_le, we_gt, we_ge, we_eq, we_ne, we_bi_int, we_bi_intb, we_bi_max, we_bi_min, we_len_tup, we_len_frz, we_tr_bl, we_tr_int, we_newT, we_newL, we_walk_tup, we_walk_frz, we_range1, List.set, List.length_cons, List.length_nil, if_true, Bool.false_eq_true, if_false, wipeE, List.zip, List.zipWith, List.foldl]
    rw [we_idx (th := .tup (ys.map D.int)) rfl (at_i hy)]
    simp only [we_x_cmp, we_x_bi, we_x_bin, we_x_neg, we_x_int, we_x_bl, we_x_str, we_x_non, we_x_and, we_x_or, we_x_not, we_x_ite, we_x_tup, we_x_lst, we_x_call, we_x_callK, we_x_met, we_x_idx, we_s_cons, we_s_nil, we_t_cons, we_t_nil, we_i_seq, we_i_range1, we_i_range2, we_i_enum, we_loc, List.getElem?_cons_zero, List.getElem?_cons_succ, we_add, we_sub, we_mul, we_div, we_mod, we_pow, we_lt, we_le, we_gt, we_ge, we_eq, we_ne, we_bi_int, we_bi_intb, we_bi_max, we_bi_min, we_len_tup, we_len_frz, we_tr_bl, we_tr_int, we_newT, we_newL, we_walk_tup, we_walk_frz, we_range1, List.set, List.length_cons, List.length_nil, if_true, Bool.false_eq_true, if_false, true_and]
    unfold rCh
    rw [hx, hy]
    by_cases e : x = y
    · subst e
      simp [we_t_nil]
    · have e' : ¬ y = x := fun z => e z.symm
      simp [we_t_nil, e, e']
  · rw [we_tuple (d := .obj s.length) (lstAt_new _ _)]
    exact ⟨rfl, .app _ _⟩
theorem parted_at (h : T "_law_parted_at" = some f__law_parted_at) (hl : xs.length = ys.length) (hb : xs.length ≤ 24) : WE (Gm T F (k + 1) "_law_parted_at" [iT xs, iT ys]) s fun d s' => d = dCh xs ys ∧ Pre s s' := by
  refine we_gm h rfl ?_
  show WS (exSs _ _ f__law_parted_at.body [some (iT xs), some (iT ys), none]) s _
  unfold f__law_parted_at
  dsimp only
  rw [ws_cons]
  refine ws_ret ?_
  simp only [we_x_bi, we_s_cons, we_s_nil]
  refine we_comp_at (rCh xs ys) ?_
  have r : r62 (xs.length : Int) = true := by
    unfold r62
    simp
    omega
  simp only [we_x_cmp, we_x_bi, we_x_bin, we_x_neg, we_x_int, we_x_bl, we_x_str, we_x_non, we_x_and, we_x_or, we_x_not, we_x_ite, we_x_tup, we_x_lst, we_x_call, we_x_callK, we_x_met, we_x_idx, we_s_cons, we_s_nil, we_t_cons, we_t_nil, we_i_seq, we_i_range1, we_i_range2, we_i_enum, we_loc, List.getElem?_cons_zero, List.getElem?_cons_succ, we_add, we_sub, we_mul, we_div, we_mod, we_pow, we_lt, we_le, we_gt, we_ge, we_eq, we_ne, we_bi_int, we_bi_intb, we_bi_max, we_bi_min, we_len_tup, we_len_frz, we_tr_bl, we_tr_int, we_newT, we_newL, we_walk_tup, we_walk_frz, we_range1, List.set, List.length_cons, List.length_nil, if_true, Bool.false_eq_true, if_false, iT, true_and, rangeD_len, List.length_map, Int.toNat_natCast, r]
  refine ⟨rfl, by omega, fun i d hd => ?_, ?_⟩
  · obtain ⟨hi, rfl⟩ := rg_at hd
    obtain ⟨x, hx⟩ := at_lt (xs := xs) (i := i) hi
    obtain ⟨y, hy⟩ := at_lt (xs := ys) (i := i) (by omega)
    refine ⟨_, rfl, ?_⟩
    simp only [we_x_cmp, we_x_bi, we_x_bin, we_x_neg, we_x_int, we_x_bl, we_x_str, we_x_non, we_x_and, we_x_or, we_x_not, we_x_ite, we_x_tup, we_x_lst, we_x_call, we_x_callK, we_x_met, we_x_idx, we_s_cons, we_s_nil, we_t_cons, we_t_nil, we_i_seq, we_i_range1, we_i_range2, we_i_enum, we_loc, List.getElem?_cons_zero, List.getElem?_cons_succ, we_add, we_sub, we_mul, we_div, we_mod, we_pow, we_lt, we_le, we_gt, we_ge, we_eq, we_ne, we_bi_int, we_bi_intb, we_bi_max, we_bi_min, we_len_tup, we_len_frz, we_tr_bl, we_tr_int, we_newT, we_newL, we_walk_tup, we_walk_frz, we_range1, List.set, List.length_cons, List.length_nil, if_true, Bool.false_eq_true, if_false, wipeE]
    rw [we_idx (th := .tup (xs.map D.int)) rfl (at_i hx), we_idx (th := .tup (ys.map D.int)) rfl (at_i hy)]
    simp only [we_x_cmp, we_x_bi, we_x_bin, we_x_neg, we_x_int, we_x_bl, we_x_str, we_x_non, we_x_and, we_x_or, we_x_not, we_x_ite, we_x_tup, we_x_lst, we_x_call, we_x_callK, we_x_met, we_x_idx, we_s_cons, we_s_nil, we_t_cons, we_t_nil, we_i_seq, we_i_range1, we_i_range2, we_i_enum, we_loc, List.getElem?_cons_zero, List.getElem?_cons_succ, we_add, we_sub, we_mul, we_div, we_mod, we_pow, we_lt, we_le, we_gt, we_ge, we_eq, we_ne, we_bi_int, we_bi_intb, we_bi_max, we_bi_min, we_len_tup, we_len_frz, we_tr_bl, we_tr_int, we_newT, we_newL, we_walk_tup, we_walk_frz, we_range1, List.set, List.length_cons, List.length_nil, if_true, Bool.false_eq_true, if_false, true_and]
    unfold rCh
    rw [hx, hy]
    by_cases e : x = y
    · subst e
      simp [we_t_nil]
    · simp [we_t_nil, e]
  · rw [we_tuple (d := .obj s.length) (lstAt_new _ _)]
    exact ⟨rfl, .app _ _⟩
theorem agreed_at (h : T "agreed" = some f_agreed) (hl : xs.length = ys.length) (hb : xs.length ≤ 24) : WE (Gm T F (k + 1) "agreed" [iT xs, iT ys]) s fun d s' => d = dAg xs ys ∧ Pre s s' := by
  refine we_gm h rfl ?_
  show WS (exSs _ _ f_agreed.body [some (iT xs), some (iT ys), none, none]) s _
  unfold f_agreed
  dsimp only
  rw [ws_cons]
  refine ws_ret ?_
  simp only [we_x_bi, we_s_cons, we_s_nil]
  refine we_comp_at (rAg xs ys) ?_
  simp only [we_x_cmp, we_x_bi, we_x_bin, we_x_neg, we_x_int, we_x_bl, we_x_str, we_x_non, we_x_and, we_x_or, we_x_not, we_x_ite, we_x_tup, we_x_lst, we_x_call, we_x_callK, we_x_met, we_x_idx, we_s_cons, we_s_nil, we_t_cons, we_t_nil, we_i_seq, we_i_range1, we_i_range2, we_i_enum, we_loc, List.getElem?_cons_zero, List.getElem?_cons_succ, we_add, we_sub, we_mul, we_div, we_mod, we_pow, we_lt, we_le, we_gt, we_ge, we_eq, we_ne, we_bi_int, we_bi_intb, we_bi_max, we_bi_min, we_len_tup, we_len_frz, we_tr_bl, we_tr_int, we_newT, we_newL, we_walk_tup, we_walk_frz, we_range1, List.set, List.length_cons, List.length_nil, if_true, Bool.false_eq_true, if_false, iT, wkEnum, true_and, enumD_len, List.length_map]
  refine ⟨rfl, by omega, fun i d hd => ?_, ?_⟩
  · obtain ⟨x, hx, rfl⟩ := en_at hd
    have hi := (List.getElem?_eq_some_iff.mp hx).1
    obtain ⟨y, hy⟩ := at_lt (xs := ys) (i := i) (by omega)
    refine ⟨_, rfl, ?_⟩
    simp only [we_x_cmp, we_x_bi, we_x_bin, we_x_neg, we_x_int, we_x_bl, we_x_str, we_x_non, we_x_and, we_x_or, we_x_not, we_x_ite, we_x_tup, we_x_lst, we_x_call, we_x_callK, we_x_met, we_x_idx, we_s_cons, we_s_nil, we_t_cons, we_t_nil, we_i_seq, we_i_range1, we_i_range2, we_i_enum, we_loc, List.getElem?_cons_zero, List.getElem?_cons_succ, we_add, we_sub, we_mul, we_div, we_mod, we_pow, we_lt, we_le, we_gt, we_ge, we_eq, we_ne, we_bi_int, we_bi_intb, we_bi_max, we_bi_min, we_len_tup, we_len_frz, we_tr_bl, we_tr_int, we_newT, we_newL, we_walk_tup, we_walk_frz, we_range1, List.set, List.length_cons, List.length_nil, if_true, Bool.false_eq_true, if_false, wipeE, List.zip, List.zipWith, List.foldl]
    rw [we_idx (th := .tup (ys.map D.int)) rfl (at_i hy)]
    simp only [we_x_cmp, we_x_bi, we_x_bin, we_x_neg, we_x_int, we_x_bl, we_x_str, we_x_non, we_x_and, we_x_or, we_x_not, we_x_ite, we_x_tup, we_x_lst, we_x_call, we_x_callK, we_x_met, we_x_idx, we_s_cons, we_s_nil, we_t_cons, we_t_nil, we_i_seq, we_i_range1, we_i_range2, we_i_enum, we_loc, List.getElem?_cons_zero, List.getElem?_cons_succ, we_add, we_sub, we_mul, we_div, we_mod, we_pow, we_lt, we_le, we_gt, we_ge, we_eq, we_ne, we_bi_int, we_bi_intb, we_bi_max, we_bi_min, we_len_tup, we_len_frz, we_tr_bl, we_tr_int, we_newT, we_newL, we_walk_tup, we_walk_frz, we_range1, List.set, List.length_cons, List.length_nil, if_true, Bool.false_eq_true, if_false, true_and]
    unfold rAg
    rw [hx, hy]
    by_cases e : x = y
    · subst e
      simp [we_t_nil]
    · have e' : ¬ y = x := fun z => e z.symm
      simp [we_t_nil, e, e']
  · rw [we_tuple (d := .obj s.length) (lstAt_new _ _)]
    exact ⟨rfl, .app _ _⟩
theorem agreedE_at (h : T "_law_agreed_edit" = some f__law_agreed_edit) (hl : xs.length = ys.length) (hb : xs.length ≤ 24) : WE (Gm T F (k + 1) "_law_agreed_edit" [iT xs, iT ys]) s fun d s' => d = dAg xs ys ∧ Pre s s' := by
  refine we_gm h rfl ?_
  show WS (exSs _ _ f__law_agreed_edit.body [some (iT xs), some (iT ys), none]) s _
  unfold f__law_agreed_edit
  dsimp only
  rw [ws_cons]
  refine ws_ret ?_
  simp only [we_x_bi, we_s_cons, we_s_nil]
  refine we_comp_at (rAg xs ys) ?_
  have r : r62 (xs.length : Int) = true := by
    unfold r62
    simp
    omega
  simp only [we_x_cmp, we_x_bi, we_x_bin, we_x_neg, we_x_int, we_x_bl, we_x_str, we_x_non, we_x_and, we_x_or, we_x_not, we_x_ite, we_x_tup, we_x_lst, we_x_call, we_x_callK, we_x_met, we_x_idx, we_s_cons, we_s_nil, we_t_cons, we_t_nil, we_i_seq, we_i_range1, we_i_range2, we_i_enum, we_loc, List.getElem?_cons_zero, List.getElem?_cons_succ, we_add, we_sub, we_mul, we_div, we_mod, we_pow, we_lt, we_le, we_gt, we_ge, we_eq, we_ne, we_bi_int, we_bi_intb, we_bi_max, we_bi_min, we_len_tup, we_len_frz, we_tr_bl, we_tr_int, we_newT, we_newL, we_walk_tup, we_walk_frz, we_range1, List.set, List.length_cons, List.length_nil, if_true, Bool.false_eq_true, if_false, iT, true_and, rangeD_len, List.length_map, Int.toNat_natCast, r]
  refine ⟨rfl, by omega, fun i d hd => ?_, ?_⟩
  · obtain ⟨hi, rfl⟩ := rg_at hd
    obtain ⟨x, hx⟩ := at_lt (xs := xs) (i := i) hi
    obtain ⟨y, hy⟩ := at_lt (xs := ys) (i := i) (by omega)
    refine ⟨_, rfl, ?_⟩
    simp only [we_x_cmp, we_x_bi, we_x_bin, we_x_neg, we_x_int, we_x_bl, we_x_str, we_x_non, we_x_and, we_x_or, we_x_not, we_x_ite, we_x_tup, we_x_lst, we_x_call, we_x_callK, we_x_met, we_x_idx, we_s_cons, we_s_nil, we_t_cons, we_t_nil, we_i_seq, we_i_range1, we_i_range2, we_i_enum, we_loc, List.getElem?_cons_zero, List.getElem?_cons_succ, we_add, we_sub, we_mul, we_div, we_mod, we_pow, we_lt, we_le, we_gt, we_ge, we_eq, we_ne, we_bi_int, we_bi_intb, we_bi_max, we_bi_min, we_len_tup, we_len_frz, we_tr_bl, we_tr_int, we_newT, we_newL, we_walk_tup, we_walk_frz, we_range1, List.set, List.length_cons, List.length_nil, if_true, Bool.false_eq_true, if_false, wipeE]
    rw [we_idx (th := .tup (xs.map D.int)) rfl (at_i hx), we_idx (th := .tup (ys.map D.int)) rfl (at_i hy)]
    simp only [we_x_cmp, we_x_bi, we_x_bin, we_x_neg, we_x_int, we_x_bl, we_x_str, we_x_non, we_x_and, we_x_or, we_x_not, we_x_ite, we_x_tup, we_x_lst, we_x_call, we_x_callK, we_x_met, we_x_idx, we_s_cons, we_s_nil, we_t_cons, we_t_nil, we_i_seq, we_i_range1, we_i_range2, we_i_enum, we_loc, List.getElem?_cons_zero, List.getElem?_cons_succ, we_add, we_sub, we_mul, we_div, we_mod, we_pow, we_lt, we_le, we_gt, we_ge, we_eq, we_ne, we_bi_int, we_bi_intb, we_bi_max, we_bi_min, we_len_tup, we_len_frz, we_tr_bl, we_tr_int, we_newT, we_newL, we_walk_tup, we_walk_frz, we_range1, List.set, List.length_cons, List.length_nil, if_true, Bool.false_eq_true, if_false, true_and]
    unfold rAg
    rw [hx, hy]
    by_cases e : x = y
    · subst e
      simp only [decide_true, we_t_nil, true_and, if_true]
      rw [we_idx (th := .tup (xs.map D.int)) rfl (at_i hx)]
      simp
    · simp [we_t_nil, e]
  · rw [we_tuple (d := .obj s.length) (lstAt_new _ _)]
    exact ⟨rfl, .app _ _⟩
theorem move_at (h : T "move" = some f_move) (hl : xs.length = ys.length) (hl2 : xs.length = zs.length) (hb : xs.length ≤ 24) : WE (Gm T F (k + 1) "move" [iT xs, iT ys, iT zs]) s fun d s' => d = dMv xs ys zs ∧ Pre s s' := by
  refine we_gm h rfl ?_
  show WS (exSs _ _ f_move.body [some (iT xs), some (iT ys), some (iT zs), none, none]) s _
  unfold f_move
  dsimp only
  rw [ws_cons]
  refine ws_ret ?_
  simp only [we_x_bi, we_s_cons, we_s_nil]
  refine we_comp_at (rMv xs ys zs) ?_
  simp only [we_x_cmp, we_x_bi, we_x_bin, we_x_neg, we_x_int, we_x_bl, we_x_str, we_x_non, we_x_and, we_x_or, we_x_not, we_x_ite, we_x_tup, we_x_lst, we_x_call, we_x_callK, we_x_met, we_x_idx, we_s_cons, we_s_nil, we_t_cons, we_t_nil, we_i_seq, we_i_range1, we_i_range2, we_i_enum, we_loc, List.getElem?_cons_zero, List.getElem?_cons_succ, we_add, we_sub, we_mul, we_div, we_mod, we_pow, we_lt, we_le, we_gt, we_ge, we_eq, we_ne, we_bi_int, we_bi_intb, we_bi_max, we_bi_min, we_len_tup, we_len_frz, we_tr_bl, we_tr_int, we_newT, we_newL, we_walk_tup, we_walk_frz, we_range1, List.set, List.length_cons, List.length_nil, if_true, Bool.false_eq_true, if_false, iT, wkEnum, true_and, enumD_len, List.length_map]
  refine ⟨rfl, by omega, fun i d hd => ?_, ?_⟩
  · obtain ⟨x, hx, rfl⟩ := en_at hd
    have hi := (List.getElem?_eq_some_iff.mp hx).1
    obtain ⟨y, hy⟩ := at_lt (xs := ys) (i := i) (by omega)
    obtain ⟨z, hz⟩ := at_lt (xs := zs) (i := i) (by omega)
    refine ⟨_, rfl, ?_⟩
    simp only [we_x_cmp, we_x_bi, we_x_bin, we_x_neg, we_x_int, we_x_bl, we_x_str, we_x_non, we_x_and, we_x_or, we_x_not, we_x_ite, we_x_tup, we_x_lst, we_x_call, we_x_callK, we_x_met, we_x_idx, we_s_cons, we_s_nil, we_t_cons, we_t_nil, we_i_seq, we_i_range1, we_i_range2, we_i_enum, we_loc, List.getElem?_cons_zero, List.getElem?_cons_succ, we_add, we_sub, we_mul, we_div, we_mod, we_pow, we_lt, we_le, we_gt, we_ge, we_eq, we_ne, we_bi_int, we_bi_intb, we_bi_max, we_bi_min, we_len_tup, we_len_frz, we_tr_bl, we_tr_int, we_newT, we_newL, we_walk_tup, we_walk_frz, we_range1, List.set, List.length_cons, List.length_nil, if_true, Bool.false_eq_true, if_false, wipeE, List.zip, List.zipWith, List.foldl, true_and]
    rw [we_idx (th := .tup (ys.map D.int)) rfl (at_i hy)]
    simp only [we_x_cmp, we_x_bi, we_x_bin, we_x_neg, we_x_int, we_x_bl, we_x_str, we_x_non, we_x_and, we_x_or, we_x_not, we_x_ite, we_x_tup, we_x_lst, we_x_call, we_x_callK, we_x_met, we_x_idx, we_s_cons, we_s_nil, we_t_cons, we_t_nil, we_i_seq, we_i_range1, we_i_range2, we_i_enum, we_loc, List.getElem?_cons_zero, List.getElem?_cons_succ, we_add, we_sub, we_mul, we_div, we_mod, we_pow, we_lt, we_le, we_gt, we_ge, we_eq, we_ne, we_bi_int, we_bi_intb, we_bi_max, we_bi_min, we_len_tup, we_len_frz, we_tr_bl, we_tr_int, we_newT, we_newL, we_walk_tup, we_walk_frz, we_range1, List.set, List.length_cons, List.length_nil, if_true, Bool.false_eq_true, if_false, true_and]
    rw [we_idx (th := .tup (zs.map D.int)) rfl (at_i hz)]
    unfold rMv
    rw [hx, hy, hz]
    by_cases e : x = y
    · subst e
      simp
    · have e' : ¬ y = x := fun z => e z.symm
      simp [e, e']
  · rw [we_tuple (d := .obj s.length) (lstAt_new _ _)]
    exact ⟨rfl, .app _ _⟩
theorem moved_at (h : T "_law_moved" = some f__law_moved) (hl : xs.length = ys.length) (hl2 : xs.length = zs.length) (hb : xs.length ≤ 24) : WE (Gm T F (k + 1) "_law_moved" [iT xs, iT ys, iT zs]) s fun d s' => d = dMv xs ys zs ∧ Pre s s' := by
  refine we_gm h rfl ?_
  show WS (exSs _ _ f__law_moved.body [some (iT xs), some (iT ys), some (iT zs), none]) s _
  unfold f__law_moved
  dsimp only
  rw [ws_cons]
  refine ws_ret ?_
  simp only [we_x_bi, we_s_cons, we_s_nil]
  refine we_comp_at (rMv xs ys zs) ?_
  have r : r62 (zs.length : Int) = true := by
    unfold r62
    simp
    omega
  simp only [we_x_cmp, we_x_bi, we_x_bin, we_x_neg, we_x_int, we_x_bl, we_x_str, we_x_non, we_x_and, we_x_or, we_x_not, we_x_ite, we_x_tup, we_x_lst, we_x_call, we_x_callK, we_x_met, we_x_idx, we_s_cons, we_s_nil, we_t_cons, we_t_nil, we_i_seq, we_i_range1, we_i_range2, we_i_enum, we_loc, List.getElem?_cons_zero, List.getElem?_cons_succ, we_add, we_sub, we_mul, we_div, we_mod, we_pow, we_lt, we_le, we_gt, we_ge, we_eq, we_ne, we_bi_int, we_bi_intb, we_bi_max, we_bi_min, we_len_tup, we_len_frz, we_tr_bl, we_tr_int, we_newT, we_newL, we_walk_tup, we_walk_frz, we_range1, List.set, List.length_cons, List.length_nil, if_true, Bool.false_eq_true, if_false, iT, true_and, rangeD_len, List.length_map, Int.toNat_natCast, r]
  refine ⟨rfl, by omega, fun i d hd => ?_, ?_⟩
  · obtain ⟨hi, rfl⟩ := rg_at hd
    obtain ⟨x, hx⟩ := at_lt (xs := xs) (i := i) (by omega)
    obtain ⟨y, hy⟩ := at_lt (xs := ys) (i := i) (by omega)
    obtain ⟨z, hz⟩ := at_lt (xs := zs) (i := i) (by omega)
    refine ⟨_, rfl, ?_⟩
    simp only [we_x_cmp, we_x_bi, we_x_bin, we_x_neg, we_x_int, we_x_bl, we_x_str, we_x_non, we_x_and, we_x_or, we_x_not, we_x_ite, we_x_tup, we_x_lst, we_x_call, we_x_callK, we_x_met, we_x_idx, we_s_cons, we_s_nil, we_t_cons, we_t_nil, we_i_seq, we_i_range1, we_i_range2, we_i_enum, we_loc, List.getElem?_cons_zero, List.getElem?_cons_succ, we_add, we_sub, we_mul, we_div, we_mod, we_pow, we_lt, we_le, we_gt, we_ge, we_eq, we_ne, we_bi_int, we_bi_intb, we_bi_max, we_bi_min, we_len_tup, we_len_frz, we_tr_bl, we_tr_int, we_newT, we_newL, we_walk_tup, we_walk_frz, we_range1, List.set, List.length_cons, List.length_nil, if_true, Bool.false_eq_true, if_false, wipeE, true_and]
    rw [we_idx (th := .tup (xs.map D.int)) rfl (at_i hx), we_idx (th := .tup (ys.map D.int)) rfl (at_i hy)]
    simp only [we_x_cmp, we_x_bi, we_x_bin, we_x_neg, we_x_int, we_x_bl, we_x_str, we_x_non, we_x_and, we_x_or, we_x_not, we_x_ite, we_x_tup, we_x_lst, we_x_call, we_x_callK, we_x_met, we_x_idx, we_s_cons, we_s_nil, we_t_cons, we_t_nil, we_i_seq, we_i_range1, we_i_range2, we_i_enum, we_loc, List.getElem?_cons_zero, List.getElem?_cons_succ, we_add, we_sub, we_mul, we_div, we_mod, we_pow, we_lt, we_le, we_gt, we_ge, we_eq, we_ne, we_bi_int, we_bi_intb, we_bi_max, we_bi_min, we_len_tup, we_len_frz, we_tr_bl, we_tr_int, we_newT, we_newL, we_walk_tup, we_walk_frz, we_range1, List.set, List.length_cons, List.length_nil, if_true, Bool.false_eq_true, if_false, true_and]
    rw [we_idx (th := .tup (xs.map D.int)) rfl (at_i hx), we_idx (th := .tup (zs.map D.int)) rfl (at_i hz)]
    unfold rMv
    rw [hx, hy, hz]
    by_cases e : x = y
    · subst e
      simp
    · simp [e]
  · rw [we_tuple (d := .obj s.length) (lstAt_new _ _), ← hl2]
    exact ⟨rfl, .app _ _⟩
end
end Mi

set_option maxRecDepth 100000
/-! k02: the judging. -/
namespace Mi
open PySem

theorem we_repr {d : D} {s : Sto} {x : Str} (h : reprE d s = some x) (P : D → Sto → Prop) : WE (biE "repr" [d]) s P ↔ P (.str x) s :=
  WE.of (by show (reprE d s).map _ = _; rw [h]; rfl)
@[simp] theorem we_eq_str (x y : Str) (s : Sto) (P : D → Sto → Prop) : WE (cmpE .Eq (.str x) (.str y)) s P ↔ P (.bl (decide (x = y))) s := WE.of rfl
@[simp] theorem we_ne_str (x y : Str) (s : Sto) (P : D → Sto → Prop) : WE (cmpE .NotEq (.str x) (.str y)) s P ↔ P (.bl (!decide (x = y))) s := WE.of rfl
/-- a thing of bounded size has a text, the same in every store -/
theorem repr_all {d : D} {wt : Nat} (h : TameD 60 wt d) (hw : wt ≤ 1000000) : ∃ x, ∀ s, reprE d s = some x := by
  obtain ⟨x, e⟩ := repr_tame (s := []) h hw
  refine ⟨x, fun s => ?_⟩
  rw [← e]
  obtain ⟨p, e2, _⟩ := h
  cases d with
  | obj n => cases e2
  | _ => rfl
theorem fm_mem {n : Nat} {r : Nat → Option D} {d : D} (h : d ∈ (List.range n).filterMap r) : ∃ i, i < n ∧ r i = some d := by
  obtain ⟨i, hi, e⟩ := List.mem_filterMap.mp h
  exact ⟨i, List.mem_range.mp hi, e⟩
theorem tame_list {n wt : Nat} {r : Nat → Option D} {dp : Nat} (hn : n ≤ 24) (hd : dp + 1 ≤ 60) (hw : wt ≤ 10000) (h : ∀ i d, i < n → r i = some d → TameD dp wt d) : TameD 60 1000000 (.tup ((List.range n).filterMap r)) := by
  refine (TameD.tup (dp := dp) (wt := wt) fun d hm => ?_).mono hd ?_
  · obtain ⟨i, hi, e⟩ := fm_mem hm
    exact h i d hi e
  · have l : ((List.range n).filterMap r).length ≤ 24 := Nat.le_trans (List.length_filterMap_le _ _) (by simpa using hn)
    exact Nat.le_trans (Nat.mul_le_mul l (Nat.add_le_add_right hw 1)) (by decide)
def Low (ps : List Int) : Prop := ∀ p ∈ ps, p.natAbs < 10 ^ 12
theorem nat_low {i : Nat} (h : i < 24) : (i : Int).natAbs < 10 ^ 12 := by
  have e : (10 : Nat) ^ 12 = 1000000000000 := by decide
  rw [e]
  omega
section
variable {xs ys zs : List Int}
theorem tame_ch (hb : xs.length ≤ 24) : TameD 60 1000000 (dCh xs ys) := tame_list (dp := 0) (wt := 41) hb (by decide) (by decide) fun i d hi e => by
  unfold rCh at e
  split at e
  · split at e
    · cases e
    · cases e
      exact .int (nat_low (by omega))
  · cases e
theorem tame_ag (hb : xs.length ≤ 24) (hx : Low xs) : TameD 60 1000000 (dAg xs ys) := tame_list (dp := 1) (wt := 84) hb (by decide) (by decide) fun i d hi e => by
  unfold rAg at e
  split at e
  · rename_i x y h1 h2
    split at e
    · cases e
      refine (TameD.tup (dp := 0) (wt := 41) fun d hd => ?_).mono (Nat.le_refl _) (Nat.le_refl _)
      simp only [List.mem_cons, List.not_mem_nil, or_false] at hd
      rcases hd with rfl | rfl
      · exact .int (nat_low (by omega))
      · exact .int (hx _ (List.mem_of_getElem? h1))
    · cases e
  · cases e
theorem tame_mv (hb : xs.length ≤ 24) (hx : Low xs) (hz : Low zs) : TameD 60 1000000 (dMv xs ys zs) := tame_list (dp := 0) (wt := 41) hb (by decide) (by decide) fun i d hi e => by
  unfold rMv at e
  split at e
  · rename_i x y z h1 h2 h3
    cases e
    split
    · exact .int (hx _ (List.mem_of_getElem? h1))
    · exact .int (hz _ (List.mem_of_getElem? h3))
  · cases e
end
/-- a page of the law's -/
structure Pg (n : Nat) (p : List Int) : Prop where
  len : p.length = n
  n24 : n ≤ 24
  low : Low p
theorem pgOf {zs p : List Int} (hz : Sizes zs) (h : PageOf zs p) : Pg zs.length p := ⟨h.1, hz.2.2, fun q hq => by
  obtain ⟨i, hi, e⟩ := List.mem_iff_getElem.mp hq
  have h1 : p[i]? = some q := by rw [List.getElem?_eq_getElem hi, e]
  have hi' : i < zs.length := by rw [← h.1]; exact hi
  obtain ⟨z, hzz⟩ := at_lt hi'
  obtain ⟨a, b⟩ := h.2 i z q hzz h1
  have := (hz.1 z (List.mem_of_getElem? hzz)).2
  have e : (10 : Nat) ^ 12 = 1000000000000 := by decide
  rw [e]
  omega⟩
structure Has (T : Tab) : Prop where
  take : T "_law_take" = some f__law_take
  one : T "_law_one" = some f__law_one
  pool : T "_law_pool" = some f__law_pool
  sizes : T "_law_drawn_sizes" = some f__law_drawn_sizes
  page : T "_law_any_page" = some f__law_any_page
  edit : T "_law_any_edit" = some f__law_any_edit
  over : T "_law_over" = some f__law_over
  four : T "_law_four_pages" = some f__law_four_pages
  changed : T "changed" = some f_changed
  parted : T "_law_parted_at" = some f__law_parted_at
  move : T "move" = some f_move
  moved : T "_law_moved" = some f__law_moved
  agreed : T "agreed" = some f_agreed
  agreedE : T "_law_agreed_edit" = some f__law_agreed_edit
  two : T "_law_two_right" = some f__law_two_right
  fourR : T "_law_four_right" = some f__law_four_right
  law : T "law" = some f_law
section
variable {T : Tab} {F k : Nat} {s : Sto} {n : Nat} {x y z : List Int}
theorem two_at (H : Has T) (hx : Pg n x) (hy : Pg n y) : WE (Gm T F (k + 2) "_law_two_right" [iT x, iT y]) s fun d s' => d = .bl true ∧ Pre s s' := by
  have hl : x.length = y.length := hx.len.trans hy.len.symm
  have hb : x.length ≤ 24 := by rw [hx.len]; exact hx.n24
  obtain ⟨t1, r1⟩ := repr_all (tame_ch (ys := y) hb) (Nat.le_refl _)
  obtain ⟨t2, r2⟩ := repr_all (tame_ag (ys := y) hb hx.low) (Nat.le_refl _)
  refine we_gm H.two rfl ?_
  show WS (exSs _ _ f__law_two_right.body [some (iT x), some (iT y)]) s _
  unfold f__law_two_right
  dsimp only
  rw [ws_cons]
  refine ws_ite ?_
  simp only [we_x_cmp, we_x_bi, we_x_bin, we_x_neg, we_x_int, we_x_bl, we_x_str, we_x_non, we_x_and, we_x_or, we_x_not, we_x_ite, we_x_tup, we_x_lst, we_x_call, we_x_callK, we_x_met, we_x_idx, we_s_cons, we_s_nil, we_t_cons, we_t_nil, we_i_seq, we_i_range1, we_i_range2, we_i_enum, we_loc, List.getElem?_cons_zero, List.getElem?_cons_succ, we_add, we_sub, we_mul, we_div, we_mod, we_pow, we_lt, we_le, we_gt, we_ge, we_eq, we_ne, we_bi_int, we_bi_intb, we_bi_max, we_bi_min, we_len_tup, we_len_frz, we_tr_bl, we_tr_int, we_newT, we_newL, we_walk_tup, we_walk_frz, we_range1, List.set, List.length_cons, List.length_nil, if_true, Bool.false_eq_true, if_false]
  obtain ⟨d1, s1, e1, rfl, p1⟩ := changed_at (F := F) (k := k) (s := s) H.changed hl hb
  rw [WE.of e1, we_repr (r1 s1)]
  obtain ⟨d2, s2, e2, rfl, p2⟩ := parted_at (F := F) (k := k) (s := s1) H.parted hl hb
  rw [WE.of e2, we_repr (r1 s2), we_ne_str]
  simp only [we_x_cmp, we_x_bi, we_x_bin, we_x_neg, we_x_int, we_x_bl, we_x_str, we_x_non, we_x_and, we_x_or, we_x_not, we_x_ite, we_x_tup, we_x_lst, we_x_call, we_x_callK, we_x_met, we_x_idx, we_s_cons, we_s_nil, we_t_cons, we_t_nil, we_i_seq, we_i_range1, we_i_range2, we_i_enum, we_loc, List.getElem?_cons_zero, List.getElem?_cons_succ, we_add, we_sub, we_mul, we_div, we_mod, we_pow, we_lt, we_le, we_gt, we_ge, we_eq, we_ne, we_bi_int, we_bi_intb, we_bi_max, we_bi_min, we_len_tup, we_len_frz, we_tr_bl, we_tr_int, we_newT, we_newL, we_walk_tup, we_walk_frz, we_range1, List.set, List.length_cons, List.length_nil, if_true, Bool.false_eq_true, if_false, decide_true, Bool.not_true]
  rw [ws_nil]
  dsimp only
  rw [ws_cons]
  refine ws_ret ?_
  simp only [we_x_cmp, we_x_bi, we_x_bin, we_x_neg, we_x_int, we_x_bl, we_x_str, we_x_non, we_x_and, we_x_or, we_x_not, we_x_ite, we_x_tup, we_x_lst, we_x_call, we_x_callK, we_x_met, we_x_idx, we_s_cons, we_s_nil, we_t_cons, we_t_nil, we_i_seq, we_i_range1, we_i_range2, we_i_enum, we_loc, List.getElem?_cons_zero, List.getElem?_cons_succ, we_add, we_sub, we_mul, we_div, we_mod, we_pow, we_lt, we_le, we_gt, we_ge, we_eq, we_ne, we_bi_int, we_bi_intb, we_bi_max, we_bi_min, we_len_tup, we_len_frz, we_tr_bl, we_tr_int, we_newT, we_newL, we_walk_tup, we_walk_frz, we_range1, List.set, List.length_cons, List.length_nil, if_true, Bool.false_eq_true, if_false]
  obtain ⟨d3, s3, e3, rfl, p3⟩ := agreed_at (F := F) (k := k) (s := s2) H.agreed hl hb
  rw [WE.of e3, we_repr (r2 s3)]
  obtain ⟨d4, s4, e4, rfl, p4⟩ := agreedE_at (F := F) (k := k) (s := s3) H.agreedE hl hb
  rw [WE.of e4, we_repr (r2 s4), we_eq_str]
  simp only [decide_true]
  exact ⟨trivial, p1.trans (p2.trans (p3.trans p4))⟩
theorem we_walk_obj {m : Nat} {xs : List D} (h : lstAt s m = some xs) (P : Wk → Sto → Prop) : WE (walkOf (.obj m)) s P ↔ P ⟨xs, some (m, xs)⟩ s :=
  WE.of (by show (lstAt s m).map _ = _; rw [h]; rfl)
theorem wk_ok {m : Nat} {xs : List D} (h : lstAt s m = some xs) : (⟨xs, some (m, xs)⟩ : Wk).ok s = true := by
  show (lstAt s m == some xs) = true
  rw [h]
  exact beq_self_eq_true _
theorem four_at (H : Has T) {m : Nat} {pp : List (List Int)} (hm : lstAt s m = some (pp.map iT)) (hp : ∀ p ∈ pp, Pg n p) : WE (Gm T F (k + 3) "_law_four_right" [.obj m]) s fun d s' => d = .bl true ∧ Pre s s' := by
  have sub : ∀ {ds : List D} {d : D}, (∀ e ∈ d :: ds, ∃ p ∈ pp, e = iT p) → (∃ p ∈ pp, d = iT p) ∧ ∀ e ∈ ds, ∃ p ∈ pp, e = iT p := fun h => ⟨h _ List.mem_cons_self, fun e he => h e (List.mem_cons_of_mem _ he)⟩
  have all : ∀ e ∈ pp.map iT, ∃ p ∈ pp, e = iT p := fun e he => by
    obtain ⟨p, h1, h2⟩ := List.mem_map.mp he
    exact ⟨p, h1, h2.symm⟩
  refine we_gm H.fourR rfl ?_
  show WS (exSs _ _ f__law_four_right.body [some (.obj m), none, none, none]) s _
  unfold f__law_four_right
  dsimp only
  rw [ws_cons]
  refine ws_for (fun ds ρ s' => (∀ e ∈ ds, ∃ p ∈ pp, e = iT p) ∧ Pre s s' ∧ ∃ a b c : Option D, ρ = [some (.obj m), a, b, c]) ?_ ?_ ?_
  · simp only [we_x_cmp, we_x_bi, we_x_bin, we_x_neg, we_x_int, we_x_bl, we_x_str, we_x_non, we_x_and, we_x_or, we_x_not, we_x_ite, we_x_tup, we_x_lst, we_x_call, we_x_callK, we_x_met, we_x_idx, we_s_cons, we_s_nil, we_t_cons, we_t_nil, we_i_seq, we_i_range1, we_i_range2, we_i_enum, we_loc, List.getElem?_cons_zero, List.getElem?_cons_succ, we_add, we_sub, we_mul, we_div, we_mod, we_pow, we_lt, we_le, we_gt, we_ge, we_eq, we_ne, we_bi_int, we_bi_intb, we_bi_max, we_bi_min, we_len_tup, we_len_frz, we_tr_bl, we_tr_int, we_newT, we_newL, we_walk_tup, we_walk_frz, we_range1, List.set, List.length_cons, List.length_nil, if_true, Bool.false_eq_true, if_false]
    rw [we_walk_obj hm]
    exact ⟨fun ds ρ s' h => wk_ok (h.2.1.lst hm), all, .same _, _, _, _, rfl⟩
  · rintro d ds ρ s' ⟨hd, pr, a, b, c, rfl⟩
    obtain ⟨⟨x, hx, rfl⟩, hd'⟩ := sub hd
    refine ⟨_, rfl, ?_⟩
    rw [ws_cons]
    refine ws_for (fun es ρ s' => (∀ e ∈ es, ∃ p ∈ pp, e = iT p) ∧ Pre s s' ∧ ∃ b c : Option D, ρ = [some (.obj m), some (iT x), b, c]) ?_ ?_ ?_
    · simp only [we_x_cmp, we_x_bi, we_x_bin, we_x_neg, we_x_int, we_x_bl, we_x_str, we_x_non, we_x_and, we_x_or, we_x_not, we_x_ite, we_x_tup, we_x_lst, we_x_call, we_x_callK, we_x_met, we_x_idx, we_s_cons, we_s_nil, we_t_cons, we_t_nil, we_i_seq, we_i_range1, we_i_range2, we_i_enum, we_loc, List.getElem?_cons_zero, List.getElem?_cons_succ, we_add, we_sub, we_mul, we_div, we_mod, we_pow, we_lt, we_le, we_gt, we_ge, we_eq, we_ne, we_bi_int, we_bi_intb, we_bi_max, we_bi_min, we_len_tup, we_len_frz, we_tr_bl, we_tr_int, we_newT, we_newL, we_walk_tup, we_walk_frz, we_range1, List.set, List.length_cons, List.length_nil, if_true, Bool.false_eq_true, if_false]
      rw [we_walk_obj (pr.lst hm)]
      exact ⟨fun ds ρ s' h => wk_ok (h.2.1.lst hm), all, pr, _, _, rfl⟩
    · rintro d es ρ s1 ⟨he, pr1, b, c, rfl⟩
      obtain ⟨⟨y, hy, rfl⟩, he'⟩ := sub he
      refine ⟨_, rfl, ?_⟩
      rw [ws_cons]
      refine ws_ite ?_
      simp only [we_x_cmp, we_x_bi, we_x_bin, we_x_neg, we_x_int, we_x_bl, we_x_str, we_x_non, we_x_and, we_x_or, we_x_not, we_x_ite, we_x_tup, we_x_lst, we_x_call, we_x_callK, we_x_met, we_x_idx, we_s_cons, we_s_nil, we_t_cons, we_t_nil, we_i_seq, we_i_range1, we_i_range2, we_i_enum, we_loc, List.getElem?_cons_zero, List.getElem?_cons_succ, we_add, we_sub, we_mul, we_div, we_mod, we_pow, we_lt, we_le, we_gt, we_ge, we_eq, we_ne, we_bi_int, we_bi_intb, we_bi_max, we_bi_min, we_len_tup, we_len_frz, we_tr_bl, we_tr_int, we_newT, we_newL, we_walk_tup, we_walk_frz, we_range1, List.set, List.length_cons, List.length_nil, if_true, Bool.false_eq_true, if_false]
      obtain ⟨d2, s2, e2, rfl, p2⟩ := two_at (F := F) (k := k) (s := s1) H (hp x hx) (hp y hy)
      rw [WE.of e2]
      simp only [we_x_cmp, we_x_bi, we_x_bin, we_x_neg, we_x_int, we_x_bl, we_x_str, we_x_non, we_x_and, we_x_or, we_x_not, we_x_ite, we_x_tup, we_x_lst, we_x_call, we_x_callK, we_x_met, we_x_idx, we_s_cons, we_s_nil, we_t_cons, we_t_nil, we_i_seq, we_i_range1, we_i_range2, we_i_enum, we_loc, List.getElem?_cons_zero, List.getElem?_cons_succ, we_add, we_sub, we_mul, we_div, we_mod, we_pow, we_lt, we_le, we_gt, we_ge, we_eq, we_ne, we_bi_int, we_bi_intb, we_bi_max, we_bi_min, we_len_tup, we_len_frz, we_tr_bl, we_tr_int, we_newT, we_newL, we_walk_tup, we_walk_frz, we_range1, List.set, List.length_cons, List.length_nil, if_true, Bool.false_eq_true, if_false, Bool.not_true]
      rw [ws_nil]
      dsimp only
      have pr2 := pr1.trans p2
      rw [ws_cons]
      refine ws_for (fun fs ρ s' => (∀ e ∈ fs, ∃ p ∈ pp, e = iT p) ∧ Pre s s' ∧ ∃ c : Option D, ρ = [some (.obj m), some (iT x), some (iT y), c]) ?_ ?_ ?_
      · simp only [we_x_cmp, we_x_bi, we_x_bin, we_x_neg, we_x_int, we_x_bl, we_x_str, we_x_non, we_x_and, we_x_or, we_x_not, we_x_ite, we_x_tup, we_x_lst, we_x_call, we_x_callK, we_x_met, we_x_idx, we_s_cons, we_s_nil, we_t_cons, we_t_nil, we_i_seq, we_i_range1, we_i_range2, we_i_enum, we_loc, List.getElem?_cons_zero, List.getElem?_cons_succ, we_add, we_sub, we_mul, we_div, we_mod, we_pow, we_lt, we_le, we_gt, we_ge, we_eq, we_ne, we_bi_int, we_bi_intb, we_bi_max, we_bi_min, we_len_tup, we_len_frz, we_tr_bl, we_tr_int, we_newT, we_newL, we_walk_tup, we_walk_frz, we_range1, List.set, List.length_cons, List.length_nil, if_true, Bool.false_eq_true, if_false]
        rw [we_walk_obj (pr2.lst hm)]
        exact ⟨fun ds ρ s' h => wk_ok (h.2.1.lst hm), all, pr2, _, rfl⟩
      · rintro d fs ρ s3 ⟨hf, pr3, c, rfl⟩
        obtain ⟨⟨z, hz, rfl⟩, hf'⟩ := sub hf
        have gx := hp x hx
        have gy := hp y hy
        have gz := hp z hz
        have hb : x.length ≤ 24 := by rw [gx.len]; exact gx.n24
        have l1 : x.length = y.length := gx.len.trans gy.len.symm
        have l2 : x.length = z.length := gx.len.trans gz.len.symm
        obtain ⟨t, r⟩ := repr_all (tame_mv (ys := y) hb gx.low gz.low) (Nat.le_refl _)
        refine ⟨_, rfl, ?_⟩
        rw [ws_cons]
        refine ws_ite ?_
        simp only [we_x_cmp, we_x_bi, we_x_bin, we_x_neg, we_x_int, we_x_bl, we_x_str, we_x_non, we_x_and, we_x_or, we_x_not, we_x_ite, we_x_tup, we_x_lst, we_x_call, we_x_callK, we_x_met, we_x_idx, we_s_cons, we_s_nil, we_t_cons, we_t_nil, we_i_seq, we_i_range1, we_i_range2, we_i_enum, we_loc, List.getElem?_cons_zero, List.getElem?_cons_succ, we_add, we_sub, we_mul, we_div, we_mod, we_pow, we_lt, we_le, we_gt, we_ge, we_eq, we_ne, we_bi_int, we_bi_intb, we_bi_max, we_bi_min, we_len_tup, we_len_frz, we_tr_bl, we_tr_int, we_newT, we_newL, we_walk_tup, we_walk_frz, we_range1, List.set, List.length_cons, List.length_nil, if_true, Bool.false_eq_true, if_false]
        obtain ⟨d4, s4, e4, rfl, p4⟩ := move_at (F := F) (k := k + 1) (s := s3) H.move l1 l2 hb
        rw [WE.of e4, we_repr (r s4)]
        obtain ⟨d5, s5, e5, rfl, p5⟩ := moved_at (F := F) (k := k + 1) (s := s4) H.moved l1 l2 hb
        rw [WE.of e5, we_repr (r s5), we_ne_str]
        simp only [we_x_cmp, we_x_bi, we_x_bin, we_x_neg, we_x_int, we_x_bl, we_x_str, we_x_non, we_x_and, we_x_or, we_x_not, we_x_ite, we_x_tup, we_x_lst, we_x_call, we_x_callK, we_x_met, we_x_idx, we_s_cons, we_s_nil, we_t_cons, we_t_nil, we_i_seq, we_i_range1, we_i_range2, we_i_enum, we_loc, List.getElem?_cons_zero, List.getElem?_cons_succ, we_add, we_sub, we_mul, we_div, we_mod, we_pow, we_lt, we_le, we_gt, we_ge, we_eq, we_ne, we_bi_int, we_bi_intb, we_bi_max, we_bi_min, we_len_tup, we_len_frz, we_tr_bl, we_tr_int, we_newT, we_newL, we_walk_tup, we_walk_frz, we_range1, List.set, List.length_cons, List.length_nil, if_true, Bool.false_eq_true, if_false, decide_true, Bool.not_true]
        rw [ws_nil]
        dsimp only
        rw [ws_nil]
        exact ⟨hf', pr3.trans (p4.trans p5), _, rfl⟩
      · rintro ρ s3 ⟨_, pr3, c, rfl⟩
        dsimp only
        rw [ws_nil]
        exact ⟨he', pr3, _, _, rfl⟩
    · rintro ρ s1 ⟨_, pr1, b, c, rfl⟩
      dsimp only
      rw [ws_nil]
      exact ⟨hd', pr1, _, _, _, rfl⟩
  · rintro ρ s1 ⟨_, pr1, a, b, c, rfl⟩
    dsimp only
    rw [ws_cons]
    refine ws_ret ?_
    simp only [we_x_cmp, we_x_bi, we_x_bin, we_x_neg, we_x_int, we_x_bl, we_x_str, we_x_non, we_x_and, we_x_or, we_x_not, we_x_ite, we_x_tup, we_x_lst, we_x_call, we_x_callK, we_x_met, we_x_idx, we_s_cons, we_s_nil, we_t_cons, we_t_nil, we_i_seq, we_i_range1, we_i_range2, we_i_enum, we_loc, List.getElem?_cons_zero, List.getElem?_cons_succ, we_add, we_sub, we_mul, we_div, we_mod, we_pow, we_lt, we_le, we_gt, we_ge, we_eq, we_ne, we_bi_int, we_bi_intb, we_bi_max, we_bi_min, we_len_tup, we_len_frz, we_tr_bl, we_tr_int, we_newT, we_newL, we_walk_tup, we_walk_frz, we_range1, List.set, List.length_cons, List.length_nil, if_true, Bool.false_eq_true, if_false]
    exact ⟨trivial, pr1⟩
end
end Mi

set_option maxRecDepth 100000
/-! k02: the law. -/
namespace Mi
open PySem

theorem law_at {T : Tab} (H : Has T) {F k : Nat} {s : Sto} {ns : List Int} (hn : ns.length ≤ 63) : WE (Gm T F (k + 4) "law" [.frz (ns.map .int)]) s fun d _ => d = .bl true := by
  have tw : ∀ {xs ys zs : List Int}, xs.length ≤ 24 → Low xs → Low zs → TameD 60 1000000 (dMv xs ys zs) := fun a b c => tame_mv a b c
  have l3 : ∀ a b c : Int, a.natAbs < 10 → b.natAbs < 10 → c.natAbs < 10 → Low [a, b, c] := by
    intro a b c h1 h2 h3 p hp
    have e : (10 : Nat) ^ 12 = 1000000000000 := by decide
    simp only [List.mem_cons, List.not_mem_nil, or_false] at hp
    rcases hp with rfl | rfl | rfl <;> omega
  have l1 : ∀ a : Int, a.natAbs < 10 → Low [a] := by
    intro a h1 p hp
    have e : (10 : Nat) ^ 12 = 1000000000000 := by decide
    simp only [List.mem_cons, List.not_mem_nil, or_false] at hp
    rw [hp]
    omega
  refine we_gm H.law rfl ?_
  show WS (exSs _ _ f_law.body [some (.frz (ns.map .int)), none, none, none, none, none, none]) s _
  unfold f_law
  dsimp only
  rw [ws_cons]
  refine ws_ite ?_
  simp only [we_x_cmp, we_x_bi, we_x_bin, we_x_neg, we_x_int, we_x_bl, we_x_str, we_x_non, we_x_and, we_x_or, we_x_not, we_x_ite, we_x_tup, we_x_lst, we_x_call, we_x_callK, we_x_met, we_x_idx, we_s_cons, we_s_nil, we_t_cons, we_t_nil, we_i_seq, we_i_range1, we_i_range2, we_i_enum, we_loc, List.getElem?_cons_zero, List.getElem?_cons_succ, we_add, we_sub, we_mul, we_div, we_mod, we_pow, we_lt, we_le, we_gt, we_ge, we_eq, we_ne, we_bi_int, we_bi_intb, we_bi_max, we_bi_min, we_len_tup, we_len_frz, we_tr_bl, we_tr_int, we_newT, we_newL, we_walk_tup, we_walk_frz, we_range1, List.set, List.length_cons, List.length_nil, if_true, Bool.false_eq_true, if_false, Nat.reduceAdd, Nat.reduceLeDiff, true_and]
  obtain ⟨d1, s1, e1, rfl, p1⟩ := move_at (F := F) (k := k + 2) (s := s) (xs := [0, 0, 2]) (ys := [1, 0, 1]) (zs := [2, 1, 0]) H.move rfl rfl (by decide)
  have c1 : D.tup [.int 2, .int 0, .int 0] = dMv [0, 0, 2] [1, 0, 1] [2, 1, 0] := by rfl
  rw [c1, WE.of (m := Gm T F (k + 3) "move" [.tup [.int 0, .int 0, .int 2], .tup [.int 1, .int 0, .int 1], .tup [.int 2, .int 1, .int 0]]) e1, WE.of (cmp_self (s := s1) (tw (by decide) (l3 _ _ _ (by decide) (by decide) (by decide)) (l3 _ _ _ (by decide) (by decide) (by decide)))).1]
  simp only [we_x_cmp, we_x_bi, we_x_bin, we_x_neg, we_x_int, we_x_bl, we_x_str, we_x_non, we_x_and, we_x_or, we_x_not, we_x_ite, we_x_tup, we_x_lst, we_x_call, we_x_callK, we_x_met, we_x_idx, we_s_cons, we_s_nil, we_t_cons, we_t_nil, we_i_seq, we_i_range1, we_i_range2, we_i_enum, we_loc, List.getElem?_cons_zero, List.getElem?_cons_succ, we_add, we_sub, we_mul, we_div, we_mod, we_pow, we_lt, we_le, we_gt, we_ge, we_eq, we_ne, we_bi_int, we_bi_intb, we_bi_max, we_bi_min, we_len_tup, we_len_frz, we_tr_bl, we_tr_int, we_newT, we_newL, we_walk_tup, we_walk_frz, we_range1, List.set, List.length_cons, List.length_nil, if_true, Bool.false_eq_true, if_false]
  obtain ⟨d2, s2, e2, rfl, p2⟩ := move_at (F := F) (k := k + 2) (s := s1) (xs := [2]) (ys := [0]) (zs := [1]) H.move rfl rfl (by decide)
  have c2 : D.tup [.int 1] = dMv [2] [0] [1] := by rfl
  rw [WE.of (m := Gm T F (k + 3) "move" [.tup [.int 2], .tup [.int 0], .tup [.int 1]]) e2, c2, WE.of (cmp_self (s := s2) (tw (by decide) (l1 _ (by decide)) (l1 _ (by decide)))).1]
  simp only [we_x_cmp, we_x_bi, we_x_bin, we_x_neg, we_x_int, we_x_bl, we_x_str, we_x_non, we_x_and, we_x_or, we_x_not, we_x_ite, we_x_tup, we_x_lst, we_x_call, we_x_callK, we_x_met, we_x_idx, we_s_cons, we_s_nil, we_t_cons, we_t_nil, we_i_seq, we_i_range1, we_i_range2, we_i_enum, we_loc, List.getElem?_cons_zero, List.getElem?_cons_succ, we_add, we_sub, we_mul, we_div, we_mod, we_pow, we_lt, we_le, we_gt, we_ge, we_eq, we_ne, we_bi_int, we_bi_intb, we_bi_max, we_bi_min, we_len_tup, we_len_frz, we_tr_bl, we_tr_int, we_newT, we_newL, we_walk_tup, we_walk_frz, we_range1, List.set, List.length_cons, List.length_nil, if_true, Bool.false_eq_true, if_false]
  rw [ws_nil]
  dsimp only
  rw [ws_cons]
  generalize hN : (if (if (4 : Int) < ((ns.map D.int).length : Int) then 4 else ((ns.map D.int).length : Int)) > 1 then (if (4 : Int) < ((ns.map D.int).length : Int) then 4 else ((ns.map D.int).length : Int)) else 1 : Int) = N
  have hN1 : 1 ≤ N ∧ N ≤ 4 ∧ (N ≤ ns.length ∨ (N = 1 ∧ ns = [])) := by
    rw [List.length_map] at hN
    have hz : ns.length = 0 → ns = [] := List.eq_nil_of_length_eq_zero
    subst hN
    by_cases h0 : ns.length = 0
    · have := hz h0
      subst this
      simp
    · split
      · split
        · omega
        · omega
      · omega
  refine ws_for (fun ds ρ _ => ∃ a m : Nat, ds = rangeD a m ∧ ((a + m : Nat) : Int) = N ∧ ∃ b c d e f g : Option D, ρ = [some (.frz (ns.map .int)), b, c, d, e, f, g]) ?_ ?_ ?_
  · simp only [we_x_cmp, we_x_bi, we_x_bin, we_x_neg, we_x_int, we_x_bl, we_x_str, we_x_non, we_x_and, we_x_or, we_x_not, we_x_ite, we_x_tup, we_x_lst, we_x_call, we_x_callK, we_x_met, we_x_idx, we_s_cons, we_s_nil, we_t_cons, we_t_nil, we_i_seq, we_i_range1, we_i_range2, we_i_enum, we_loc, List.getElem?_cons_zero, List.getElem?_cons_succ, we_add, we_sub, we_mul, we_div, we_mod, we_pow, we_lt, we_le, we_gt, we_ge, we_eq, we_ne, we_bi_int, we_bi_intb, we_bi_max, we_bi_min, we_len_tup, we_len_frz, we_tr_bl, we_tr_int, we_newT, we_newL, we_walk_tup, we_walk_frz, we_range1, List.set, List.length_cons, List.length_nil, if_true, Bool.false_eq_true, if_false]
    refine ⟨?_, fun _ _ _ _ => rfl, 0, N.toNat, ?_, by omega, _, _, _, _, _, _, rfl⟩
    · rw [hN]
      unfold r62
      simp
      omega
    · rw [hN]
      rfl
  · rintro d ds ρ s3 ⟨a, m, e0, ham, b, c, d', e, f, g, rfl⟩
    cases m with
    | zero => cases e0
    | succ m =>
      cases e0
      refine ⟨_, rfl, ?_⟩
      rw [ws_cons]
      refine ws_asg ?_
      simp only [we_x_cmp, we_x_bi, we_x_bin, we_x_neg, we_x_int, we_x_bl, we_x_str, we_x_non, we_x_and, we_x_or, we_x_not, we_x_ite, we_x_tup, we_x_lst, we_x_call, we_x_callK, we_x_met, we_x_idx, we_s_cons, we_s_nil, we_t_cons, we_t_nil, we_i_seq, we_i_range1, we_i_range2, we_i_enum, we_loc, List.getElem?_cons_zero, List.getElem?_cons_succ, we_add, we_sub, we_mul, we_div, we_mod, we_pow, we_lt, we_le, we_gt, we_ge, we_eq, we_ne, we_bi_int, we_bi_intb, we_bi_max, we_bi_min, we_len_tup, we_len_frz, we_tr_bl, we_tr_int, we_newT, we_newL, we_walk_tup, we_walk_frz, we_range1, List.set, List.length_cons, List.length_nil, if_true, Bool.false_eq_true, if_false]
      obtain ⟨d4, s4, e4, j, t, rfl, rfl, _, jr⟩ := pool_at (F := F) (k := k + 2) (s := s3) (ns := ns) (i := a) H.pool (by
        rcases hN1.2.2 with z | ⟨z1, z2⟩
        · exact .inl (by omega)
        · exact .inr ⟨z2, by omega⟩) (by omega)
      rw [WE.of e4, ws_cons]
      refine ws_asg ?_
      simp only [we_x_cmp, we_x_bi, we_x_bin, we_x_neg, we_x_int, we_x_bl, we_x_str, we_x_non, we_x_and, we_x_or, we_x_not, we_x_ite, we_x_tup, we_x_lst, we_x_call, we_x_callK, we_x_met, we_x_idx, we_s_cons, we_s_nil, we_t_cons, we_t_nil, we_i_seq, we_i_range1, we_i_range2, we_i_enum, we_loc, List.getElem?_cons_zero, List.getElem?_cons_succ, we_add, we_sub, we_mul, we_div, we_mod, we_pow, we_lt, we_le, we_gt, we_ge, we_eq, we_ne, we_bi_int, we_bi_intb, we_bi_max, we_bi_min, we_len_tup, we_len_frz, we_tr_bl, we_tr_int, we_newT, we_newL, we_walk_tup, we_walk_frz, we_range1, List.set, List.length_cons, List.length_nil, if_true, Bool.false_eq_true, if_false]
      obtain ⟨d5, s5, e5, zs, rfl, hz, _, _, _, jr5⟩ := sizes_at (F := F) (k := k) (most := 24) (high := 6) H.take H.one H.sizes jr (by decide) (by decide) (by decide)
      rw [WE.of e5]
      obtain ⟨d6, s6, e6, n, pp, rfl, hl, h4, hp⟩ := pages_at (F := F) (k := k) H.take H.one H.page H.edit H.over H.four jr5 hz
      rw [WE.of e6, ws_cons]
      have hpg : ∀ p ∈ pp, Pg zs.length p := fun p h => pgOf hz (hp p h)
      refine ws_ite ?_
      simp only [we_x_cmp, we_x_bi, we_x_bin, we_x_neg, we_x_int, we_x_bl, we_x_str, we_x_non, we_x_and, we_x_or, we_x_not, we_x_ite, we_x_tup, we_x_lst, we_x_call, we_x_callK, we_x_met, we_x_idx, we_s_cons, we_s_nil, we_t_cons, we_t_nil, we_i_seq, we_i_range1, we_i_range2, we_i_enum, we_loc, List.getElem?_cons_zero, List.getElem?_cons_succ, we_add, we_sub, we_mul, we_div, we_mod, we_pow, we_lt, we_le, we_gt, we_ge, we_eq, we_ne, we_bi_int, we_bi_intb, we_bi_max, we_bi_min, we_len_tup, we_len_frz, we_tr_bl, we_tr_int, we_newT, we_newL, we_walk_tup, we_walk_frz, we_range1, List.set, List.length_cons, List.length_nil, if_true, Bool.false_eq_true, if_false]
      obtain ⟨d7, s7, e7, rfl, p7⟩ := four_at (F := F) (k := k) (s := s6) H hl hpg
      rw [WE.of e7]
      simp only [we_x_cmp, we_x_bi, we_x_bin, we_x_neg, we_x_int, we_x_bl, we_x_str, we_x_non, we_x_and, we_x_or, we_x_not, we_x_ite, we_x_tup, we_x_lst, we_x_call, we_x_callK, we_x_met, we_x_idx, we_s_cons, we_s_nil, we_t_cons, we_t_nil, we_i_seq, we_i_range1, we_i_range2, we_i_enum, we_loc, List.getElem?_cons_zero, List.getElem?_cons_succ, we_add, we_sub, we_mul, we_div, we_mod, we_pow, we_lt, we_le, we_gt, we_ge, we_eq, we_ne, we_bi_int, we_bi_intb, we_bi_max, we_bi_min, we_len_tup, we_len_frz, we_tr_bl, we_tr_int, we_newT, we_newL, we_walk_tup, we_walk_frz, we_range1, List.set, List.length_cons, List.length_nil, if_true, Bool.false_eq_true, if_false, Bool.not_true]
      rw [ws_nil]
      dsimp only
      rw [ws_cons]
      have hl7 := p7.lst hl
      match pp, h4 with
      | [x, y, z, u], _ =>
        have gx := hpg x (by simp)
        have gy := hpg y (by simp)
        have gz := hpg z (by simp)
        have bx : x.length ≤ 24 := by rw [gx.len]; exact gx.n24
        have bY : y.length ≤ 24 := by rw [gy.len]; exact gy.n24
        have bz : z.length ≤ 24 := by rw [gz.len]; exact gz.n24
        refine ws_asgs ?_
        simp only [we_x_cmp, we_x_bi, we_x_bin, we_x_neg, we_x_int, we_x_bl, we_x_str, we_x_non, we_x_and, we_x_or, we_x_not, we_x_ite, we_x_tup, we_x_lst, we_x_call, we_x_callK, we_x_met, we_x_idx, we_s_cons, we_s_nil, we_t_cons, we_t_nil, we_i_seq, we_i_range1, we_i_range2, we_i_enum, we_loc, List.getElem?_cons_zero, List.getElem?_cons_succ, we_add, we_sub, we_mul, we_div, we_mod, we_pow, we_lt, we_le, we_gt, we_ge, we_eq, we_ne, we_bi_int, we_bi_intb, we_bi_max, we_bi_min, we_len_tup, we_len_frz, we_tr_bl, we_tr_int, we_newT, we_newL, we_walk_tup, we_walk_frz, we_range1, List.set, List.length_cons, List.length_nil, if_true, Bool.false_eq_true, if_false]
        rw [we_idx (th := .obj n) (d := iT x) hl7 rfl, we_idx (th := .obj n) (d := iT y) hl7 rfl, we_idx (th := .obj n) (d := iT z) hl7 rfl]
        refine ⟨trivial, ?_⟩
        rw [ws_cons]
        refine ws_ite ?_
        simp only [we_x_cmp, we_x_bi, we_x_bin, we_x_neg, we_x_int, we_x_bl, we_x_str, we_x_non, we_x_and, we_x_or, we_x_not, we_x_ite, we_x_tup, we_x_lst, we_x_call, we_x_callK, we_x_met, we_x_idx, we_s_cons, we_s_nil, we_t_cons, we_t_nil, we_i_seq, we_i_range1, we_i_range2, we_i_enum, we_loc, List.getElem?_cons_zero, List.getElem?_cons_succ, we_add, we_sub, we_mul, we_div, we_mod, we_pow, we_lt, we_le, we_gt, we_ge, we_eq, we_ne, we_bi_int, we_bi_intb, we_bi_max, we_bi_min, we_len_tup, we_len_frz, we_tr_bl, we_tr_int, we_newT, we_newL, we_walk_tup, we_walk_frz, we_range1, List.set, List.length_cons, List.length_nil, if_true, Bool.false_eq_true, if_false, List.zip, List.zipWith, List.foldl]
        have q1 : permG 3 0 [2, 0, 1] [] [iT x, iT y, iT z] = some [iT y, iT z, iT x] := by rfl
        rw [q1, we_lift]
        dsimp only
        obtain ⟨d8, s8, e8, rfl, p8⟩ := move_at (F := F) (k := k + 2) (s := s7) H.move (gy.len.trans gz.len.symm) (gy.len.trans gx.len.symm) bY
        rw [WE.of e8]
        obtain ⟨d9, s9, e9, rfl, p9⟩ := moved_at (F := F) (k := k + 2) (s := s8) H.moved (gy.len.trans gz.len.symm) (gy.len.trans gx.len.symm) bY
        rw [WE.of e9, WE.of (cmp_self (s := s9) (tw bY gy.low gx.low)).1]
        simp only [we_x_cmp, we_x_bi, we_x_bin, we_x_neg, we_x_int, we_x_bl, we_x_str, we_x_non, we_x_and, we_x_or, we_x_not, we_x_ite, we_x_tup, we_x_lst, we_x_call, we_x_callK, we_x_met, we_x_idx, we_s_cons, we_s_nil, we_t_cons, we_t_nil, we_i_seq, we_i_range1, we_i_range2, we_i_enum, we_loc, List.getElem?_cons_zero, List.getElem?_cons_succ, we_add, we_sub, we_mul, we_div, we_mod, we_pow, we_lt, we_le, we_gt, we_ge, we_eq, we_ne, we_bi_int, we_bi_intb, we_bi_max, we_bi_min, we_len_tup, we_len_frz, we_tr_bl, we_tr_int, we_newT, we_newL, we_walk_tup, we_walk_frz, we_range1, List.set, List.length_cons, List.length_nil, if_true, Bool.false_eq_true, if_false]
        have q2 : permG 2 0 [1, 0] [] [iT x, iT z] = some [iT z, iT x] := by rfl
        rw [q2, we_lift]
        dsimp only
        obtain ⟨d10, s10, e10, rfl, p10⟩ := changed_at (F := F) (k := k + 2) (s := s9) H.changed (gz.len.trans gx.len.symm) bz
        rw [WE.of e10]
        obtain ⟨d11, s11, e11, rfl, p11⟩ := parted_at (F := F) (k := k + 2) (s := s10) H.parted (gz.len.trans gx.len.symm) bz
        rw [WE.of e11, WE.of (cmp_self (s := s11) (tame_ch bz)).1]
        simp only [we_x_cmp, we_x_bi, we_x_bin, we_x_neg, we_x_int, we_x_bl, we_x_str, we_x_non, we_x_and, we_x_or, we_x_not, we_x_ite, we_x_tup, we_x_lst, we_x_call, we_x_callK, we_x_met, we_x_idx, we_s_cons, we_s_nil, we_t_cons, we_t_nil, we_i_seq, we_i_range1, we_i_range2, we_i_enum, we_loc, List.getElem?_cons_zero, List.getElem?_cons_succ, we_add, we_sub, we_mul, we_div, we_mod, we_pow, we_lt, we_le, we_gt, we_ge, we_eq, we_ne, we_bi_int, we_bi_intb, we_bi_max, we_bi_min, we_len_tup, we_len_frz, we_tr_bl, we_tr_int, we_newT, we_newL, we_walk_tup, we_walk_frz, we_range1, List.set, List.length_cons, List.length_nil, if_true, Bool.false_eq_true, if_false]
        rw [ws_nil]
        dsimp only
        rw [ws_cons]
        refine ws_ite ?_
        simp only [we_x_cmp, we_x_bi, we_x_bin, we_x_neg, we_x_int, we_x_bl, we_x_str, we_x_non, we_x_and, we_x_or, we_x_not, we_x_ite, we_x_tup, we_x_lst, we_x_call, we_x_callK, we_x_met, we_x_idx, we_s_cons, we_s_nil, we_t_cons, we_t_nil, we_i_seq, we_i_range1, we_i_range2, we_i_enum, we_loc, List.getElem?_cons_zero, List.getElem?_cons_succ, we_add, we_sub, we_mul, we_div, we_mod, we_pow, we_lt, we_le, we_gt, we_ge, we_eq, we_ne, we_bi_int, we_bi_intb, we_bi_max, we_bi_min, we_len_tup, we_len_frz, we_tr_bl, we_tr_int, we_newT, we_newL, we_walk_tup, we_walk_frz, we_range1, List.set, List.length_cons, List.length_nil, if_true, Bool.false_eq_true, if_false]
        have q3 : permG 2 0 [1, 0] [] [iT z, iT y] = some [iT y, iT z] := by rfl
        rw [q3, we_lift]
        dsimp only
        obtain ⟨d12, s12, e12, rfl, p12⟩ := agreed_at (F := F) (k := k + 2) (s := s11) H.agreed (gy.len.trans gz.len.symm) bY
        rw [WE.of e12]
        obtain ⟨d13, s13, e13, rfl, p13⟩ := agreedE_at (F := F) (k := k + 2) (s := s12) H.agreedE (gy.len.trans gz.len.symm) bY
        rw [WE.of e13, WE.of (cmp_self (s := s13) (tame_ag bY gy.low)).1]
        simp only [we_x_cmp, we_x_bi, we_x_bin, we_x_neg, we_x_int, we_x_bl, we_x_str, we_x_non, we_x_and, we_x_or, we_x_not, we_x_ite, we_x_tup, we_x_lst, we_x_call, we_x_callK, we_x_met, we_x_idx, we_s_cons, we_s_nil, we_t_cons, we_t_nil, we_i_seq, we_i_range1, we_i_range2, we_i_enum, we_loc, List.getElem?_cons_zero, List.getElem?_cons_succ, we_add, we_sub, we_mul, we_div, we_mod, we_pow, we_lt, we_le, we_gt, we_ge, we_eq, we_ne, we_bi_int, we_bi_intb, we_bi_max, we_bi_min, we_len_tup, we_len_frz, we_tr_bl, we_tr_int, we_newT, we_newL, we_walk_tup, we_walk_frz, we_range1, List.set, List.length_cons, List.length_nil, if_true, Bool.false_eq_true, if_false]
        rw [ws_nil]
        dsimp only
        rw [ws_nil]
        exact ⟨a + 1, m, by rw [Int.natCast_add]; rfl, by omega, _, _, _, _, _, _, rfl⟩
  · rintro ρ s3 ⟨a, m, e0, ham, b, c, d', e, f, g, rfl⟩
    dsimp only
    rw [ws_cons]
    refine ws_ret ?_
    simp only [we_x_cmp, we_x_bi, we_x_bin, we_x_neg, we_x_int, we_x_bl, we_x_str, we_x_non, we_x_and, we_x_or, we_x_not, we_x_ite, we_x_tup, we_x_lst, we_x_call, we_x_callK, we_x_met, we_x_idx, we_s_cons, we_s_nil, we_t_cons, we_t_nil, we_i_seq, we_i_range1, we_i_range2, we_i_enum, we_loc, List.getElem?_cons_zero, List.getElem?_cons_succ, we_add, we_sub, we_mul, we_div, we_mod, we_pow, we_lt, we_le, we_gt, we_ge, we_eq, we_ne, we_bi_int, we_bi_intb, we_bi_max, we_bi_min, we_len_tup, we_len_frz, we_tr_bl, we_tr_int, we_newT, we_newL, we_walk_tup, we_walk_frz, we_range1, List.set, List.length_cons, List.length_nil, if_true, Bool.false_eq_true, if_false]
end Mi

set_option maxRecDepth 100000
set_option maxHeartbeats 0
namespace K02
open PySem PySem.Spec PyProof.Rows L2 Mi
abbrev lawR : PySem.W.OpenLaw := PySem.Challenge.rw_onlyforced_k02_what_pages_agree_on_and_t
def at_ (i : Nat) : Stmt := lawR.prog.main.body.getD i (.Pass ⟨0, 0, 0, 0⟩)
def ts : List TD := [⟨at_ 1, "changed", ["x", "y"], f_changed⟩, ⟨at_ 2, "move", ["x", "y", "z"], f_move⟩, ⟨at_ 4, "agreed", ["x", "y"], f_agreed⟩, ⟨at_ 6, "_law_pool", ["script", "k"], f__law_pool⟩, ⟨at_ 7, "_law_take", ["jar", "top"], f__law_take⟩,
  ⟨at_ 8, "_law_one", ["jar", "things"], f__law_one⟩, ⟨at_ 9, "_law_drawn_sizes", ["jar", "most", "high"], f__law_drawn_sizes⟩, ⟨at_ 10, "_law_any_page", ["jar", "sizes"], f__law_any_page⟩, ⟨at_ 11, "_law_any_edit", ["jar", "sizes", "rare"], f__law_any_edit⟩,
  ⟨at_ 12, "_law_over", ["page", "edit"], f__law_over⟩, ⟨at_ 13, "_law_parted_at", ["x", "y"], f__law_parted_at⟩, ⟨at_ 14, "_law_moved", ["x", "y", "z"], f__law_moved⟩, ⟨at_ 15, "_law_four_pages", ["jar", "sizes"], f__law_four_pages⟩,
  ⟨at_ 16, "_law_agreed_edit", ["x", "y"], f__law_agreed_edit⟩, ⟨at_ 17, "_law_two_right", ["x", "y"], f__law_two_right⟩, ⟨at_ 18, "_law_four_right", ["some"], f__law_four_right⟩, ⟨at_ 19, "law", ["script"], f_law⟩]
def bis : List String := ["range", "enumerate", "int", "len", "max", "min", "tuple", "list", "repr"]
def kws : List (Str × Nat × List Str) := [("move", 0, ["z", "x", "y"]), ("changed", 0, ["y", "x"]), ("agreed", 0, ["y", "x"])]
def loose : List Str := ["changed", "move", "agreed", "_law_pool", "_law_take", "_law_one", "_law_drawn_sizes", "_law_any_page", "_law_any_edit", "_law_over", "_law_parted_at", "_law_moved", "_law_four_pages", "_law_agreed_edit", "_law_two_right", "_law_four_right"]
theorem ts_ok : ts.all (tdC (tcOf (txtOf ts) kws bis)) = true := by kernel_rfl
def fn : List He.DefD := ts.map TD.dd
def fa : List He.Fa := faOf ts bis
abbrev R : PySem.W.OpenRow := PySem.W.OpenLaw.row lawR
abbrev hk : PySem.W.Hook := He.hookD 4 fa fn
def ob (s : PySem.W.SharedT) : He.AlD := He.obsDG 4 fa fn (HandSHeadRun.getT s)
theorem ob_eq (s : PySem.W.SharedT) : ob s = hk.obs s.abs := He.obsDG_eq (HandSHeadRun.getT_eq s)
theorem run (w : World) : HandSHeadRun.RunEq R (PySem.W.view R.prog [19]) hk ob 2000 loose w := by
  intro os
  kernel_rfl
end K02

set_option maxRecDepth 100000
set_option maxHeartbeats 0
namespace K02
open PySem PySem.Spec PyProof.Rows L2 Mi
theorem has : Has (tabOf (txtOf ts)) := by
  constructor <;> kernel_rfl
theorem pure_law (ns : List Int) (h : ns.length ≤ 63) : ∃ st', Gm (tabOf (txtOf ts)) 0 4 "law" [.frz (ns.map D.int)] [] = some (.ok (.bl true) st') := by
  obtain ⟨d, s', e, rfl⟩ := law_at (F := 0) (k := 0) (s := []) has h
  exact ⟨s', e⟩
end K02
open PySem PySem.W PySem.Calls PyProof.Rows
theorem PySem.Challenge.cw_onlyforced_k02_what_pages_agree_on_and_t_holds : PySem.Challenge.rw_onlyforced_k02_what_pages_agree_on_and_t.Holds := by
  w_on; o_law
  refine HandSHeadRun.head_any (r := K02.R) (q := view K02.R.prog [19]) (H := K02.hk) (ob := K02.ob) (M := 2000) (loose := K02.loose) (d := HandSHeadRun.topDef K02.R.prog 19) (kwd := []) K02.ob_eq
    (by kernel_rfl) (fun s => by kernel_rfl) K02.run (by kernel_rfl) (by kernel_rfl) (by kernel_rfl) (by rfl) (by first | assumption | decide +kernel) (by decide +kernel) ⟨rfl, rfl, rfl, rfl, rfl, by decide +kernel⟩ ?hw ?hc
  case hw => w_witness2
  case hc => exact Mi.walkM (l := K02.lawR) (n := 63) (k := 4) (F := 0) (x := "script") (y := "law") (XR := fun _ _ _ _ _ _ _ => False) K02.ts K02.kws K02.bis rfl (by decide) (by kernel_rfl) ⟨rfl, by decide, by decide⟩ (by kernel_rfl) K02.ts_ok (by decide +kernel) rfl K02.pure_law

