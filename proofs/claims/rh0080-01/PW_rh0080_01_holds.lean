import PyProof.Rows.All
import Wide.All
import OpenK.AllK
import Wide.FinOn
import Lean
import PySem.Challenge.RW_rh0080_01
set_option Elab.async false

noncomputable section -- MiniDef
/-! A small language, its abstract values and heap, its evaluator (a least fixed point). -/
set_option autoImplicit false
noncomputable section
namespace Mini

inductive AV where
  | none
  | bool (b : Bool)
  | int (i : Int)
  | sym (n : Nat)
  | tup (l : List AV)
  | obj (i : Nat)
  | flist (l : List AV)
  deriving Inhabited

mutual
noncomputable def AV.beq : AV → AV → Bool
  | .none, .none => true
  | .bool a, .bool b => a == b
  | .int a, .int b => decide (a = b)
  | .sym a, .sym b => decide (a = b)
  | .tup a, .tup b => AV.beqs a b
  | .obj a, .obj b => decide (a = b)
  | .flist a, .flist b => AV.beqs a b
  | _, _ => false
noncomputable def AV.beqs : List AV → List AV → Bool
  | [], [] => true
  | a :: l, b :: r => AV.beq a b && AV.beqs l r
  | _, _ => false
end
theorem AV.beq_iff (a b : AV) : AV.beq a b = true ↔ a = b := by
  refine AV.rec (motive_1 := fun a => ∀ b, AV.beq a b = true ↔ a = b) (motive_2 := fun l => ∀ r, AV.beqs l r = true ↔ l = r) ?_ ?_ ?_ ?_ ?_ ?_ ?_ ?_ ?_ a b
  · intro b; cases b with
    | none => exact ⟨fun _ => rfl, fun _ => rfl⟩
    | _ => exact ⟨nofun, nofun⟩
  · intro x b; cases b with
    | bool y => exact ⟨fun h => congrArg AV.bool (eq_of_beq h), fun h => AV.bool.inj h ▸ beq_self_eq_true x⟩
    | _ => exact ⟨nofun, nofun⟩
  · intro x b; cases b with
    | int y => exact ⟨fun h => congrArg AV.int (of_decide_eq_true h), fun h => decide_eq_true (AV.int.inj h)⟩
    | _ => exact ⟨nofun, nofun⟩
  · intro x b; cases b with
    | sym y => exact ⟨fun h => congrArg AV.sym (of_decide_eq_true h), fun h => decide_eq_true (AV.sym.inj h)⟩
    | _ => exact ⟨nofun, nofun⟩
  · intro x m b; cases b with
    | tup y => exact ⟨fun h => congrArg AV.tup ((m y).mp h), fun h => (m y).mpr (AV.tup.inj h)⟩
    | _ => exact ⟨nofun, nofun⟩
  · intro x b; cases b with
    | obj y => exact ⟨fun h => congrArg AV.obj (of_decide_eq_true h), fun h => decide_eq_true (AV.obj.inj h)⟩
    | _ => exact ⟨nofun, nofun⟩
  · intro x m b; cases b with
    | flist y => exact ⟨fun h => congrArg AV.flist ((m y).mp h), fun h => (m y).mpr (AV.flist.inj h)⟩
    | _ => exact ⟨nofun, nofun⟩
  · intro b; cases b with
    | nil => exact ⟨fun _ => rfl, fun _ => rfl⟩
    | cons _ _ => exact ⟨nofun, nofun⟩
  · intro x l m1 m2 b; cases b with
    | nil => exact ⟨nofun, nofun⟩
    | cons y r => exact (Bool.and_eq_true_iff (x := AV.beq x y) (y := AV.beqs l r)).trans ((and_congr (m1 y) (m2 r)).trans (List.cons.injEq x l y r ▸ Iff.rfl))
noncomputable instance : DecidableEq AV := fun a b => decidable_of_iff _ (AV.beq_iff a b)

/-- objects with an identity: lists, dicts, instances of class c -/
inductive AObj where
  | list (l : List AV)
  | dict (es : List (AV × AV))
  | inst (c : Nat) (ats : List (Nat × AV))
  deriving Inhabited
noncomputable abbrev AHeap := List AObj
noncomputable abbrev Loc := List (Option AV)

inductive Bop where | add | sub | mul | mod | fdiv
  deriving DecidableEq
inductive Cop where | eq | ne | lt | gt | ge | isin | notin
  deriving DecidableEq

inductive ME where
  | lit (v : AV)
  | loc (x : Nat)
  | attr (e : ME) (n : Nat)
  | sub (e i : ME)
  | slice (e lo hi : ME)
  | bin (o : Bop) (a b : ME)
  | cmp (o : Cop) (a b : ME)
  | ors (l : List ME)
  | ands (l : List ME)
  | ite (c a b : ME)
  | list (l : List ME)
  | tup (l : List ME)
  | dict0
  | call (f : Nat) (l : List ME)
  | new (c : Nat) (l : List ME)
  | meth (e : ME) (n : Nat) (l : List ME)
  | len (e : ME)
  | listRange (e : ME)
  | listOf (e : ME)
  | tupOf (e : ME)
  | append (e x : ME)
  | pop (e : ME)
  | rev (e : ME)
  | dget (e k dv : ME)
  | filt (e : ME) (n : Nat)
  deriving Inhabited
inductive MI where
  | e (e : ME)
  | range1 (b : ME)
  | range2 (a b : ME)
  deriving Inhabited
inductive MS where
  | asg (x : Nat) (e : ME)
  | sattr (o : ME) (n : Nat) (e : ME)
  | sitem (o k e : ME)
  | expr (e : ME)
  | ifs (c : ME) (a b : List MS)
  | for_ (x : Nat) (it : MI) (kill : List Nat) (body : List MS)
  | while_ (c : ME) (kill : List Nat) (body : List MS)
  | ret (e : ME)
  | brk
  | stuck
  deriving Inhabited
inductive Fl where
  | next | brk | ret (v : AV)
  deriving Inhabited
inductive Src where
  | lst (i : Nat)
  | vals (l : List AV)
  deriving Inhabited
structure Fn where
  np : Nat
  nl : Nat
  body : List MS
  deriving Inhabited

/-- the program's tables -/
structure Prg where
  syms : Nat
  ats : Nat → Nat → Bool
  fn : Nat → Option Fn
  init : Nat → Option Nat
  meth : Nat → Nat → Option Nat

/-! ### primitive operations -/
noncomputable def big : Nat := 2 ^ 20

mutual
/-- data whose == is told: no bools, no objects, few levels, known syms -/
noncomputable def eqOk (P : Prg) : Nat → AV → Bool
  | _, .none => true
  | _, .int _ => true
  | _, .sym n => decide (n < P.syms)
  | n + 1, .tup l => eqOks P n l
  | _, _ => false
noncomputable def eqOks (P : Prg) : Nat → List AV → Bool
  | _, [] => true
  | n, a :: l => eqOk P n a && eqOks P n l
end

noncomputable def attrOf (P : Prg) (H : AHeap) (v : AV) (n : Nat) : Option AV := match v with
  | .obj i => match H[i]? with
    | some (.inst c ats) => if P.ats c n then ats.lookup n else none
    | _ => none
  | _ => none

/-- keys of dicts: 0 str, 1 int, 2 tuple of ints -/
noncomputable def isInt : AV → Bool
  | .int _ => true
  | _ => false
noncomputable def keyKind (P : Prg) : AV → Option Nat
  | .sym n => if n < P.syms then some 0 else none
  | .int _ => some 1
  | .tup l => if l.all isInt then some 2 else none
  | _ => none
noncomputable def keyFits (P : Prg) (es : List (AV × AV)) (k : AV) : Bool :=
  (keyKind P k).isSome && es.all (fun e => keyKind P e.1 == keyKind P k)
noncomputable def dlook (es : List (AV × AV)) (k : AV) : Option AV := (es.find? fun e => decide (e.1 = k)).map (·.2)
noncomputable def dput (es : List (AV × AV)) (k v : AV) : List (AV × AV) :=
  if (dlook es k).isSome then es.map (fun e => if e.1 = k then (e.1, v) else e) else es ++ [(k, v)]

noncomputable def idx (i : Int) (l : List AV) : Option AV := if 0 ≤ i ∧ i < 2 ^ 62 then l[i.toNat]? else none

noncomputable def subOf (P : Prg) (H : AHeap) (v i : AV) : Option AV := match v with
  | .tup l => match i with
    | .int k => idx k l
    | _ => none
  | .obj o => match H[o]? with
    | some (.list l) => match i with
      | .int k => idx k l
      | _ => none
    | some (.dict es) => if keyFits P es i then dlook es i else none
    | _ => none
  | _ => none

noncomputable def sliceOf (H : AHeap) (v lo hi : AV) : Option (List AV) := match v with
  | .flist l => match lo, hi with
    | .none, .int b => if 0 ≤ b ∧ b < 2 ^ 62 ∧ l.length < big then some (l.take b.toNat) else none
    | _, _ => none
  | .obj o => match H[o]? with
    | some (.list l) => match lo, hi with
      | .none, .int b => if 0 ≤ b ∧ b < 2 ^ 62 ∧ l.length < big then some (l.take b.toNat) else none
      | .int a, .int b => if 0 ≤ a ∧ a < 2 ^ 62 ∧ 0 ≤ b ∧ b < 2 ^ 62 ∧ l.length < big then some ((l.take b.toNat).drop a.toNat) else none
      | _, _ => none
    | _ => none
  | _ => none

noncomputable def binOf (o : Bop) (a b : AV) : Option AV := match a, b with
  | .int x, .int y => match o with
    | .add => some (.int (x + y))
    | .sub => some (.int (x - y))
    | .mul => if x.natAbs < 2 ^ 62 then some (.int (x * y)) else none
    | .mod => if 0 < y ∧ y < 2 ^ 62 then some (.int (x.fmod y)) else none
    | .fdiv => if 0 < y ∧ y < 2 ^ 62 then some (.int (x.fdiv y)) else none
  | _, _ => none

noncomputable def deepEq (P : Prg) (H : AHeap) (a b : AV) : Option Bool := match a, b with
  | .obj i, .obj j => match H[i]?, H[j]? with
    | some (.list l), some (.list r) => if eqOks P 4 l && eqOks P 4 r then some (decide (l = r)) else none
    | _, _ => none
  | .bool x, .bool y => some (x == y)
  | a, b => if eqOk P 4 a && eqOk P 4 b then some (decide (a = b)) else none
noncomputable def anyEq (P : Prg) (H : AHeap) (x : AV) : List AV → Option Bool
  | [] => some false
  | a :: l => (deepEq P H a x).bind fun t => (anyEq P H x l).map fun u => t || u
noncomputable def inOf (P : Prg) (H : AHeap) (x c : AV) : Option Bool := match c with
  | .obj i => match H[i]? with
    | some (.list l) => anyEq P H x l
    | some (.dict es) => if keyFits P es x then some (dlook es x).isSome else none
    | _ => none
  | _ => none
noncomputable def cmpOf (P : Prg) (H : AHeap) (o : Cop) (a b : AV) : Option Bool := match o with
  | .eq => deepEq P H a b
  | .ne => (deepEq P H a b).map (!·)
  | .isin => inOf P H a b
  | .notin => (inOf P H a b).map (!·)
  | .lt => match a, b with
    | .int x, .int y => some (decide (x < y))
    | _, _ => none
  | .gt => match a, b with
    | .int x, .int y => some (decide (x > y))
    | _, _ => none
  | .ge => match a, b with
    | .int x, .int y => some (decide (x ≥ y))
    | _, _ => none

noncomputable def truth : AV → Option Bool
  | .bool b => some b
  | _ => none

noncomputable def lenOf (H : AHeap) (v : AV) : Option Int := match v with
  | .tup l => if l.length < big then some l.length else none
  | .obj o => match H[o]? with
    | some (.list l) => if l.length < big then some l.length else none
    | _ => none
  | _ => none

noncomputable def rints (a b : Int) : List AV := (List.range (b - a).toNat).map fun (i : Nat) => AV.int (a + i)

noncomputable def listAt (H : AHeap) (v : AV) : Option (Nat × List AV) := match v with
  | .obj o => match H[o]? with
    | some (.list l) => some (o, l)
    | _ => none
  | _ => none
noncomputable def dictAt (H : AHeap) (v : AV) : Option (Nat × List (AV × AV)) := match v with
  | .obj o => match H[o]? with
    | some (.dict l) => some (o, l)
    | _ => none
  | _ => none
noncomputable def instAt (H : AHeap) (v : AV) : Option (Nat × Nat × List (Nat × AV)) := match v with
  | .obj o => match H[o]? with
    | some (.inst c ats) => some (o, c, ats)
    | _ => none
  | _ => none

noncomputable def putAttr (ats : List (Nat × AV)) (n : Nat) (v : AV) : List (Nat × AV) :=
  if (ats.lookup n).isSome then ats.map (fun e => if e.1 = n then (e.1, v) else e) else ats ++ [(n, v)]

noncomputable def killAll (kill : List Nat) (ρ : Loc) : Loc := kill.foldl (fun r k => r.set k none) ρ

noncomputable def srcAt (H : AHeap) (s : Src) (i : Nat) : Option (Option AV) := match s with
  | .vals l => some l[i]?
  | .lst o => match H[o]? with
    | some (.list l) => some l[i]?
    | _ => none

noncomputable def isFlat : AV → Bool
  | .none => true
  | .bool _ => true
  | .int _ => true
  | .sym _ => true
  | _ => false
noncomputable def isNone : AV → Bool
  | .none => true
  | _ => false

/-! ### the evaluator: one step given what the evaluator says (f), and the least fixed point -/
noncomputable abbrev F4 (A B R : Type) := Nat → A → B → AHeap → Option R
noncomputable abbrev Ev := F4 ME Loc (AV × AHeap) ×' F4 (List ME) Loc (List AV × AHeap) ×' F4 (List ME) Loc (AV × AHeap) ×' F4 (List ME) Loc (AV × AHeap) ×' F4 MI Loc (Src × AHeap) ×'
  F4 MS Loc (Fl × Loc × AHeap) ×' F4 (List MS) Loc (Fl × Loc × AHeap) ×' F4 ((Nat × List Nat × List MS) × Src × Nat) Loc (Fl × Loc × AHeap) ×' F4 (ME × List Nat × List MS) Loc (Fl × Loc × AHeap) ×' F4 Nat (List AV) (AV × AHeap)
noncomputable abbrev Ev.e (f : Ev) := f.1
noncomputable abbrev Ev.l (f : Ev) := f.2.1
noncomputable abbrev Ev.or (f : Ev) := f.2.2.1
noncomputable abbrev Ev.and (f : Ev) := f.2.2.2.1
noncomputable abbrev Ev.i (f : Ev) := f.2.2.2.2.1
noncomputable abbrev Ev.s (f : Ev) := f.2.2.2.2.2.1
noncomputable abbrev Ev.ss (f : Ev) := f.2.2.2.2.2.2.1
noncomputable abbrev Ev.for (f : Ev) := f.2.2.2.2.2.2.2.1
noncomputable abbrev Ev.wh (f : Ev) := f.2.2.2.2.2.2.2.2.1
noncomputable abbrev Ev.c (f : Ev) := f.2.2.2.2.2.2.2.2.2
section
variable (P : Prg)
noncomputable def stE (f : Ev) : F4 ME Loc (AV × AHeap) := fun d e ρ H => match e with
  | .lit v => some (v, H)
  | .loc x => (ρ[x]?.join).map fun v => (v, H)
  | .attr e n => (f.e d e ρ H) >>= fun p => (attrOf P p.2 p.1 n).map fun v => (v, p.2)
  | .sub e i => (f.e d e ρ H) >>= fun p => (f.e d i ρ p.2) >>= fun q => (subOf P q.2 p.1 q.1).map fun v => (v, q.2)
  | .slice e lo hi => (f.e d e ρ H) >>= fun p => (f.e d lo ρ p.2) >>= fun q => (f.e d hi ρ q.2) >>= fun r =>
      (sliceOf r.2 p.1 q.1 r.1).map fun l => (.obj r.2.length, r.2 ++ [.list l])
  | .bin o a b => (f.e d a ρ H) >>= fun p => (f.e d b ρ p.2) >>= fun q => (binOf o p.1 q.1).map fun v => (v, q.2)
  | .cmp o a b => (f.e d a ρ H) >>= fun p => (f.e d b ρ p.2) >>= fun q => (cmpOf P q.2 o p.1 q.1).map fun v => (.bool v, q.2)
  | .ors l => f.or d l ρ H
  | .ands l => f.and d l ρ H
  | .ite c a b => (f.e d c ρ H) >>= fun p => (truth p.1) >>= fun t => if t then f.e d a ρ p.2 else f.e d b ρ p.2
  | .list l => (f.l d l ρ H) >>= fun p => if p.1.length < big then some (.obj p.2.length, p.2 ++ [.list p.1]) else none
  | .tup l => (f.l d l ρ H) >>= fun p => if p.1.length < big then some (.tup p.1, p.2) else none
  | .dict0 => some (.obj H.length, H ++ [.dict []])
  | .call g l => (f.l d l ρ H) >>= fun p => f.c d g p.1 p.2
  | .new c l => (f.l d l ρ H) >>= fun p => (P.init c) >>= fun g => (f.c (d - 1) g (.obj p.2.length :: p.1) (p.2 ++ [.inst c []])) >>= fun q =>
      if isNone q.1 = true ∧ 0 < d then some (.obj p.2.length, q.2) else none
  | .meth e n l => (f.e d e ρ H) >>= fun p => (f.l d l ρ p.2) >>= fun q => (instAt p.2 p.1) >>= fun c => if (c.2.2.lookup n).isSome then none else (P.meth c.2.1 n) >>= fun g => f.c d g (p.1 :: q.1) q.2
  | .len e => (f.e d e ρ H) >>= fun p => (lenOf p.2 p.1).map fun n => (.int n, p.2)
  | .listRange e => (f.e d e ρ H) >>= fun p => match p.1 with
    | .int n => if -1 ≤ n ∧ n < big then some (.obj p.2.length, p.2 ++ [.list (rints 0 n)]) else none
    | _ => none
  | .listOf e => (f.e d e ρ H) >>= fun p => (listAt p.2 p.1) >>= fun l => if l.2.length < big then some (.obj p.2.length, p.2 ++ [.list l.2]) else none
  | .tupOf e => (f.e d e ρ H) >>= fun p => (listAt p.2 p.1) >>= fun l => if l.2.length < big then some (.tup l.2, p.2) else none
  | .append e x => (f.e d e ρ H) >>= fun p => (listAt p.2 p.1) >>= fun _ => (f.e d x ρ p.2) >>= fun q => (listAt q.2 p.1) >>= fun l =>
      if l.2.length < big then some (.none, q.2.set l.1 (.list (l.2 ++ [q.1]))) else none
  | .pop e => (f.e d e ρ H) >>= fun p => (listAt p.2 p.1) >>= fun l => if l.2.length < big then (l.2.getLast?).map fun v => (v, p.2.set l.1 (.list l.2.dropLast)) else none
  | .rev e => (f.e d e ρ H) >>= fun p => (listAt p.2 p.1) >>= fun l => if l.2.length < big then some (.none, p.2.set l.1 (.list l.2.reverse)) else none
  | .dget e k v => (f.e d e ρ H) >>= fun p => (dictAt p.2 p.1) >>= fun _ => (f.e d k ρ p.2) >>= fun q => (f.e d v ρ q.2) >>= fun r => (dictAt r.2 p.1) >>= fun es =>
      if keyFits P es.2 q.1 then some ((dlook es.2 q.1).getD r.1, r.2) else none
  | .filt e n => (f.e d e ρ H) >>= fun p => (listAt p.2 p.1) >>= fun l => if eqOks P 4 l.2 = true ∧ n < P.syms ∧ l.2.length < big then
      some (.bool (decide ((l.2.filter fun v => !decide (v = .tup [.sym n])) = [])), (p.2 ++ [.list (l.2.filter fun v => !decide (v = .tup [.sym n]))]) ++ [.list []]) else none
noncomputable def stL (f : Ev) : F4 (List ME) Loc (List AV × AHeap) := fun d l ρ H => match l with
  | [] => some ([], H)
  | e :: r => (f.e d e ρ H) >>= fun p => (f.l d r ρ p.2) >>= fun q => some (p.1 :: q.1, q.2)
noncomputable def stOr (f : Ev) : F4 (List ME) Loc (AV × AHeap) := fun d l ρ H => match l with
  | [] => none
  | e :: r => (f.e d e ρ H) >>= fun p => (truth p.1) >>= fun t => if t then some (.bool true, p.2) else match r with
    | [] => some (.bool false, p.2)
    | e' :: r' => f.or d (e' :: r') ρ p.2
noncomputable def stAnd (f : Ev) : F4 (List ME) Loc (AV × AHeap) := fun d l ρ H => match l with
  | [] => none
  | e :: r => (f.e d e ρ H) >>= fun p => (truth p.1) >>= fun t => if t then (match r with
    | [] => some (.bool true, p.2)
    | e' :: r' => f.and d (e' :: r') ρ p.2) else some (.bool false, p.2)
noncomputable def stI (f : Ev) : F4 MI Loc (Src × AHeap) := fun d it ρ H => match it with
  | .e e => (f.e d e ρ H) >>= fun p => match p.1 with
    | .tup l => some (.vals l, p.2)
    | v => (listAt p.2 v) >>= fun l => some (.lst l.1, p.2)
  | .range1 b => (f.e d b ρ H) >>= fun p => match p.1 with
    | .int n => if -1 ≤ n ∧ n < big then some (.vals (rints 0 n), p.2) else none
    | _ => none
  | .range2 a b => (f.e d a ρ H) >>= fun p => (f.e d b ρ p.2) >>= fun q => match p.1, q.1 with
    | .int m, .int n => if 0 ≤ m ∧ m < big ∧ -1 ≤ n ∧ n < big then some (.vals (rints m n), q.2) else none
    | _, _ => none
noncomputable def stS (f : Ev) : F4 MS Loc (Fl × Loc × AHeap) := fun d s ρ H => match s with
  | .asg x e => (f.e d e ρ H) >>= fun p => some (.next, ρ.set x (some p.1), p.2)
  | .sattr o n e => (f.e d e ρ H) >>= fun p => (f.e d o ρ p.2) >>= fun q => (instAt q.2 q.1) >>= fun c => if ¬ (c.2.2.length < big ∧ P.ats c.2.1 n = true) then none else
      some (.next, ρ, q.2.set c.1 (.inst c.2.1 (putAttr c.2.2 n p.1)))
  | .sitem o k e => (f.e d e ρ H) >>= fun p => (f.e d o ρ p.2) >>= fun q => (f.e d k ρ q.2) >>= fun r => (dictAt r.2 q.1) >>= fun es =>
      if keyFits P es.2 r.1 = true ∧ es.2.length < big then some (.next, ρ, r.2.set es.1 (.dict (dput es.2 r.1 p.1))) else none
  | .expr e => (f.e d e ρ H) >>= fun p => if isFlat p.1 = true then some (.next, ρ, p.2) else none
  | .ifs c a b => (f.e d c ρ H) >>= fun p => (truth p.1) >>= fun t => if t then f.ss d a ρ p.2 else f.ss d b ρ p.2
  | .for_ x it kill body => (f.i d it ρ H) >>= fun p => f.for d ((x, kill, body), p.1, 0) (killAll kill ρ) p.2
  | .while_ c kill body => f.wh d (c, kill, body) (killAll kill ρ) H
  | .ret e => (f.e d e ρ H) >>= fun p => some (.ret p.1, ρ, p.2)
  | .brk => some (.brk, ρ, H)
  | .stuck => none
noncomputable def stSs (f : Ev) : F4 (List MS) Loc (Fl × Loc × AHeap) := fun d l ρ H => match l with
  | [] => some (.next, ρ, H)
  | s :: r => (f.s d s ρ H) >>= fun p => match p.1 with
    | .next => f.ss d r p.2.1 p.2.2
    | f => some (f, p.2.1, p.2.2)
noncomputable def stFor (f : Ev) : F4 ((Nat × List Nat × List MS) × Src × Nat) Loc (Fl × Loc × AHeap) := fun d b ρ H =>
  (srcAt H b.2.1 b.2.2) >>= fun o => match o with
    | none => some (.next, ρ, H)
    | some v => (f.ss d b.1.2.2 (ρ.set b.1.1 (some v)) H) >>= fun r => match r.1 with
      | .next => f.for d (b.1, b.2.1, b.2.2 + 1) (killAll b.1.2.1 r.2.1) r.2.2
      | .brk => some (.next, killAll b.1.2.1 r.2.1, r.2.2)
      | .ret v => some (.ret v, r.2.1, r.2.2)
noncomputable def stWh (f : Ev) : F4 (ME × List Nat × List MS) Loc (Fl × Loc × AHeap) := fun d b ρ H =>
  (f.e d b.1 ρ H) >>= fun p => (truth p.1) >>= fun t => if t then (f.ss d b.2.2 ρ p.2) >>= fun r => match r.1 with
      | .next => f.wh d b (killAll b.2.1 r.2.1) r.2.2
      | .brk => some (.next, killAll b.2.1 r.2.1, r.2.2)
      | .ret v => some (.ret v, r.2.1, r.2.2) else some (.next, ρ, p.2)
noncomputable def stC (f : Ev) : F4 Nat (List AV) (AV × AHeap) := fun d g args H => match d with
  | 0 => none
  | d + 1 => (P.fn g) >>= fun fn => if args.length = fn.np then
      (f.ss d fn.body (args.map some ++ List.replicate (fn.nl - fn.np) none) H) >>= fun r => match r.1 with
        | .ret v => some (v, r.2.2)
        | .next => some (.none, r.2.2)
        | .brk => none
      else none
noncomputable def step (f : Ev) : Ev := ⟨stE P f, stL f, stOr f, stAnd f, stI f, stS P f, stSs f, stFor f, stWh f, stC P f⟩
open Lean.Order
set_option synthInstance.maxSize 4000
set_option synthInstance.maxHeartbeats 400000
theorem mono4 {A B R : Type} {g : Ev → F4 A B R} (h : ∀ d a b H, monotone fun f => g f d a b H) : monotone g :=
  monotone_of_monotone_apply _ fun d => monotone_of_monotone_apply _ fun a => monotone_of_monotone_apply _ fun b => monotone_of_monotone_apply _ fun H => h d a b H
theorem app4 {A B R : Type} {g : Ev → F4 A B R} (h : monotone g) (d : Nat) (a : A) (b : B) (H : AHeap) : monotone fun f => g f d a b H :=
  monotone_apply H _ (monotone_apply b _ (monotone_apply a _ (monotone_apply d _ h)))
theorem m_e : monotone Ev.e := PProd.monotone_fst monotone_id
theorem m_1 : monotone fun f : Ev => f.2 := PProd.monotone_snd monotone_id
theorem m_l : monotone Ev.l := PProd.monotone_fst m_1
theorem m_2 : monotone fun f : Ev => f.2.2 := PProd.monotone_snd m_1
theorem m_or : monotone Ev.or := PProd.monotone_fst m_2
theorem m_3 : monotone fun f : Ev => f.2.2.2 := PProd.monotone_snd m_2
theorem m_and : monotone Ev.and := PProd.monotone_fst m_3
theorem m_4 : monotone fun f : Ev => f.2.2.2.2 := PProd.monotone_snd m_3
theorem m_i : monotone Ev.i := PProd.monotone_fst m_4
theorem m_5 : monotone fun f : Ev => f.2.2.2.2.2 := PProd.monotone_snd m_4
theorem m_s : monotone Ev.s := PProd.monotone_fst m_5
theorem m_6 : monotone fun f : Ev => f.2.2.2.2.2.2 := PProd.monotone_snd m_5
theorem m_ss : monotone Ev.ss := PProd.monotone_fst m_6
theorem m_7 : monotone fun f : Ev => f.2.2.2.2.2.2.2 := PProd.monotone_snd m_6
theorem m_for : monotone Ev.for := PProd.monotone_fst m_7
theorem m_8 : monotone fun f : Ev => f.2.2.2.2.2.2.2.2 := PProd.monotone_snd m_7
theorem m_wh : monotone Ev.wh := PProd.monotone_fst m_8
theorem m_9 : monotone fun f : Ev => f.2.2.2.2.2.2.2.2.2 := PProd.monotone_snd m_8
theorem m_c : monotone Ev.c := m_9
theorem step_mono : monotone (step P) := by
  refine PProd.monotone_mk (mono4 fun d e ρ H => ?_) (PProd.monotone_mk (mono4 fun d e ρ H => ?_) (PProd.monotone_mk (mono4 fun d e ρ H => ?_) (PProd.monotone_mk (mono4 fun d e ρ H => ?_) (PProd.monotone_mk (mono4 fun d e ρ H => ?_)
    (PProd.monotone_mk (mono4 fun d e ρ H => ?_) (PProd.monotone_mk (mono4 fun d e ρ H => ?_) (PProd.monotone_mk (mono4 fun d e ρ H => ?_) (PProd.monotone_mk (mono4 fun d e ρ H => ?_) (mono4 fun d e ρ H => ?_)))))))))
  · cases e <;> dsimp only [stE] <;> repeat' (first | exact app4 m_e _ _ _ _ | exact app4 m_l _ _ _ _ | exact app4 m_or _ _ _ _ | exact app4 m_and _ _ _ _ | exact app4 m_i _ _ _ _ | exact app4 m_s _ _ _ _ | exact app4 m_ss _ _ _ _ | exact app4 m_for _ _ _ _ | exact app4 m_wh _ _ _ _ | exact app4 m_c _ _ _ _ | monotonicity)
  · cases e <;> dsimp only [stL] <;> repeat' (first | exact app4 m_e _ _ _ _ | exact app4 m_l _ _ _ _ | exact app4 m_or _ _ _ _ | exact app4 m_and _ _ _ _ | exact app4 m_i _ _ _ _ | exact app4 m_s _ _ _ _ | exact app4 m_ss _ _ _ _ | exact app4 m_for _ _ _ _ | exact app4 m_wh _ _ _ _ | exact app4 m_c _ _ _ _ | monotonicity)
  · cases e <;> dsimp only [stOr] <;> repeat' (first | exact app4 m_e _ _ _ _ | exact app4 m_l _ _ _ _ | exact app4 m_or _ _ _ _ | exact app4 m_and _ _ _ _ | exact app4 m_i _ _ _ _ | exact app4 m_s _ _ _ _ | exact app4 m_ss _ _ _ _ | exact app4 m_for _ _ _ _ | exact app4 m_wh _ _ _ _ | exact app4 m_c _ _ _ _ | monotonicity)
  · cases e <;> dsimp only [stAnd] <;> repeat' (first | exact app4 m_e _ _ _ _ | exact app4 m_l _ _ _ _ | exact app4 m_or _ _ _ _ | exact app4 m_and _ _ _ _ | exact app4 m_i _ _ _ _ | exact app4 m_s _ _ _ _ | exact app4 m_ss _ _ _ _ | exact app4 m_for _ _ _ _ | exact app4 m_wh _ _ _ _ | exact app4 m_c _ _ _ _ | monotonicity)
  · cases e <;> dsimp only [stI] <;> repeat' (first | exact app4 m_e _ _ _ _ | exact app4 m_l _ _ _ _ | exact app4 m_or _ _ _ _ | exact app4 m_and _ _ _ _ | exact app4 m_i _ _ _ _ | exact app4 m_s _ _ _ _ | exact app4 m_ss _ _ _ _ | exact app4 m_for _ _ _ _ | exact app4 m_wh _ _ _ _ | exact app4 m_c _ _ _ _ | monotonicity)
  · cases e <;> dsimp only [stS] <;> repeat' (first | exact app4 m_e _ _ _ _ | exact app4 m_l _ _ _ _ | exact app4 m_or _ _ _ _ | exact app4 m_and _ _ _ _ | exact app4 m_i _ _ _ _ | exact app4 m_s _ _ _ _ | exact app4 m_ss _ _ _ _ | exact app4 m_for _ _ _ _ | exact app4 m_wh _ _ _ _ | exact app4 m_c _ _ _ _ | monotonicity)
  · cases e <;> dsimp only [stSs] <;> repeat' (first | exact app4 m_e _ _ _ _ | exact app4 m_l _ _ _ _ | exact app4 m_or _ _ _ _ | exact app4 m_and _ _ _ _ | exact app4 m_i _ _ _ _ | exact app4 m_s _ _ _ _ | exact app4 m_ss _ _ _ _ | exact app4 m_for _ _ _ _ | exact app4 m_wh _ _ _ _ | exact app4 m_c _ _ _ _ | monotonicity)
  · unfold stFor; repeat' (first | exact app4 m_e _ _ _ _ | exact app4 m_l _ _ _ _ | exact app4 m_or _ _ _ _ | exact app4 m_and _ _ _ _ | exact app4 m_i _ _ _ _ | exact app4 m_s _ _ _ _ | exact app4 m_ss _ _ _ _ | exact app4 m_for _ _ _ _ | exact app4 m_wh _ _ _ _ | exact app4 m_c _ _ _ _ | monotonicity)
  · unfold stWh; repeat' (first | exact app4 m_e _ _ _ _ | exact app4 m_l _ _ _ _ | exact app4 m_or _ _ _ _ | exact app4 m_and _ _ _ _ | exact app4 m_i _ _ _ _ | exact app4 m_s _ _ _ _ | exact app4 m_ss _ _ _ _ | exact app4 m_for _ _ _ _ | exact app4 m_wh _ _ _ _ | exact app4 m_c _ _ _ _ | monotonicity)
  · cases d <;> dsimp only [stC] <;> repeat' (first | exact app4 m_e _ _ _ _ | exact app4 m_l _ _ _ _ | exact app4 m_or _ _ _ _ | exact app4 m_and _ _ _ _ | exact app4 m_i _ _ _ _ | exact app4 m_s _ _ _ _ | exact app4 m_ss _ _ _ _ | exact app4 m_for _ _ _ _ | exact app4 m_wh _ _ _ _ | exact app4 m_c _ _ _ _ | monotonicity)
noncomputable def evAll : Ev := fix (step P) (step_mono P)
theorem evAll_eq : evAll P = step P (evAll P) := fix_eq _
@[irreducible] noncomputable def evE (d : Nat) (e : ME) (ρ : Loc) (H : AHeap) : Option (AV × AHeap) := (evAll P).e d e ρ H
@[irreducible] noncomputable def evL (d : Nat) (l : List ME) (ρ : Loc) (H : AHeap) : Option (List AV × AHeap) := (evAll P).l d l ρ H
@[irreducible] noncomputable def evOr (d : Nat) (l : List ME) (ρ : Loc) (H : AHeap) : Option (AV × AHeap) := (evAll P).or d l ρ H
@[irreducible] noncomputable def evAnd (d : Nat) (l : List ME) (ρ : Loc) (H : AHeap) : Option (AV × AHeap) := (evAll P).and d l ρ H
@[irreducible] noncomputable def evI (d : Nat) (it : MI) (ρ : Loc) (H : AHeap) : Option (Src × AHeap) := (evAll P).i d it ρ H
@[irreducible] noncomputable def evS (d : Nat) (s : MS) (ρ : Loc) (H : AHeap) : Option (Fl × Loc × AHeap) := (evAll P).s d s ρ H
@[irreducible] noncomputable def evSs (d : Nat) (l : List MS) (ρ : Loc) (H : AHeap) : Option (Fl × Loc × AHeap) := (evAll P).ss d l ρ H
@[irreducible] noncomputable def evFor (d : Nat) (b : Nat × List Nat × List MS) (s : Src) (i : Nat) (ρ : Loc) (H : AHeap) : Option (Fl × Loc × AHeap) := (evAll P).for d (b, s, i) ρ H
@[irreducible] noncomputable def evWhile (d : Nat) (c : ME) (kill : List Nat) (body : List MS) (ρ : Loc) (H : AHeap) : Option (Fl × Loc × AHeap) := (evAll P).wh d (c, kill, body) ρ H
@[irreducible] noncomputable def callF (d : Nat) (f : Nat) (args : List AV) (H : AHeap) : Option (AV × AHeap) := (evAll P).c d f args H
/-- the evaluator, spelled out -/
noncomputable def ev' : Ev := ⟨evE P, evL P, evOr P, evAnd P, evI P, evS P, evSs P, fun d b => evFor P d b.1 b.2.1 b.2.2, fun d b => evWhile P d b.1 b.2.1 b.2.2, callF P⟩
theorem ev'_eq : evAll P = ev' P := by unfold ev' evE evL evOr evAnd evI evS evSs evFor evWhile callF; rfl
theorem ev_step : ev' P = step P (ev' P) := ev'_eq P ▸ evAll_eq P
end
end Mini
end

noncomputable section -- Rel
set_option autoImplicit false
set_option linter.unusedVariables false
set_option linter.unusedSimpArgs false
open PySem PySem.Calls PyProof.Rows
namespace Mini

/-- where an abstract object lies: its address, an instance's dict -/
structure Lc where
  a : Addr
  d : Option Addr
noncomputable def Lc.all (c : Lc) : List Addr := c.a :: c.d.toList
noncomputable def addrs (φ : List Lc) : List Addr := φ.flatMap Lc.all
theorem mem_addrs {φ : List Lc} {x : Addr} : x ∈ addrs φ ↔ ∃ c ∈ φ, x ∈ c.all := by simp [addrs, List.mem_flatMap]
theorem addrs_append (φ ψ : List Lc) : addrs (φ ++ ψ) = addrs φ ++ addrs ψ := by simp [addrs]
theorem addrs_one (c : Lc) : addrs [c] = c.all := by simp [addrs]

structure Tx where
  prog : Program
  w : World
  h₀ : Heap
  tbl : List Str
  cls : Nat → Addr
  fnA : Nat → Addr
  mg : Str → Option Value
  mb : Str → Option Value

mutual
inductive VR (X : Tx) (h : Heap) (φ : List Lc) : Value → AV → Prop
  | none : VR X h φ .none .none
  | bool (b : Bool) : VR X h φ (.bool b) (.bool b)
  | int (i : Int) (t : Tok) : VR X h φ (.int i t) (.int i)
  | sym {n : Nat} {x : Str} (t : Tok) : X.tbl[n]? = some x → VR X h φ (.str x t) (.sym n)
  | tup {a : Addr} {o : Obj} {items : Array Value} {n : Nat} {l : List AV} : h.get? a = some o → o.cls = .type "tuple" → o.data = .seq items n → VRs X h φ items.toList l → VR X h φ (.ref a) (.tup l)
  | obj {i : Nat} {c : Lc} : φ[i]? = some c → VR X h φ (.ref c.a) (.obj i)
  | flist {a : Addr} {o : Obj} {items : Array Value} {n : Nat} {l : List AV} : a ∉ addrs φ → h.get? a = some o → o.cls = .type "list" → o.data = .seq items n → VRs X h φ items.toList l → VR X h φ (.ref a) (.flist l)
inductive VRs (X : Tx) (h : Heap) (φ : List Lc) : List Value → List AV → Prop
  | nil : VRs X h φ [] []
  | cons {v : Value} {a : AV} {vs : List Value} {as : List AV} : VR X h φ v a → VRs X h φ vs as → VRs X h φ (v :: vs) (a :: as)
end

section
variable {X : Tx} {h h' : Heap} {φ φ' : List Lc}

theorem VRs.ind {M : List Value → List AV → Prop} (hn : M [] []) (hc : ∀ {v a vs as}, VR X h φ v a → VRs X h φ vs as → M vs as → M (v :: vs) (a :: as)) {vs : List Value} {l : List AV} (r : VRs X h φ vs l) : M vs l :=
  VRs.rec (motive_1 := fun _ _ _ => True) (motive_2 := fun vs l _ => M vs l) trivial (fun _ => trivial) (fun _ _ => trivial) (fun _ _ => trivial) (fun _ _ _ _ _ => trivial) (fun _ => trivial) (fun _ _ _ _ _ _ => trivial) hn (fun h1 h2 _ m => hc h1 h2 m) r
theorem VRs.toCons {vs : List Value} {a : AV} {l : List AV} (r : VRs X h φ vs (a :: l)) : ∃ v vs', vs = v :: vs' ∧ VR X h φ v a ∧ VRs X h φ vs' l := by
  cases r with | cons h1 h2 => exact ⟨_, _, rfl, h1, h2⟩
theorem VRs.to {vs : List Value} {l : List AV} (r : VRs X h φ vs l) : vs.length = l.length ∧ ∀ (i : Nat) (v : Value) (a : AV), vs[i]? = some v → l[i]? = some a → VR X h φ v a :=
  r.ind (M := fun vs l => vs.length = l.length ∧ ∀ (i : Nat) (v : Value) (a : AV), vs[i]? = some v → l[i]? = some a → VR X h φ v a) ⟨rfl, fun i v a e => nomatch e⟩ fun h1 _ m => ⟨congrArg Nat.succ m.1, fun i v a e1 e2 => match i with
    | 0 => Option.some.inj e1 ▸ Option.some.inj e2 ▸ h1
    | i + 1 => m.2 i v a e1 e2⟩
theorem VRs.of : ∀ {vs : List Value} {l : List AV}, vs.length = l.length → (∀ (i : Nat) (v : Value) (a : AV), vs[i]? = some v → l[i]? = some a → VR X h φ v a) → VRs X h φ vs l := by
  intro vs
  induction vs with
  | nil => intro l e _; cases l with | nil => exact .nil | cons a l => cases e
  | cons v vs ih => intro l e q; cases l with | nil => cases e | cons a l => exact .cons (q 0 v a rfl rfl) (ih (Nat.succ.inj e) fun i v a e1 e2 => q (i + 1) v a e1 e2)
theorem VRs.iff {vs : List Value} {l : List AV} : VRs X h φ vs l ↔ vs.length = l.length ∧ ∀ (i : Nat) (v : Value) (a : AV), vs[i]? = some v → l[i]? = some a → VR X h φ v a := ⟨fun r => r.to, fun q => .of q.1 q.2⟩
theorem VRs.length {vs : List Value} {l : List AV} (r : VRs X h φ vs l) : vs.length = l.length := (VRs.iff.mp r).1
theorem VRs.get {vs : List Value} {l : List AV} (r : VRs X h φ vs l) {i : Nat} {a : AV} (e : l[i]? = some a) : ∃ v, vs[i]? = some v ∧ VR X h φ v a := by
  obtain ⟨hl, q⟩ := VRs.iff.mp r
  have hi : i < vs.length := hl ▸ (List.getElem?_eq_some_iff.mp e).1
  exact ⟨vs[i], by simp [hi], q i _ _ (by simp [hi]) e⟩
theorem VRs.append {vs ws : List Value} {l r : List AV} (p : VRs X h φ vs l) (q : VRs X h φ ws r) : VRs X h φ (vs ++ ws) (l ++ r) :=
  p.ind (M := fun vs l => VRs X h φ (vs ++ ws) (l ++ r)) q fun h1 _ m => .cons h1 m
theorem VRs.sub {vs ws : List Value} {l r : List AV} (p : VRs X h φ vs l) (hl : ws.length = r.length) (f : Nat → Nat) (h1 : ∀ i, i < ws.length → ws[i]? = vs[f i]?) (h2 : ∀ i, i < r.length → r[i]? = l[f i]?) : VRs X h φ ws r := by
  refine VRs.iff.mpr ⟨hl, fun i v a e1 e2 => ?_⟩
  have i1 := (List.getElem?_eq_some_iff.mp e1).1
  have i2 := (List.getElem?_eq_some_iff.mp e2).1
  exact (VRs.iff.mp p).2 (f i) v a ((h1 i i1).symm.trans e1) ((h2 i i2).symm.trans e2)
theorem VRs.take {vs : List Value} {l : List AV} (p : VRs X h φ vs l) (n : Nat) : VRs X h φ (vs.take n) (l.take n) :=
  p.sub (by simp [p.length]) id (fun i hi => by simp at hi; simp [hi]) (fun i hi => by simp at hi; simp [hi])
theorem VRs.drop {vs : List Value} {l : List AV} (p : VRs X h φ vs l) (n : Nat) : VRs X h φ (vs.drop n) (l.drop n) :=
  p.sub (by simp [p.length]) (fun i => n + i) (fun i hi => by simp) (fun i hi => by simp)
theorem VRs.reverse {vs : List Value} {l : List AV} (p : VRs X h φ vs l) : VRs X h φ vs.reverse l.reverse :=
  p.sub (by simp [p.length]) (fun i => l.length - 1 - i) (fun i hi => by rw [List.length_reverse] at hi; rw [List.getElem?_reverse hi, p.length]) (fun i hi => by rw [List.length_reverse] at hi; rw [List.getElem?_reverse hi])
theorem VRs.dropLast {vs : List Value} {l : List AV} (p : VRs X h φ vs l) : VRs X h φ vs.dropLast l.dropLast := by
  rw [List.dropLast_eq_take, List.dropLast_eq_take, p.length]; exact p.take _

theorem VR.mono (ht : ∀ (a : Addr) (o : Obj) (items : Array Value) (n : Nat), h.get? a = some o → o.data = .seq items n → (o.cls = .type "tuple" ∨ a ∉ addrs φ) → h'.get? a = some o) (hφ : ∀ (i : Nat) (c : Lc), φ[i]? = some c → φ'[i]? = some c)
    (hn : ∀ (a : Addr) (o : Obj), h.get? a = some o → a ∉ addrs φ → a ∉ addrs φ') {v : Value} {a : AV} (r : VR X h φ v a) : VR X h' φ' v a :=
  VR.rec (motive_1 := fun v a _ => VR X h' φ' v a) (motive_2 := fun v a _ => VRs X h' φ' v a) .none .bool .int (fun t e => .sym t e) (fun e1 e2 e3 _ m => .tup (ht _ _ _ _ e1 e3 (.inl e2)) e2 e3 m) (fun e => .obj (hφ _ _ e))
    (fun e0 e1 e2 e3 _ m => .flist (hn _ _ e1 e0) (ht _ _ _ _ e1 e3 (.inr e0)) e2 e3 m) .nil (fun _ _ m1 m2 => .cons m1 m2) r
theorem VRs.mono (ht : ∀ (a : Addr) (o : Obj) (items : Array Value) (n : Nat), h.get? a = some o → o.data = .seq items n → (o.cls = .type "tuple" ∨ a ∉ addrs φ) → h'.get? a = some o) (hφ : ∀ (i : Nat) (c : Lc), φ[i]? = some c → φ'[i]? = some c)
    (hn : ∀ (a : Addr) (o : Obj), h.get? a = some o → a ∉ addrs φ → a ∉ addrs φ') {vs : List Value} {as : List AV} (r : VRs X h φ vs as) : VRs X h' φ' vs as :=
  r.ind .nil fun h1 _ m => .cons (h1.mono ht hφ hn) m
end

/-! ### objects -/
inductive All2 {α β : Type} (R : α → β → Prop) : List α → List β → Prop
  | nil : All2 R [] []
  | cons {a : α} {b : β} {as : List α} {bs : List β} : R a b → All2 R as bs → All2 R (a :: as) (b :: bs)
theorem All2.imp {α β : Type} {R S : α → β → Prop} (f : ∀ a b, R a b → S a b) {as : List α} {bs : List β} (r : All2 R as bs) : All2 S as bs :=
  All2.rec .nil (fun h _ m => .cons (f _ _ h) m) r
theorem All2.length {α β : Type} {R : α → β → Prop} {as : List α} {bs : List β} (r : All2 R as bs) : as.length = bs.length :=
  All2.rec rfl (fun _ _ m => congrArg Nat.succ m) r

noncomputable def DRs (X : Tx) (h : Heap) (φ : List Lc) (a : Addr) (es : List (AV × AV)) : Prop :=
  ∃ kvs : List (Str × Value), h.DictOf (strKind X.prog X.w) a kvs ∧ All2 (fun kv e => (∃ n, e.1 = AV.sym n ∧ X.tbl[n]? = some kv.1) ∧ VR X h φ kv.2 e.2) kvs es
noncomputable def DRi (X : Tx) (h : Heap) (φ : List Lc) (a : Addr) (es : List (AV × AV)) : Prop :=
  ∃ kvs : List (Int × Value), h.DictOf (intKind X.prog X.w) a kvs ∧ All2 (fun kv e => e.1 = AV.int kv.1 ∧ VR X h φ kv.2 e.2) kvs es
noncomputable def DRt (X : Tx) (h : Heap) (φ : List Lc) (a : Addr) (es : List (AV × AV)) : Prop :=
  ∃ xs : List (List Int × Addr × Value), h.DictOfH (tupleKind (intKind X.prog X.w)) a xs ∧ All2 (fun x e => e.1 = AV.tup (x.1.map AV.int) ∧ VR X h φ x.2.2 e.2) xs es

noncomputable def KindIs : Nat → AV → Prop
  | 0, .sym _ => True
  | 1, .int _ => True
  | 2, .tup l => l.all isInt = true
  | _, _ => False

noncomputable def AR (X : Tx) (h : Heap) (φ : List Lc) (mA : Str → Option Value) (ats : List (Nat × AV)) : Prop :=
  (∀ n v, ats.lookup n = some v → ∃ x rv, X.tbl[n]? = some x ∧ mA x = some rv ∧ VR X h φ rv v) ∧ (∀ x, mA x ≠ none → ∃ n, X.tbl[n]? = some x ∧ (ats.lookup n).isSome = true)

noncomputable def OR (X : Tx) (h : Heap) (φ : List Lc) (c : Lc) : AObj → Prop
  | .list l => c.d = none ∧ ∃ items n, IsL h c.a items n ∧ VRs X h φ items.toList l
  | .dict es => c.d = none ∧ (c.a == sysModules) = false ∧ (∃ o en ep, h.get? c.a = some o ∧ o.ExactDict ∧ o.data = .dict en ep) ∧
      ((∀ e ∈ es, KindIs 0 e.1) → DRs X h φ c.a es) ∧ ((∀ e ∈ es, KindIs 1 e.1) → DRi X h φ c.a es) ∧ ((∀ e ∈ es, KindIs 2 e.1) → DRt X h φ c.a es)
  | .inst k ats => ∃ dx o mA, c.d = some dx ∧ h.get? c.a = some o ∧ o.cls = .ref (X.cls k) ∧ o.dict = some dx ∧ (∀ cd, o.data ≠ .cls cd) ∧ h.Ns1 dx mA ∧ AR X h φ mA ats

/-- the abstract heap is borne -/
structure St (X : Tx) (φ : List Lc) (H : AHeap) (h : Heap) : Prop where
  len : φ.length = H.length
  keep : ∀ b o, X.h₀.get? b = some o → h.get? b = some o
  objs : ∀ (i : Nat) (c : Lc) (o : AObj), φ[i]? = some c → H[i]? = some o → OR X h φ c o
  nodup : (addrs φ).Nodup
  new : ∀ x ∈ addrs φ, X.h₀.get? x = none

structure Step (X : Tx) (φ : List Lc) (h : Heap) (φ' : List Lc) (H' : AHeap) (h' : Heap) : Prop where
  ext : ∃ ψ, φ' = φ ++ ψ ∧ ∀ x ∈ addrs ψ, h.get? x = none
  keep : ∀ b o, h.get? b = some o → b ∉ addrs φ → h'.get? b = some o
  st : St X φ' H' h'

section
variable {X : Tx} {h h' h'' : Heap} {φ φ' φ'' : List Lc} {H H' H'' : AHeap}

/-- every tracked address bears an object that is no tuple -/
theorem OR.at {c : Lc} {o : AObj} (r : OR X h φ c o) {x : Addr} (hx : x ∈ c.all) : ∃ ob, h.get? x = some ob ∧ ¬ (ob.cls = .type "tuple" ∧ ∃ items n, ob.data = .seq items n) := by
  cases o with
  | list l =>
    obtain ⟨hd, items, n, e, _⟩ := r
    simp [Lc.all, hd] at hx; subst hx
    exact ⟨_, e, by simp⟩
  | dict es =>
    obtain ⟨hd, _, ⟨o, en, ep, e, e1, e2⟩, _⟩ := r
    simp [Lc.all, hd] at hx; subst hx
    exact ⟨_, e, by simp [e1.1]⟩
  | inst k ats =>
    obtain ⟨dx, o, mA, hd, e, hc, _, _, hns, _⟩ := r
    simp [Lc.all, hd] at hx
    rcases hx with rfl | rfl
    · exact ⟨o, e, by simp [hc]⟩
    · obtain ⟨o', es, ep, e', ed, _⟩ := hns
      exact ⟨o', e', by simp [ed]⟩
theorem St.at (S : St X φ H h) {x : Addr} (hx : x ∈ addrs φ) : ∃ ob, h.get? x = some ob ∧ ¬ (ob.cls = .type "tuple" ∧ ∃ items n, ob.data = .seq items n) := by
  obtain ⟨c, hc, hx⟩ := mem_addrs.mp hx
  obtain ⟨i, hi⟩ := List.mem_iff_getElem?.mp hc
  have hlt : i < H.length := S.len ▸ (List.getElem?_eq_some_iff.mp hi).1
  exact (S.objs i c H[i] hi (by simp [hlt])).at hx
theorem St.notTup (S : St X φ H h) {x : Addr} {o : Obj} {items : Array Value} {n : Nat} (e : h.get? x = some o) (e1 : o.cls = .type "tuple") (e2 : o.data = .seq items n) : x ∉ addrs φ := fun hx => by
  obtain ⟨ob, e', q⟩ := S.at hx
  obtain rfl := Option.some.inj (e.symm.trans e')
  exact q ⟨e1, _, _, e2⟩

theorem Step.get (s : Step X φ h φ' H' h') {i : Nat} {c : Lc} (e : φ[i]? = some c) : φ'[i]? = some c := by
  obtain ⟨ψ, rfl, _⟩ := s.ext
  rw [List.getElem?_append_left (List.getElem?_eq_some_iff.mp e).1]; exact e
theorem Step.off (s : Step X φ h φ' H' h') {b : Addr} {o : Obj} (e : h.get? b = some o) (hb : b ∉ addrs φ) : b ∉ addrs φ' := by
  obtain ⟨ψ, rfl, q⟩ := s.ext
  rw [addrs_append, List.mem_append]
  rintro (x | x)
  · exact hb x
  · rw [q b x] at e; cases e
theorem Step.refl (S : St X φ H h) : Step X φ h φ H h := ⟨⟨[], by simp, by simp [addrs]⟩, fun _ _ e _ => e, S⟩
theorem Step.trans (p : Step X φ h φ' H' h') (q : Step X φ' h' φ'' H'' h'') : Step X φ h φ'' H'' h'' := by
  obtain ⟨ψ, e1, n1⟩ := p.ext
  obtain ⟨χ, e2, n2⟩ := q.ext
  refine ⟨⟨ψ ++ χ, by rw [e2, e1, List.append_assoc], fun x hx => ?_⟩, fun b o e hb => q.keep b o (p.keep b o e hb) (p.off e hb), q.st⟩
  rw [addrs_append, List.mem_append] at hx
  rcases hx with hx | hx
  · exact n1 x hx
  · cases ho : h.get? x with
    | none => rfl
    | some o =>
      have z := n2 x hx
      by_cases hm : x ∈ addrs φ
      · obtain ⟨ob, e', _⟩ := p.st.at (x := x) (by rw [e1, addrs_append]; exact List.mem_append.mpr (.inl hm))
        rw [z] at e'; cases e'
      · rw [p.keep x o ho hm] at z; cases z
theorem Step.vr (S : St X φ H h) (s : Step X φ h φ' H' h') {v : Value} {a : AV} (r : VR X h φ v a) : VR X h' φ' v a :=
  r.mono (fun x o items n e ed hc => s.keep x o e (hc.elim (fun hc => S.notTup e hc ed) id)) (fun i c e => s.get e) fun x o e hb => s.off e hb
theorem Step.vrs (S : St X φ H h) (s : Step X φ h φ' H' h') {v : List Value} {a : List AV} (r : VRs X h φ v a) : VRs X h' φ' v a :=
  r.mono (fun x o items n e ed hc => s.keep x o e (hc.elim (fun hc => S.notTup e hc ed) id)) (fun i c e => s.get e) fun x o e hb => s.off e hb

/-- an object that is not touched is borne on -/
theorem OR.mono {c : Lc} {o : AObj} (r : OR X h φ c o) (hk : ∀ x ∈ c.all, ∀ ob, h.get? x = some ob → h'.get? x = some ob) (hv : ∀ v a, VR X h φ v a → VR X h' φ' v a)
    (ht : ∀ (a : Addr) (o : Obj) (items : Array Value) (n : Nat), h.get? a = some o → o.data = .seq items n → o.cls = .type "tuple" → h'.get? a = some o) : OR X h' φ' c o := by
  have hvs : ∀ vs as, VRs X h φ vs as → VRs X h' φ' vs as := fun vs as p => VRs.iff.mpr ⟨p.length, fun i v a e1 e2 => hv _ _ ((VRs.iff.mp p).2 i v a e1 e2)⟩
  have ha : c.a ∈ c.all := List.mem_cons_self
  cases o with
  | list l =>
    obtain ⟨hd, items, n, e, p⟩ := r
    exact ⟨hd, items, n, hk _ ha _ e, hvs _ _ p⟩
  | dict es =>
    obtain ⟨hd, hm, ⟨o, en, ep, e, e1, e2⟩, p0, p1, p2⟩ := r
    refine ⟨hd, hm, ⟨o, en, ep, hk _ ha _ e, e1, e2⟩, fun q => ?_, fun q => ?_, fun q => ?_⟩
    · obtain ⟨kvs, ⟨o', es', ep', f1, f2⟩, g⟩ := p0 q
      exact ⟨kvs, ⟨o', es', ep', hk _ ha _ f1, f2⟩, g.imp fun a b z => ⟨z.1, hv _ _ z.2⟩⟩
    · obtain ⟨kvs, ⟨o', es', ep', f1, f2⟩, g⟩ := p1 q
      exact ⟨kvs, ⟨o', es', ep', hk _ ha _ f1, f2⟩, g.imp fun a b z => ⟨z.1, hv _ _ z.2⟩⟩
    · obtain ⟨xs, ⟨o', es', ep', f1, f2, f3, f4, f5, f6⟩, g⟩ := p2 q
      refine ⟨xs, ⟨o', es', ep', hk _ ha _ f1, f2, f3, f4, fun x hx => ?_, f6⟩, g.imp fun a b z => ⟨z.1, hv _ _ z.2⟩⟩
      obtain ⟨ot, items, n, t1, t2, t3, t4⟩ := f5 x hx
      exact ⟨ot, items, n, ht _ _ _ _ t1 t3 t2, t2, t3, t4⟩
  | inst k ats =>
    obtain ⟨dx, o, mA, hd, e, hc, hdd, hnc, hns, p1, p2⟩ := r
    refine ⟨dx, o, mA, hd, hk _ ha _ e, hc, hdd, hnc, hns.at fun ob e' => hk _ (by simp [Lc.all, hd]) _ e', fun n v q => ?_, p2⟩
    obtain ⟨x, rv, f1, f2, f3⟩ := p1 n v q
    exact ⟨x, rv, f1, f2, hv _ _ f3⟩

theorem addrs_set_ne {φ : List Lc} (hn : (addrs φ).Nodup) : ∀ {i j : Nat} {c e : Lc}, φ[i]? = some c → φ[j]? = some e → i ≠ j → ∀ x ∈ c.all, x ∉ e.all := by
  induction φ with
  | nil => intro i j c e h1; simp at h1
  | cons k φ ih =>
    intro i j c e h1 h2 hij x hx hx'
    have hn' : (k.all ++ addrs φ).Nodup := by simpa [addrs] using hn
    obtain ⟨n1, n2, n3⟩ := List.nodup_append.mp hn'
    cases i with
    | zero =>
      cases j with
      | zero => exact hij rfl
      | succ j =>
        simp at h1 h2; subst h1
        exact n3 x hx x (mem_addrs.mpr ⟨e, List.mem_of_getElem? h2, hx'⟩) rfl
    | succ i =>
      cases j with
      | zero =>
        simp at h1 h2; subst h2
        exact n3 x hx' x (mem_addrs.mpr ⟨c, List.mem_of_getElem? h1, hx⟩) rfl
      | succ j =>
        simp at h1 h2
        exact ih n2 h1 h2 (fun z => hij (by rw [z])) x hx hx'

theorem St.same (S : St X φ H h) (hk : ∀ b o, h.get? b = some o → h'.get? b = some o) : Step X φ h φ H h' := by
  refine ⟨⟨[], by simp, by simp [addrs]⟩, fun b o e _ => hk b o e, ⟨S.len, fun b o e => hk _ _ (S.keep b o e), fun i c o h1 h2 => ?_, S.nodup, S.new⟩⟩
  exact (S.objs i c o h1 h2).mono (fun x _ ob e => hk _ _ e) (fun v a r => r.mono (fun x o _ _ e _ _ => hk _ _ e) (fun _ _ e => e) fun _ _ _ hb => hb) fun x o _ _ e _ _ => hk _ _ e

theorem St.upd (S : St X φ H h) {i : Nat} {c : Lc} {o : AObj} (hi : φ[i]? = some c) (hk : ∀ b ob, h.get? b = some ob → b ∉ c.all → h'.get? b = some ob)
    (ho : (∀ v a, VR X h φ v a → VR X h' φ v a) → OR X h' φ c o) : Step X φ h φ (H.set i o) h' := by
  have hsub : ∀ x ∈ c.all, x ∈ addrs φ := fun x hx => mem_addrs.mpr ⟨c, List.mem_of_getElem? hi, hx⟩
  have hk' : ∀ b ob, h.get? b = some ob → b ∉ addrs φ → h'.get? b = some ob := fun b ob e hb => hk b ob e fun z => hb (hsub b z)
  have ht : ∀ (a : Addr) (o : Obj) (items : Array Value) (n : Nat), h.get? a = some o → o.data = .seq items n → o.cls = .type "tuple" → h'.get? a = some o := fun a o items n e ed ec => hk' a o e (S.notTup e ec ed)
  have hv : ∀ v a, VR X h φ v a → VR X h' φ v a := fun v a r => r.mono (fun x o items n e ed hc => hc.elim (fun hc => ht x o items n e ed hc) fun hb => hk' x o e hb) (fun _ _ e => e) fun _ _ _ hb => hb
  refine ⟨⟨[], by simp, by simp [addrs]⟩, hk', ⟨by rw [List.length_set]; exact S.len, fun b ob e => ?_, fun j e ob h1 h2 => ?_, S.nodup, S.new⟩⟩
  · exact hk' _ _ (S.keep b ob e) fun z => by rw [S.new b z] at e; cases e
  · by_cases hij : i = j
    · subst hij
      obtain rfl := Option.some.inj (hi.symm.trans h1)
      have hlt : i < H.length := S.len ▸ (List.getElem?_eq_some_iff.mp hi).1
      rw [List.getElem?_set_self hlt] at h2
      cases h2; exact ho hv
    · rw [List.getElem?_set_ne hij] at h2
      refine (S.objs j e ob h1 h2).mono (fun x hx ob' e' => hk _ _ e' fun z => addrs_set_ne S.nodup hi h1 hij x z hx) hv ht

theorem St.new' (S : St X φ H h) {c : Lc} {o : AObj} (hk : ∀ b ob, h.get? b = some ob → h'.get? b = some ob) (hn : ∀ x ∈ c.all, h.get? x = none) (nd : c.all.Nodup)
    (ho : (∀ v a, VR X h φ v a → VR X h' (φ ++ [c]) v a) → OR X h' (φ ++ [c]) c o) : Step X φ h (φ ++ [c]) (H ++ [o]) h' := by
  have off : ∀ b ob, h.get? b = some ob → b ∉ addrs φ → b ∉ addrs (φ ++ [c]) := fun b ob e hb => by
    rw [addrs_append, List.mem_append, addrs_one]
    rintro (z | z)
    · exact hb z
    · rw [hn b z] at e; cases e
  have hv : ∀ v a, VR X h φ v a → VR X h' (φ ++ [c]) v a := fun v a r => r.mono (fun x o _ _ e _ _ => hk _ _ e) (fun i k e => by rw [List.getElem?_append_left (List.getElem?_eq_some_iff.mp e).1]; exact e) off
  refine ⟨⟨[c], rfl, fun x hx => hn x (by rwa [addrs_one] at hx)⟩, fun b o e _ => hk b o e, ⟨by simp [S.len], fun b o e => hk _ _ (S.keep b o e), fun i k ob h1 h2 => ?_, ?_, fun x hx => ?_⟩⟩
  · by_cases hi : i < φ.length
    · rw [List.getElem?_append_left hi] at h1
      rw [List.getElem?_append_left (S.len ▸ hi)] at h2
      exact (S.objs i k ob h1 h2).mono (fun x _ ob e => hk _ _ e) hv fun x o _ _ e _ _ => hk _ _ e
    · have hi2 : i = φ.length := by
        have := (List.getElem?_eq_some_iff.mp h1).1
        simp at this; omega
      subst hi2
      simp at h1; subst h1
      rw [S.len] at h2
      simp at h2; subst h2
      exact ho hv
  · rw [addrs_append, addrs_one]
    refine List.nodup_append.mpr ⟨S.nodup, nd, fun x hx y hy e => ?_⟩
    subst e
    obtain ⟨ob, e, _⟩ := S.at hx
    rw [hn x hy] at e; cases e
  · rw [addrs_append, List.mem_append, addrs_one] at hx
    rcases hx with hx | hx
    · exact S.new x hx
    · cases q : X.h₀.get? x with
      | none => rfl
      | some ob => have := S.keep _ _ q; rw [hn x hx] at this; cases this
end
end Mini
end

noncomputable section -- Prim1
set_option autoImplicit false
set_option linter.unusedVariables false
set_option linter.unusedSimpArgs false
open PySem PySem.Calls PyProof.Rows PySem.W
namespace Mini

/-! ### data as the library reads it -/
mutual
noncomputable def enc (T : List Str) : AV → PyData
  | .none => .none
  | .bool b => .bool b
  | .int i => .int i
  | .sym n => .str (T.getD n Str.empty)
  | .tup l => .tuple (encs T l)
  | .obj _ => .none
  | .flist _ => .none
noncomputable def encs (T : List Str) : List AV → List PyData
  | [] => []
  | a :: l => enc T a :: encs T l
end

structure TblOk (X : Tx) (P : Prg) : Prop where
  syms : P.syms = X.tbl.length
  nodup : X.tbl.Nodup
  ok : ∀ x ∈ X.tbl, PyData.strOk x = true

section
variable {X : Tx} {P : Prg} {h : Heap} {φ : List Lc} (O : TblOk X P)
theorem TblOk.getD (O : TblOk X P) {n : Nat} {x : Str} (e : X.tbl[n]? = some x) : X.tbl.getD n Str.empty = x := by simp [List.getD, e]
theorem TblOk.inj (O : TblOk X P) {m n : Nat} (hm : m < P.syms) (hn : n < P.syms) (e : X.tbl.getD m Str.empty = X.tbl.getD n Str.empty) : m = n := by
  rw [O.syms] at hm hn
  simp [List.getD, hm, hn] at e
  exact (List.getElem_inj O.nodup).mp e
theorem TblOk.inj' (O : TblOk X P) {m n : Nat} {x : Str} (e1 : X.tbl[m]? = some x) (e2 : X.tbl[n]? = some x) : m = n := by
  obtain ⟨h1, r1⟩ := List.getElem?_eq_some_iff.mp e1
  obtain ⟨h2, r2⟩ := List.getElem?_eq_some_iff.mp e2
  exact (List.getElem_inj O.nodup).mp (r1.trans r2.symm)

theorem reads_both (O : TblOk X P) : (∀ {v : Value} {a : AV}, VR X h φ v a → ∀ n, eqOk P n a = true → Reads h v (enc X.tbl a) []) ∧ ∀ {vs : List Value} {as : List AV}, VRs X h φ vs as → ∀ n, eqOks P n as = true → ReadsAll h vs (encs X.tbl as) [] := by
  have no : ∀ {n : Nat} {a : AV} {p : Prop}, (∀ n, eqOk P n a = false) → eqOk P n a = true → p := fun e h => by rw [e] at h; cases h
  constructor <;> intro v a r <;> refine r.rec (motive_1 := fun v a _ => ∀ n, eqOk P n a = true → Reads h v (enc X.tbl a) []) (motive_2 := fun vs as _ => ∀ n, eqOks P n as = true → ReadsAll h vs (encs X.tbl as) []) (fun _ _ => .none) (fun b n e => no (fun n => by unfold eqOk; rfl) e) (fun i t _ _ => .int i t) (fun t e _ _ => by rw [enc, O.getD e]; exact .str _ t)
    (fun e1 e2 e3 _ m n e => ?_) (fun _ n e => no (fun n => by unfold eqOk; rfl) e) (fun _ _ _ _ _ _ n e => no (fun n => by unfold eqOk; rfl) e) (fun _ _ => .nil) (fun _ _ m1 m2 n e => ?_)
  all_goals first
    | (rw [eqOks, Bool.and_eq_true] at e; exact .cons (as := []) (bs := []) (m1 n e.1) (m2 n e.2))
    | (cases n with
      | zero => unfold eqOk at e; cases e
      | succ n => rw [eqOk] at e; exact .tuple e1 e2 e3 (m n e))
theorem reads_enc (O : TblOk X P) (n : Nat) {v : Value} {a : AV} (e : eqOk P n a = true) (r : VR X h φ v a) : Reads h v (enc X.tbl a) [] := (reads_both O).1 r n e
theorem reads_encs (O : TblOk X P) (n : Nat) {vs : List Value} {as : List AV} (e : eqOks P n as = true) (r : VRs X h φ vs as) : ReadsAll h vs (encs X.tbl as) [] := (reads_both O).2 r n e

mutual
theorem shape_enc (O : TblOk X P) : ∀ (n : Nat) (a : AV), eqOk P n a = true → (enc X.tbl a).canLay0 = true ∧ (enc X.tbl a).depth ≤ n
  | n, .none, _ => by simp [enc, PyData.canLay0, PyData.depth]
  | n, .int i, _ => by simp [enc, PyData.canLay0, PyData.depth]
  | n, .sym k, e => by
    simp [eqOk, O.syms] at e
    simp [enc, PyData.canLay0, PyData.depth, List.getD, e]
    exact O.ok _ (List.getElem_mem _)
  | n, .bool b, e => by simp [eqOk] at e
  | n, .obj i, e => by simp [eqOk] at e
  | n, .flist i, e => by simp [eqOk] at e
  | 0, .tup l, e => by simp [eqOk] at e
  | n + 1, .tup l, e => by
    have := shape_encs O n l (by simpa [eqOk] using e)
    simp [enc, PyData.canLay0, PyData.depth, this.1]; have := this.2; omega
theorem shape_encs (O : TblOk X P) : ∀ (n : Nat) (l : List AV), eqOks P n l = true → PyData.canLayAll0 (encs X.tbl l) = true ∧ PyData.depthAll (encs X.tbl l) ≤ n
  | n, [], _ => by simp [encs, PyData.canLayAll0, PyData.depthAll]
  | n, a :: l, e => by
    rw [eqOks, Bool.and_eq_true] at e
    have h1 := shape_enc O n a e.1
    have h2 := shape_encs O n l e.2
    simp [encs, PyData.canLayAll0, PyData.depthAll, h1.1, h2.1]
    have := h1.2; have := h2.2; omega
end

mutual
theorem eqv_enc (O : TblOk X P) : ∀ (n m : Nat) (a b : AV), eqOk P n a = true → eqOk P m b = true → (PyData.eqv (enc X.tbl a) (enc X.tbl b) = true ↔ a = b)
  | n, m, .none, b, _, e => by cases b <;> simp_all [eqOk, enc, PyData.eqv]
  | n, m, .int i, b, _, e => by cases b <;> simp_all [eqOk, enc, PyData.eqv]
  | n, m, .sym i, b, e1, e => by
    cases b with
    | sym j =>
      simp only [enc, PyData.eqv, beq_iff_eq, AV.sym.injEq]
      simp only [eqOk, decide_eq_true_eq] at e e1
      exact ⟨O.inj e1 e, fun q => by rw [q]⟩
    | _ => simp_all [eqOk, enc, PyData.eqv]
  | n, m, .bool b, _, e, _ => by simp [eqOk] at e
  | n, m, .obj i, _, e, _ => by simp [eqOk] at e
  | n, m, .flist i, _, e, _ => by simp [eqOk] at e
  | 0, m, .tup l, _, e, _ => by simp [eqOk] at e
  | n + 1, m, .tup l, b, e1, e => by
    cases b with
    | tup r =>
      cases m with
      | zero => simp [eqOk] at e
      | succ m =>
        have := eqv_encs O n m l r (by simpa [eqOk] using e1) (by simpa [eqOk] using e)
        simp [enc, PyData.eqv, this]
    | _ => simp_all [eqOk, enc, PyData.eqv]
theorem eqv_encs (O : TblOk X P) : ∀ (n m : Nat) (a b : List AV), eqOks P n a = true → eqOks P m b = true → (PyData.eqvAll (encs X.tbl a) (encs X.tbl b) = true ↔ a = b)
  | n, m, [], [], _, _ => by simp [encs, PyData.eqvAll]
  | n, m, [], _ :: _, _, _ => by simp [encs, PyData.eqvAll]
  | n, m, _ :: _, [], _, _ => by simp [encs, PyData.eqvAll]
  | n, m, a :: l, b :: r, e1, e2 => by
    rw [eqOks, Bool.and_eq_true] at e1 e2
    have h1 := eqv_enc O n m a b e1.1 e2.1
    have h2 := eqv_encs O n m l r e1.2 e2.2
    simp [encs, PyData.eqvAll, h1, h2]
end
end
end Mini
end

noncomputable section -- Prim2
set_option autoImplicit false
set_option linter.unusedVariables false
set_option linter.unusedSimpArgs false
open PySem PySem.Calls PyProof.Rows PySem.W
namespace Mini

structure ClsOk (X : Tx) (P : Prg) (c : Nat) : Prop where
  ex : ∃ N mN, ClsAt X.h₀ (X.cls c) N mN ∧ mN "__getattribute__" = none ∧ mN "__getattr__" = none ∧ mN "__setattr__" = none ∧
    (∀ f, P.init c = some f → mN "__init__" = some (.ref (X.fnA f))) ∧
    (∀ n f, P.meth c n = some f → ∃ x, X.tbl[n]? = some x ∧ mN x = some (.ref (X.fnA f)) ∧ ∃ y, typeLookup (.type "object") x = pure y) ∧
    (∀ n, P.ats c n = true → ∃ x, X.tbl[n]? = some x ∧ mN x = none ∧ typeLookup (.type "object") x = pure none)

structure Txt (X : Tx) (P : Prg) : Prop where
  T : TblOk X P
  cls : ∀ c, (P.init c).isSome = true → ClsOk X P c
  ini : ∀ c n, P.ats c n = true → (P.init c).isSome = true
  inm : ∀ c n f, P.meth c n = some f → (P.init c).isSome = true
  g : X.h₀.Ns mainGlobals X.mg
  b : X.h₀.Ns builtinsNs X.mb
  lim : X.h₀.NoLimit
  seer : X.h₀.NoSeer

section
variable {X : Tx} {P : Prg} {A : Around} {E : Value → Shared → Prop} {s : Shared} {φ : List Lc} {H : AHeap}

theorem VR.handed {h : Heap} {v : Value} {a : AV} (r : VR X h φ v a) : handedOut v = pure v := by
  refine handedOut_of ?_
  cases r <;> rfl

theorem VR.toInt {h : Heap} {v : Value} {i : Int} (r : VR X h φ v (.int i)) : ∃ t, v = .int i t := by cases r; exact ⟨_, rfl⟩
theorem VR.toBool {h : Heap} {v : Value} {b : Bool} (r : VR X h φ v (.bool b)) : v = .bool b := by cases r; rfl
theorem VR.toNone {h : Heap} {v : Value} (r : VR X h φ v .none) : v = .none := by cases r; rfl
theorem VR.toSym {h : Heap} {v : Value} {n : Nat} (r : VR X h φ v (.sym n)) : ∃ x t, v = .str x t ∧ X.tbl[n]? = some x := by cases r; exact ⟨_, _, rfl, by assumption⟩
theorem VR.toObj {h : Heap} {v : Value} {i : Nat} (r : VR X h φ v (.obj i)) : ∃ c, v = .ref c.a ∧ φ[i]? = some c := by cases r; exact ⟨_, rfl, by assumption⟩
theorem VR.toTup {h : Heap} {v : Value} {l : List AV} (r : VR X h φ v (.tup l)) : ∃ a o items n, v = .ref a ∧ h.get? a = some o ∧ o.cls = .type "tuple" ∧ o.data = .seq items n ∧ VRs X h φ items.toList l := by
  cases r; exact ⟨_, _, _, _, rfl, by assumption, by assumption, by assumption, by assumption⟩
theorem VR.toFlist {h : Heap} {v : Value} {l : List AV} (r : VR X h φ v (.flist l)) : ∃ a o items n, v = .ref a ∧ a ∉ addrs φ ∧ h.get? a = some o ∧ o.cls = .type "list" ∧ o.data = .seq items n ∧ VRs X h φ items.toList l := by
  cases r; exact ⟨_, _, _, _, rfl, by assumption, by assumption, by assumption, by assumption, by assumption⟩

theorem St.lt {h : Heap} (S : St X φ H h) {i : Nat} {c : Lc} (e : φ[i]? = some c) : i < H.length := S.len ▸ (List.getElem?_eq_some_iff.mp e).1
theorem St.list {h : Heap} (S : St X φ H h) {i : Nat} {c : Lc} {l : List AV} (e : φ[i]? = some c) (eh : H[i]? = some (.list l)) : c.d = none ∧ ∃ items n, IsL h c.a items n ∧ VRs X h φ items.toList l := S.objs i c _ e eh
theorem St.inst {h : Heap} (S : St X φ H h) {i k : Nat} {c : Lc} {ats : List (Nat × AV)} (e : φ[i]? = some c) (eh : H[i]? = some (.inst k ats)) : OR X h φ c (.inst k ats) := S.objs i c _ e eh

theorem inst_of {h : Heap} {c : Lc} {k : Nat} {ats : List (Nat × AV)} (S : St X φ H h) (hc : c ∈ φ) (r : OR X h φ c (.inst k ats)) : ∃ dx mA, c.d = some dx ∧ h.Inst c.a (X.cls k) mA ∧ AR X h φ mA ats ∧ ∃ o, h.get? c.a = some o ∧ o.dict = some dx := by
  obtain ⟨dx, o, mA, hd, e, hcl, hdd, hnc, hns, hA⟩ := r
  refine ⟨dx, mA, hd, ⟨o, e, hcl, hnc, .inr ⟨dx, hdd, ?_, hns⟩⟩, hA, o, e, hdd⟩
  have nd := S.nodup
  obtain ⟨i, hi⟩ := List.mem_iff_getElem?.mp hc
  have : c.all.Nodup := by
    have : List.Sublist c.all (addrs φ) := by
      obtain ⟨l, r, e⟩ := List.append_of_mem hc
      rw [e, addrs_append]
      simp only [addrs, List.flatMap_cons]
      exact (List.sublist_append_left _ _).trans (List.sublist_append_right _ _)
    exact this.nodup nd
  simp [Lc.all, hd] at this
  exact fun z => this z.symm

/-! #### attributes -/
theorem p_attr (W : Txt X P) (S : St X φ H s.heap) {rv : Value} {v r : AV} {n : Nat} {x : Str} {expr : Bool} {Q : Value → Shared → Prop} (hv : VR X s.heap φ rv v) (e : attrOf P H v n = some r) (hx : X.tbl[n]? = some x)
    (h : ∀ rv', VR X s.heap φ rv' r → Q rv' { s with toks := s.toks + 1 }) : wpAny (model X.prog X.w) A (getAttr rv x expr) Q E s := by
  cases v with
  | obj i =>
    obtain ⟨c, rfl, hc⟩ := hv.toObj
    simp only [attrOf] at e
    split at e
    · rename_i k ats eh
      split at e
      · rename_i ha
        obtain ⟨dx, mA, hd, I, ⟨p1, _⟩, _⟩ := inst_of S (List.mem_of_getElem? hc) (S.objs i c _ hc eh)
        obtain ⟨x', rv', e1, e2, e3⟩ := p1 n r e
        obtain rfl := Option.some.inj (hx.symm.trans e1)
        obtain ⟨N, mN, X₀, hg, _, _, _, _, hat⟩ := (W.cls k (W.ini k n ha)).ex
        obtain ⟨x', e4, e5, e6⟩ := hat n ha
        obtain rfl := Option.some.inj (hx.symm.trans e4)
        obtain ⟨hh, g, d, t, os⟩ := s
        obtain ⟨nm, q, bs, sn, sub, col, dd, k0, k1, k2, k3, k5, hC⟩ := (X₀.keeps S.keep).obj
        exact load_attr hC (X₀.keeps S.keep).ns hg e5 e6 I e2 e3.handed (h _ e3)
      · cases e
    · cases e
  | _ => cases e

theorem mem_of_lookup {m : Nat} {u : AV} : ∀ {l : List (Nat × AV)}, l.lookup m = some u → (m, u) ∈ l
  | [], h => by simp at h
  | (a, b) :: l, h => by
    simp only [List.lookup] at h
    split at h
    · rename_i z; cases h; simp at z; subst z; exact .head _
    · exact .tail _ (mem_of_lookup h)
theorem lookup_putAttr (ats : List (Nat × AV)) (n m : Nat) (v : AV) : (putAttr ats n v).lookup m = if m = n then some v else ats.lookup m := by
  unfold putAttr
  split
  · rename_i h
    induction ats with
    | nil => simp at h
    | cons p ats ih =>
      obtain ⟨k, u⟩ := p
      by_cases hk : k = n
      · subst hk
        by_cases hm : m = k
        · subst hm; simp [List.lookup]
        · have hb : (m == k) = false := by simpa using hm
          simp only [List.map_cons, if_pos, List.lookup, hb, if_neg hm]
          have : ∀ l : List (Nat × AV), (l.map fun e => if e.1 = k then (e.1, v) else e).lookup m = l.lookup m := by
            intro l
            induction l with
            | nil => rfl
            | cons q l ihl =>
              obtain ⟨a, b⟩ := q
              by_cases ha : a = k
              · subst ha; simp only [List.map_cons, if_pos, List.lookup, hb]; exact ihl
              · simp only [List.map_cons, if_neg ha, List.lookup]; rw [ihl]
          exact this ats
      · have hb : (n == k) = false := by simp; exact fun z => hk z.symm
        simp only [List.lookup, hb] at h
        simp only [List.map_cons, if_neg hk, List.lookup]
        by_cases hm : m = k
        · subst hm; simp [hk]
        · have hb' : (m == k) = false := by simpa using hm
          rw [hb']; exact ih h
  · rename_i h
    rw [List.lookup_append]
    by_cases hm : m = n
    · subst hm
      simp only [Option.not_isSome_iff_eq_none] at h
      simp [h, List.lookup]
    · have hb' : (m == n) = false := by simpa using hm
      simp [hm, List.lookup, hb']

theorem p_sattr (W : Txt X P) (S : St X φ H s.heap) {rv ro : Value} {v o : AV} {n i k : Nat} {ats : List (Nat × AV)} {x : Str} {Q : Unit → Shared → Prop} (hv : VR X s.heap φ rv v) (ho : VR X s.heap φ ro o) (e : instAt H o = some (i, k, ats))
    (hl : ats.length < big) (ha : P.ats k n = true) (hx : X.tbl[n]? = some x)
    (h : ∀ h' tk, Step X φ s.heap φ (H.set i (.inst k (putAttr ats n v))) h' → Q () { s with heap := h', toks := tk }) : wpAny (model X.prog X.w) A (setAttr ro x rv) Q E s := by
  cases o with
  | obj j =>
    obtain ⟨c, rfl, hc⟩ := ho.toObj
    simp only [instAt] at e
    split at e
    · rename_i k' ats' eh
      simp only [Option.some.injEq, Prod.mk.injEq] at e
      obtain ⟨rfl, rfl, rfl⟩ := e
      obtain ⟨dx, mA, hd, I, ⟨p1, p2⟩, ⟨o₀, eo, edx⟩⟩ := inst_of S (List.mem_of_getElem? hc) (S.objs j c _ hc eh)
      obtain ⟨N, mN, X₀, hg, _, hns, _, _, hat⟩ := (W.cls k' (W.ini k' n ha)).ex
      obtain ⟨x', e4, e5, e6⟩ := hat n ha
      obtain rfl := Option.some.inj (hx.symm.trans e4)
      obtain ⟨hh, g, d, t, os⟩ := s
      obtain ⟨nm, q, bs, sn, sub, col, dd, k0, k1, k2, k3, k5, hC⟩ := (X₀.keeps S.keep).obj
      obtain ⟨_, _, _, _, _, _, _, _, _, _, _, _, hC₀⟩ := X₀.obj
      have hxC : c.a ≠ X.cls k' := fun z => by
        have := S.new c.a (mem_addrs.mpr ⟨c, List.mem_of_getElem? hc, List.mem_cons_self⟩)
        rw [z, hC₀] at this; cases this
      refine store_attr PySem.F.store_object hC (X₀.keeps S.keep).ns hns e5 e6 hxC I (ns := ats'.map fun p => X.tbl.getD p.1 Str.empty) (fun h' tk' I' hk hsame => ?_) ?_ ?_
      · refine h h' tk' (S.upd hc (fun b ob eb hb => ?_) fun mono => ?_)
        · simp [Lc.all, hd] at hb
          exact hk b ob hb.1 (fun o₁ d₁ z1 z2 => by obtain rfl := Option.some.inj (eo.symm.trans z1); obtain rfl := Option.some.inj (edx.symm.trans z2); exact hb.2) eb
        · obtain ⟨o₁, q1, q2, q3, q4, q5⟩ := hsame o₀ eo
          obtain ⟨o₂, r1, r2, r3, r4⟩ := I'
          obtain rfl := Option.some.inj (q1.symm.trans r1)
          rcases r4 with ⟨z, _⟩ | ⟨d₂, z, _, r5⟩
          · rw [q5 _ edx] at z; cases z
          · obtain rfl := Option.some.inj ((q5 _ edx).symm.trans z)
            refine ⟨dx, o₁, _, hd, q1, r2, q5 _ edx, r3, r5, fun m u hm => ?_, fun y hy => ?_⟩
            · rw [lookup_putAttr] at hm
              split at hm
              · rename_i z; subst z
                cases hm
                exact ⟨x, rv, hx, by simp, mono _ _ hv⟩
              · rename_i z
                obtain ⟨y, rv', f1, f2, f3⟩ := p1 m u hm
                refine ⟨y, rv', f1, ?_, mono _ _ f3⟩
                show (if y = x then _ else _) = _
                rw [if_neg (fun (q : y = x) => z (by subst q; exact W.T.inj' f1 hx)), f2]
            · by_cases hyx : y = x
              · subst hyx; exact ⟨n, hx, by rw [lookup_putAttr]; simp⟩
              · simp only [if_neg hyx] at hy
                obtain ⟨m, f1, f2⟩ := p2 y hy
                refine ⟨m, f1, ?_⟩
                rw [lookup_putAttr]
                split
                · rfl
                · exact f2
      · intro y hy
        obtain ⟨m, f1, f2⟩ := p2 y hy
        obtain ⟨u, hu⟩ := Option.isSome_iff_exists.mp f2
        have : (m, u) ∈ ats' := mem_of_lookup hu
        exact List.mem_map.mpr ⟨_, this, by simp [List.getD, f1]⟩
      · rw [List.length_map, sizeLine_eq]; unfold big at hl; omega
    · cases e
  | _ => cases e

/-! #### methods -/
theorem p_meth (W : Txt X P) (S : St X φ H s.heap) {ro : Value} {o : AV} {n i k f : Nat} {ats : List (Nat × AV)} {x : Str} {pl : Sem Bool} {of : Obj} {Q : Value × List Value → Shared → Prop} (ho : VR X s.heap φ ro o) (e : instAt H o = some (i, k, ats))
    (hl : (ats.lookup n).isSome = false) (hm : P.meth k n = some f) (hx : X.tbl[n]? = some x) (hf : X.h₀.get? (X.fnA f) = some of) (hfc : of.cls = .type "function")
    (h : Q (.ref (X.fnA f), [ro]) s) : wpAny (model X.prog X.w) A (getMethod ro x pl) Q E s := by
  cases o with
  | obj j =>
    obtain ⟨c, rfl, hc⟩ := ho.toObj
    simp only [instAt] at e
    split at e
    · rename_i k' ats' eh
      simp only [Option.some.injEq, Prod.mk.injEq] at e
      obtain ⟨rfl, rfl, rfl⟩ := e
      obtain ⟨dx, mA, hd, I, ⟨p1, p2⟩, _⟩ := inst_of S (List.mem_of_getElem? hc) (S.objs j c _ hc eh)
      obtain ⟨N, mN, X₀, hg, hga, hns, _, hmt, _⟩ := (W.cls k' (W.inm k' n f hm)).ex
      obtain ⟨x', e4, e5, y, e6⟩ := hmt n f hm
      obtain rfl := Option.some.inj (hx.symm.trans e4)
      obtain ⟨hh, g, d, t, os⟩ := s
      obtain ⟨nm, q, bs, sn, sub, col, dd, k0, k1, k2, k3, k5, hC⟩ := (X₀.keeps S.keep).obj
      refine method_of hC (X₀.keeps S.keep).ns hg hga e5 (S.keep _ _ hf) hfc e6 I ?_ h
      cases hmA : mA x with
      | none => rfl
      | some u =>
        obtain ⟨m, f1, f2⟩ := p2 x (by rw [hmA]; simp)
        obtain rfl := W.T.inj' f1 hx
        rw [hl] at f2; cases f2
    · cases e
  | _ => cases e
end
end Mini
end

noncomputable section -- Prim3
set_option autoImplicit false
set_option linter.unusedVariables false
set_option linter.unusedSimpArgs false
open PySem PySem.Calls PyProof.Rows PySem.W
namespace Mini
noncomputable def opOf : Bop → Operator
  | .add => .Add
  | .sub => .Sub
  | .mul => .Mult
  | .mod => .Mod
  | .fdiv => .FloorDiv
noncomputable def copOf : Cop → CmpOp
  | .eq => .Eq
  | .ne => .NotEq
  | .lt => .Lt
  | .gt => .Gt
  | .ge => .GtE
  | .isin => .In
  | .notin => .NotIn

section
variable {X : Tx} {P : Prg} {A : Around} {E : Value → Shared → Prop} {s : Shared} {φ : List Lc} {H : AHeap}

/-! #### keys of dicts -/
theorem keyFits_kind {es : List (AV × AV)} {k : AV} (h : keyFits P es k = true) : ∃ j, KindIs j k ∧ j < 3 ∧ (∀ e ∈ es, KindIs j e.1) ∧ (∀ n, k = .sym n → n < P.syms) := by
  unfold keyFits at h
  rw [Bool.and_eq_true] at h
  obtain ⟨h1, h2⟩ := h
  obtain ⟨j, hj⟩ := Option.isSome_iff_exists.mp h1
  rw [hj] at h2
  have key : ∀ (a : AV) (j : Nat), keyKind P a = some j → KindIs j a ∧ j < 3 ∧ (∀ n, a = .sym n → n < P.syms) := by
    intro a j e
    cases a with
    | sym n => simp only [keyKind] at e; split at e <;> cases e; rename_i h; exact ⟨trivial, by decide, fun m q => by cases q; exact h⟩
    | int i => cases e; exact ⟨trivial, by decide, fun m q => by cases q⟩
    | tup l =>
      simp only [keyKind] at e
      split at e
      · rename_i h; cases e; exact ⟨h, by decide, fun m q => by cases q⟩
      · cases e
    | _ => cases e
  refine ⟨j, (key k j hj).1, (key k j hj).2.1, fun e he => ?_, (key k j hj).2.2⟩
  have := List.all_eq_true.mp h2 e he
  exact (key e.1 j (by simpa using this)).1

theorem ints_of_all {h : Heap} {l : List AV} {vs : List Value} (e : l.all isInt = true) (r : VRs X h φ vs l) : ∃ ks : List Int, l = ks.map AV.int ∧ ItemsAre (intKind X.prog X.w) ks vs := by
  refine VRs.ind (M := fun vs l => l.all isInt = true → ∃ ks : List Int, l = ks.map AV.int ∧ ItemsAre (intKind X.prog X.w) ks vs) (fun _ => ⟨[], rfl, .nil⟩) (fun {v a vs l} h1 h2 m e => ?_) r e
  rw [List.all_cons, Bool.and_eq_true] at e
  obtain ⟨ks, rfl, r⟩ := m e.2
  cases a with
  | int i =>
    obtain ⟨t, rfl⟩ := h1.toInt
    exact ⟨i :: ks, rfl, .cons (intKind_is _ _ _ _) r⟩
  | _ => cases e.1

theorem mapInt_inj {a b : List Int} (h : a.map AV.int = b.map AV.int) : a = b := List.map_inj_right (fun _ _ e => AV.int.inj e) |>.mp h

/-! ##### the three kinds, looked up -/
theorem look_str {h : Heap} (O : TblOk X P) {kvs : List (Str × Value)} {es : List (AV × AV)} {n : Nat} {x : Str} (hx : X.tbl[n]? = some x)
    (r : All2 (fun kv e => (∃ m, e.1 = AV.sym m ∧ X.tbl[m]? = some kv.1) ∧ VR X h φ kv.2 e.2) kvs es) :
    (∀ v, dlook es (.sym n) = some v → ∃ rv, valueAt kvs x = some rv ∧ VR X h φ rv v) ∧ (dlook es (.sym n) = none → valueAt kvs x = none) := by
  induction r with
  | nil => exact ⟨fun v e => (nomatch e), fun _ => rfl⟩
  | @cons kv e kvs es h1 h2 ih =>
    obtain ⟨⟨m, em, ex⟩, hv⟩ := h1
    by_cases hm : m = n
    · subst hm
      obtain rfl : x = kv.1 := Option.some.inj (hx.symm.trans ex)
      simp only [dlook, List.find?, em, valueAt]
      refine ⟨fun v q => ?_, fun q => by simp at q⟩
      simp at q; subst q
      exact ⟨kv.2, by simp, hv⟩
    · have e1 : ¬ e.1 = AV.sym n := by rw [em]; simpa using hm
      have e2 : ¬ kv.1 = x := fun q => hm (O.inj' ex (by rw [q]; exact hx))
      simpa only [dlook, List.find?, e1, e2, valueAt, decide_false] using ih
theorem look_int {h : Heap} {kvs : List (Int × Value)} {es : List (AV × AV)} {n : Int}
    (r : All2 (fun kv e => e.1 = AV.int kv.1 ∧ VR X h φ kv.2 e.2) kvs es) :
    (∀ v, dlook es (.int n) = some v → ∃ rv, valueAt kvs n = some rv ∧ VR X h φ rv v) ∧ (dlook es (.int n) = none → valueAt kvs n = none) := by
  induction r with
  | nil => exact ⟨fun v e => (nomatch e), fun _ => rfl⟩
  | @cons kv e kvs es h1 h2 ih =>
    obtain ⟨em, hv⟩ := h1
    by_cases hm : kv.1 = n
    · subst hm
      simp only [dlook, List.find?, em, valueAt]
      refine ⟨fun v q => ?_, fun q => by simp at q⟩
      simp at q; subst q
      exact ⟨kv.2, by simp, hv⟩
    · have e1 : ¬ e.1 = AV.int n := by rw [em]; simpa using hm
      simpa only [dlook, List.find?, e1, hm, valueAt, decide_false] using ih
theorem look_tup {h : Heap} {xs : List (List Int × Addr × Value)} {es : List (AV × AV)} {ks : List Int}
    (r : All2 (fun x e => e.1 = AV.tup (x.1.map AV.int) ∧ VR X h φ x.2.2 e.2) xs es) :
    (∀ v, dlook es (.tup (ks.map AV.int)) = some v → ∃ p, atKey xs ks = some p ∧ VR X h φ p.2 v) ∧ (dlook es (.tup (ks.map AV.int)) = none → atKey xs ks = none) := by
  induction r with
  | nil => exact ⟨fun v e => (nomatch e), fun _ => rfl⟩
  | @cons x e xs es h1 h2 ih =>
    obtain ⟨em, hv⟩ := h1
    by_cases hm : x.1 = ks
    · subst hm
      simp only [dlook, List.find?, em, atKey]
      refine ⟨fun v q => ?_, fun q => by simp at q⟩
      simp at q; subst q
      exact ⟨x.2, by simp, hv⟩
    · have e1 : ¬ e.1 = AV.tup (ks.map AV.int) := by rw [em]; intro q; exact hm (mapInt_inj (by simpa using q))
      simpa only [dlook, List.find?, e1, hm, atKey, decide_false] using ih

theorem dict_of {h : Heap} (S : St X φ H h) {i : Nat} {c : Lc} {es : List (AV × AV)} (hc : φ[i]? = some c) (eh : H[i]? = some (.dict es)) : OR X h φ c (.dict es) := S.objs i c _ hc eh

/-- a look into a dict by key: what the library asks -/
theorem key_cases {h : Heap} (O : TblOk X P) {c : Lc} {es : List (AV × AV)} {rk : Value} {k : AV} (R : OR X h φ c (.dict es)) (hk : VR X h φ rk k) (hf : keyFits P es k = true) :
    (∃ n x t kvs, k = .sym n ∧ rk = .str x t ∧ X.tbl[n]? = some x ∧ h.DictOf (strKind X.prog X.w) c.a kvs ∧ All2 (fun kv e => (∃ m, e.1 = AV.sym m ∧ X.tbl[m]? = some kv.1) ∧ VR X h φ kv.2 e.2) kvs es) ∨
    (∃ n t kvs, k = .int n ∧ rk = .int n t ∧ h.DictOf (intKind X.prog X.w) c.a kvs ∧ All2 (fun kv e => e.1 = AV.int kv.1 ∧ VR X h φ kv.2 e.2) kvs es) ∨
    (∃ ks a xs, k = .tup (ks.map AV.int) ∧ rk = .ref a ∧ IsTupleKey (intKind X.prog X.w) h ks a ∧ h.DictOfH (tupleKind (intKind X.prog X.w)) c.a xs ∧ All2 (fun x e => e.1 = AV.tup (x.1.map AV.int) ∧ VR X h φ x.2.2 e.2) xs es) := by
  obtain ⟨j, hj, hlt, hall, _⟩ := keyFits_kind hf
  obtain ⟨_, _, _, p0, p1, p2⟩ := R
  match j, hj, hall with
  | 0, hj, hall =>
    cases k with
    | sym n =>
      obtain ⟨x, t, rfl, hx⟩ := hk.toSym
      obtain ⟨kvs, d, r⟩ := p0 hall
      exact .inl ⟨n, x, t, kvs, rfl, rfl, hx, d, r⟩
    | _ => cases hj
  | 1, hj, hall =>
    cases k with
    | int n =>
      obtain ⟨t, rfl⟩ := hk.toInt
      obtain ⟨kvs, d, r⟩ := p1 hall
      exact .inr (.inl ⟨n, t, kvs, rfl, rfl, d, r⟩)
    | _ => cases hj
  | 2, hj, hall =>
    cases k with
    | tup l =>
      obtain ⟨a, o, items, n, rfl, e1, e2, e3, r⟩ := hk.toTup
      obtain ⟨ks, rfl, hi⟩ := ints_of_all hj r
      obtain ⟨xs, d, r⟩ := p2 hall
      exact .inr (.inr ⟨ks, a, xs, rfl, rfl, ⟨o, items, n, e1, e2, e3, hi⟩, d, r⟩)
    | _ => cases hj
  | j + 3, _, _ => omega

/-! #### subscripts -/
theorem idx_some {i : Int} {l : List AV} {v : AV} (e : idx i l = some v) : 0 ≤ i ∧ i < 2 ^ 62 ∧ l[i.toNat]? = some v := by
  unfold idx at e
  split at e
  · rename_i h; exact ⟨h.1, h.2, e⟩
  · cases e

theorem p_sub (W : Txt X P) (S : St X φ H s.heap) (hu : A.units + 2 < cLine) {value slice : Expr} {rv ri : Value} {v i r : AV} {Q : Value → Shared → Prop} (hv : VR X s.heap φ rv v) (hi : VR X s.heap φ ri i) (e : subOf P H v i = some r)
    (hs : subscripted slice false rv ri = operate [rv, ri] (getItem rv ri))
    (h : ∀ rv' tk, VR X s.heap φ rv' r → Q rv' { s with toks := tk }) : wpAny (model X.prog X.w) A (subscriptTail value slice rv ri) Q E s := by
  cases v with
  | tup l =>
    cases i with
    | int k =>
      obtain ⟨h0, h1, h2⟩ := idx_some e
      obtain ⟨t, rfl⟩ := hi.toInt
      obtain ⟨a, o, items, n, rfl, e1, e2, e3, rr⟩ := hv.toTup
      obtain ⟨x, hx, hr⟩ := rr.get h2
      have hlen : k.toNat < items.toList.length := (List.getElem?_eq_some_iff.mp hx).1
      refine tail_any (T := "tuple") ⟨o, e1, e2⟩ slot_tuple_getitem.lookup (getItem_tuple (t := a) (items := items) (j := k.toNat) (x := x) ⟨o, e1, e2, n, e3⟩ (by omega) (by omega) ?_ (by simpa using hx) (h x s.toks hr)) hs
      exact seqIndex_of h0 (by simp at hlen; omega)
    | _ => cases e
  | obj j =>
    obtain ⟨c, rfl, hc⟩ := hv.toObj
    simp only [subOf] at e
    split at e
    · rename_i l eh
      cases i with
      | int k =>
        obtain ⟨h0, h1, h2⟩ := idx_some e
        obtain ⟨t, rfl⟩ := hi.toInt
        obtain ⟨_, items, n, e1, rr⟩ := S.list hc eh
        obtain ⟨x, hx, hr⟩ := rr.get h2
        exact tail_any (T := "list") ⟨_, e1, rfl⟩ slot_list_getitem.lookup (wpAny_getItem_list e1.isList h0 (by omega) (by simpa using hx) (h x s.toks hr)) hs
      | _ => cases e
    · rename_i es eh
      split at e
      · rename_i hf
        have R := dict_of S hc eh
        obtain ⟨o, en, ep, d1, d2, d3⟩ := R.2.2.1
        refine tail_any (T := "dict") ⟨o, d1, d2.1⟩ slot_dict_getitem.lookup ?_ hs
        rcases key_cases W.T R hi hf with ⟨n, x, t, kvs, rfl, rfl, hx, D, r⟩ | ⟨n, t, kvs, rfl, rfl, D, r⟩ | ⟨ks, a, xs, rfl, rfl, hkey, D, r⟩
        · obtain ⟨rv, q1, q2⟩ := (look_str W.T hx r).1 _ e
          exact wpAny_getItem_of (strKind_is _ _ x t) D.mapOf q1 (h _ _ q2)
        · obtain ⟨rv, q1, q2⟩ := (look_int r).1 _ e
          exact wpAny_getItem_of (intKind_is _ _ n t) D.mapOf q1 (h _ _ q2)
        · obtain ⟨p, q1, q2⟩ := (look_tup r).1 _ e
          exact wpAny_getItem_heap (knd := tupleKind (intKind X.prog X.w)) (by show A.units + 1 < cLine; omega) hkey D q1 (h _ _ q2)
      · cases e
    · cases e
  | _ => cases e

/-! #### the int operations -/
theorem p_bin (W : Txt X P) (S : St X φ H s.heap) (hd : A.depth + Builtin.pylongFrames < recursionLimit) {o : Bop} {op : Operator} {ra rb : Value} {a b r : AV} {Q : Value → Shared → Prop} (ha : VR X s.heap φ ra a) (hb : VR X s.heap φ rb b) (e : binOf o a b = some r)
    (ho : op = opOf o)
    (hs : SeerAt (model X.prog X.w) A s.heap)
    (h : ∀ rv' tk, VR X s.heap φ rv' r → Q rv' { s with toks := tk }) : wpAny (model X.prog X.w) A (binaryOp op ra rb) Q E s := by
  subst ho
  cases a with
  | int x =>
    cases b with
    | int y =>
      obtain ⟨t, rfl⟩ := ha.toInt
      obtain ⟨u, rfl⟩ := hb.toInt
      cases o with
      | add => cases e; exact PyProof.Rows.add_int (h _ _ (.int _ _))
      | sub => cases e; exact PyProof.Rows.sub_int (h _ _ (.int _ _))
      | mul =>
        simp only [binOf] at e
        split at e
        · rename_i hx
          cases e
          refine PyProof.Rows.mul_int (h _ _ (.int _ _)) ?_
          exact PySem.IntMulOk.of_left (PySem.intBits_le_64 (by omega) (by omega))
        · cases e
      | mod =>
        simp only [binOf] at e
        split at e
        · rename_i hx; cases e
          exact PyProof.Rows.mod_int' (by omega) (h _ _ (.int _ _))
        · cases e
      | fdiv =>
        simp only [binOf] at e
        split at e
        · rename_i hx; cases e
          exact PyProof.Rows.floordiv_int (by omega) (h _ _ (.int _ _)) (.inr (PySem.PylongRoom.of (W.lim.keeps S.keep) hd hs))
        · cases e
    | _ => cases e
  | _ => cases b <;> cases e
end
end Mini
end

noncomputable section -- Prim4
set_option autoImplicit false
set_option linter.unusedVariables false
set_option linter.unusedSimpArgs false
open PySem PySem.Calls PyProof.Rows PySem.W
namespace Mini

section
variable {X : Tx} {P : Prg} {A : Around} {E : Value → Shared → Prop} {s : Shared} {φ : List Lc} {H : AHeap}

/-! #### comparisons -/
theorem notIn_of_in {M : Model} {a c : Value} {Q : Value → Shared → Prop} (h : wpAny M A (compareOp .In a c) (fun v s' => ∀ b, v = .bool b → Q (.bool (!b)) s') E s) : wpAny M A (compareOp .NotIn a c) Q E s := fun Γ p hΓ => by
  have := h Γ p hΓ
  change Sem.wp M Γ (contains c a >>= fun b => pure (Value.bool b)) _ _ p s at this
  rw [Sem.wp_bind'] at this
  show Sem.wp M Γ (contains c a >>= fun b => pure (Value.bool (!b))) _ _ p s
  rw [Sem.wp_bind']
  exact Sem.wp_mono M Γ _ (fun b p' s' h' => h' b rfl) (fun _ _ _ h' => h') p s this

/-- what == is told over: the two trees of data -/
theorem deepEq_data (O : TblOk X P) (S : St X φ H s.heap) {ra rb : Value} {a b : AV} {t : Bool} (ha : VR X s.heap φ ra a) (hb : VR X s.heap φ rb b) (e : deepEq P H a b = some t) :
    ∃ da db as bs, Reads s.heap ra da as ∧ Reads s.heap rb db bs ∧ da.canLay0 = true ∧ da.depth ≤ 5 ∧ db.canLay0 = true ∧ db.depth ≤ 5 ∧ PyData.eqv da db = t := by
  have plain : ∀ (a b : AV), (eqOk P 4 a && eqOk P 4 b) = true → VR X s.heap φ ra a → VR X s.heap φ rb b → decide (a = b) = t →
      ∃ da db as bs, Reads s.heap ra da as ∧ Reads s.heap rb db bs ∧ da.canLay0 = true ∧ da.depth ≤ 5 ∧ db.canLay0 = true ∧ db.depth ≤ 5 ∧ PyData.eqv da db = t := by
    intro a b h ha hb et
    rw [Bool.and_eq_true] at h
    have s1 := shape_enc O 4 a h.1
    have s2 := shape_enc O 4 b h.2
    refine ⟨_, _, _, _, reads_enc O 4 h.1 ha, reads_enc O 4 h.2 hb, s1.1, by have := s1.2; omega, s2.1, by have := s2.2; omega, ?_⟩
    rw [← et]
    by_cases q : a = b
    · rw [decide_eq_true q]; exact (eqv_enc O 4 4 a b h.1 h.2).mpr q
    · rw [decide_eq_false q]; exact Bool.eq_false_iff.mpr fun z => q ((eqv_enc O 4 4 a b h.1 h.2).mp z)
  unfold deepEq at e
  split at e
  · rename_i i j
    split at e
    · rename_i l r e1 e2
      split at e
      · rename_i h
        rw [Bool.and_eq_true] at h
        obtain ⟨c, rfl, hc⟩ := ha.toObj
        obtain ⟨k, rfl, hk⟩ := hb.toObj
        obtain ⟨_, xs, n, q1, q2⟩ := S.list hc e1
        obtain ⟨_, ys, m, q3, q4⟩ := S.list hk e2
        have s1 := shape_encs O 4 l h.1
        have s2 := shape_encs O 4 r h.2
        refine ⟨.list (encs X.tbl l), .list (encs X.tbl r), _, _, reads_list_at q1 rfl rfl (reads_encs O 4 h.1 q2), reads_list_at q3 rfl rfl (reads_encs O 4 h.2 q4), by simpa [PyData.canLay0] using s1.1, by simp [PyData.depth]; exact s1.2,
          by simpa [PyData.canLay0] using s2.1, by simp [PyData.depth]; exact s2.2, ?_⟩
        obtain rfl := Option.some.inj e
        have z := eqv_encs O 4 4 l r h.1 h.2
        simp only [PyData.eqv]
        by_cases q : l = r
        · rw [decide_eq_true q]; exact z.mpr q
        · rw [decide_eq_false q]; exact Bool.eq_false_iff.mpr fun w => q (z.mp w)
      · cases e
    · cases e
  · cases ha.toBool; cases hb.toBool; cases e
    exact ⟨_, _, _, _, .bool _, .bool _, rfl, by simp [PyData.depth], rfl, by simp [PyData.depth], by simp [PyData.eqv]⟩
  · split at e
    · rename_i h
      exact plain a b h ha hb (Option.some.inj e)
    · cases e

theorem anyEq_data (O : TblOk X P) (S : St X φ H s.heap) {rx : Value} {x : AV} (hx : VR X s.heap φ rx x) : ∀ {l : List AV} {vs : List Value} {t : Bool}, VRs X s.heap φ vs l → anyEq P H x l = some t → l ≠ [] →
    ∃ ds d as bs, ReadsAll s.heap vs ds as ∧ Reads s.heap rx d bs ∧ PyData.canLayAll0 ds = true ∧ PyData.depthAll ds ≤ 5 ∧ d.canLay0 = true ∧ d.depth ≤ 5 ∧ (ds.any fun y => PyData.eqv y d) = t := by
  intro l
  induction l with
  | nil => intro vs t _ _ h; exact absurd rfl h
  | cons a l ih =>
    intro vs t r e _
    obtain ⟨v, vs, rfl, h1, h2⟩ := r.toCons
    rw [anyEq] at e
    obtain ⟨u, q, e'⟩ := Option.bind_eq_some_iff.mp e
    obtain ⟨w, q2, ew⟩ := Option.map_eq_some_iff.mp e'
    clear e e'
    obtain ⟨da, db, as, bs, r1, r2, c1, d1, c2, d2, e1⟩ := deepEq_data O S h1 hx q
    cases l with
    | nil =>
      cases h2; cases q2
      exact ⟨[da], db, _, bs, .cons r1 .nil, r2, by rw [PyData.canLayAll0, c1]; rfl, Nat.max_le.mpr ⟨d1, Nat.zero_le _⟩, c2, d2, by rw [← ew, ← e1]; rfl⟩
    | cons a' l =>
      obtain ⟨ds, d, as', bs', p1, p2, p3, p4, p5, p6, p7⟩ := ih h2 q2 (List.cons_ne_nil _ _)
      obtain rfl : db = d := (Reads.unique r2 _ _ p2).1
      exact ⟨da :: ds, db, _, bs, .cons r1 p1, r2, by rw [PyData.canLayAll0, c1, p3]; rfl, Nat.max_le.mpr ⟨d1, p4⟩, c2, d2, by rw [List.any_cons, e1, p7]; exact ew⟩

theorem p_cmp (W : Txt X P) (S : St X φ H s.heap) (hu : A.units + 100 < cLine) {o : Cop} {op : CmpOp} {ra rb : Value} {a b : AV} {r : Bool} {Q : Value → Shared → Prop} (ha : VR X s.heap φ ra a) (hb : VR X s.heap φ rb b) (e : cmpOf P H o a b = some r)
    (ho : op = copOf o)
    (h : ∀ tk, Q (.bool r) { s with toks := tk }) : wpAny (model X.prog X.w) A (compareOp op ra rb) Q E s := by
  have inn : ∀ (r : Bool) (Q : Value → Shared → Prop), inOf P H a b = some r → (∀ tk, Q (.bool r) { s with toks := tk }) → wpAny (model X.prog X.w) A (compareOp .In ra rb) Q E s := by
    intro r Q e h
    unfold inOf at e
    split at e
    · rename_i i
      obtain ⟨c, rfl, hc⟩ := hb.toObj
      split at e
      · rename_i l eh
        obtain ⟨_, xs, n, q1, q2⟩ := S.list hc eh
        cases l with
        | nil =>
          cases e
          have hx : xs.toList = [] := by cases hh : xs.toList with | nil => rfl | cons _ _ => rw [hh] at q2; cases q2
          have hx' : xs = #[] := by rw [← Array.toArray_toList (xs := xs), hx]
          subst hx'
          exact SeqAt.in_listAt (fun _ => false) q1.isList (fun y hy => by simp at hy) (by simpa using h s.toks)
        | cons a' l =>
          obtain ⟨ds, d, as, bs, p1, p2, p3, p4, p5, p6, p7⟩ := anyEq_data W.T S ha q2 e (by simp)
          refine SeqAt.in_list_reads (reads_list_at q1 rfl rfl p1) p2 p3 p5 ?_ (by rw [p7]; exact h s.toks)
          have := Nat.min_le_right (PyData.depthAll ds) d.depth
          omega
      · rename_i es eh
        split at e
        · rename_i hf
          cases e
          have R := dict_of S hc eh
          have hm : (c.a == sysModules) = false := R.2.1
          rcases key_cases W.T R ha hf with ⟨n, x, t, kvs, rfl, rfl, hx, D, r⟩ | ⟨n, t, kvs, rfl, rfl, D, r⟩ | ⟨ks, a', xs, rfl, rfl, hkey, D, r⟩
          · refine wpAny_in_of (strKind_is _ _ x t) hm D.mapOf ?_
            have z := look_str W.T hx r
            cases q : dlook es (.sym n) with
            | none => rw [z.2 q]; rw [q] at h; exact h _
            | some v => obtain ⟨rv, q1, _⟩ := z.1 _ q; rw [q1]; rw [q] at h; exact h _
          · refine wpAny_in_of (intKind_is _ _ n t) hm D.mapOf ?_
            have z := look_int (n := n) r
            cases q : dlook es (.int n) with
            | none => rw [z.2 q]; rw [q] at h; exact h _
            | some v => obtain ⟨rv, q1, _⟩ := z.1 _ q; rw [q1]; rw [q] at h; exact h _
          · refine wpAny_in_heap (knd := tupleKind (intKind X.prog X.w)) (by show A.units + 1 < cLine; omega) hkey hm D ?_
            have z := look_tup (ks := ks) r
            cases q : dlook es (.tup (ks.map AV.int)) with
            | none => rw [z.2 q]; rw [q] at h; exact h _
            | some v => obtain ⟨rv, q1, _⟩ := z.1 _ q; rw [q1]; rw [q] at h; exact h _
        · cases e
      · cases e
    · cases e
  subst ho
  cases o with
  | eq =>
    obtain ⟨da, db, as, bs, r1, r2, c1, d1, c2, d2, e1⟩ := deepEq_data W.T S ha hb e
    refine SeqAt.compareEq_shaped r1 r2 ?_ ?_ (by omega) (by rw [e1]; exact h s.toks)
    · unfold SeqAt.shaped; rw [c1, Bool.true_and]; exact decide_eq_true (by omega)
    · unfold SeqAt.shaped; rw [c2, Bool.true_and]; exact decide_eq_true (by omega)
  | ne =>
    simp only [cmpOf] at e
    obtain ⟨u, eu, er⟩ := Option.map_eq_some_iff.mp e
    obtain ⟨da, db, as, bs, r1, r2, c1, d1, c2, d2, e1⟩ := deepEq_data W.T S ha hb eu
    refine SeqAt.compareNe_shaped r1 r2 ?_ ?_ (by omega) (by rw [e1, er]; exact h s.toks)
    · unfold SeqAt.shaped; rw [c1, Bool.true_and]; exact decide_eq_true (by omega)
    · unfold SeqAt.shaped; rw [c2, Bool.true_and]; exact decide_eq_true (by omega)
  | lt =>
    simp only [cmpOf] at e
    split at e
    · obtain ⟨t, rfl⟩ := ha.toInt
      obtain ⟨u, rfl⟩ := hb.toInt
      cases e; exact PyProof.Rows.lt_int (h s.toks)
    · cases e
  | gt =>
    simp only [cmpOf] at e
    split at e
    · obtain ⟨t, rfl⟩ := ha.toInt
      obtain ⟨u, rfl⟩ := hb.toInt
      cases e; exact PyProof.Rows.gt_int (h s.toks)
    · cases e
  | ge =>
    simp only [cmpOf] at e
    split at e
    · obtain ⟨t, rfl⟩ := ha.toInt
      obtain ⟨u, rfl⟩ := hb.toInt
      cases e; exact PyProof.Rows.ge_int (h s.toks)
    · cases e
  | isin => exact inn r Q e h
  | notin =>
    simp only [cmpOf] at e
    obtain ⟨u, eu, er⟩ := Option.map_eq_some_iff.mp e
    exact notIn_of_in (inn u _ eu fun tk b eb => by cases eb; rw [er]; exact h tk)
end
end Mini
end

noncomputable section -- Prim5
set_option autoImplicit false
set_option linter.unusedVariables false
set_option linter.unusedSimpArgs false
open PySem PySem.Calls PyProof.Rows PySem.W
namespace Mini

section
variable {X : Tx} {P : Prg} {A : Around} {E : Value → Shared → Prop} {s : Shared} {φ : List Lc} {H : AHeap} {h h' : Heap}

/-! #### new objects -/
theorem get_none_size (h : Heap) : h.get? h.objs.size = none := by
  cases q : h.get? h.objs.size with
  | none => rfl
  | some o => exact absurd (Heap.lt_size q) (Nat.lt_irrefl _)
theorem St.last (S : St X φ H h) (c : Lc) : (φ ++ [c])[H.length]? = some c := by rw [← S.len]; simp
theorem St.vrLast (S : St X φ H h) (c : Lc) {h' : Heap} : VR X h' (φ ++ [c]) (.ref c.a) (.obj H.length) := .obj (S.last c)

theorem St.newListAt (S : St X φ H h) {a : Addr} {items : Array Value} {n : Nat} {l : List AV} (hk : ∀ b ob, h.get? b = some ob → h'.get? b = some ob) (ha : h.get? a = none) (e : h'.get? a = some { cls := .type "list", data := .seq items n })
    (r : VRs X h φ items.toList l) : Step X φ h (φ ++ [⟨a, none⟩]) (H ++ [.list l]) h' :=
  S.new' (c := ⟨a, none⟩) hk (fun x hx => by simp [Lc.all] at hx; subst hx; exact ha) (by simp [Lc.all]) fun mono => ⟨rfl, items, n, e, VRs.iff.mpr ⟨r.length, fun i v b e1 e2 => mono _ _ ((VRs.iff.mp r).2 i v b e1 e2)⟩⟩

theorem p_newList (S : St X φ H s.heap) {M : Model} {vs : List Value} {l : List AV} {Q : Value → Shared → Prop} (r : VRs X s.heap φ vs l) (hl : l.length < big)
    (h : ∀ φ' h' rv, Step X φ s.heap φ' (H ++ [.list l]) h' → VR X h' φ' rv (.obj H.length) → Q rv { s with heap := h' }) : wpAny M A (newList vs) Q E s := by
  refine wpAny_newObj_type (T := "list") (data := .seq vs.toArray) (dict := none) (h _ _ _ (S.newListAt (fun b ob e => Heap.get?_push_of_some _ e) (get_none_size _) (Heap.get?_push_size _ rfl) (by simpa using r)) (S.vrLast _)) ?_
  show vs.toArray.size ≤ sizeLine
  rw [List.size_toArray, r.length, sizeLine_eq]; unfold big at hl; omega

theorem p_newTuple (S : St X φ H s.heap) {M : Model} {vs : List Value} {l : List AV} {Q : Value → Shared → Prop} (r : VRs X s.heap φ vs l) (hl : l.length < big)
    (h : ∀ h' rv, Step X φ s.heap φ H h' → VR X h' φ rv (.tup l) → Q rv { s with heap := h' }) : wpAny M A (newTuple vs) Q E s := by
  have st : Step X φ s.heap φ H (s.heap.push { cls := .type "tuple", data := .seq vs.toArray }) := S.same fun b ob e => Heap.get?_push_of_some _ e
  refine wpAny_newObj_type (T := "tuple") (data := .seq vs.toArray) (dict := none) (h _ _ st (.tup (Heap.get?_push_size _ rfl) rfl rfl (st.vrs S r))) ?_
  show vs.toArray.size ≤ sizeLine
  rw [List.size_toArray, r.length, sizeLine_eq]; unfold big at hl; omega

theorem base_lt (W : Txt X P) (S : St X φ H h) : sysModules < h.objs.size := by
  obtain ⟨o, es, ep, e, _⟩ := W.g
  have := Heap.lt_size (S.keep _ _ e)
  exact Nat.lt_trans (by decide : (1 : Nat) < 3) this

theorem p_dict0 (W : Txt X P) (S : St X φ H s.heap) {M : Model} {env : Env} {pos : Pos} {Q : Value → Shared → Prop}
    (h : ∀ φ' h' rv, Step X φ s.heap φ' (H ++ [.dict []]) h' → VR X h' φ' rv (.obj H.length) → Q rv { s with heap := h' }) : wpAny M A (eval (.Dict [] [] pos) env) Q E s := by
  refine PySem.wpAny_Dict_empty (h _ _ _ (S.new' (c := ⟨s.heap.objs.size, none⟩) (fun b ob e => Heap.get?_push_of_some _ e) (fun x hx => ?_) (by simp [Lc.all]) fun mono => ?_) (S.vrLast _))
  · simp [Lc.all] at hx; subst hx; exact get_none_size _
  · refine ⟨rfl, ?_, ⟨_, _, _, Heap.get?_push_size _ rfl, ⟨rfl, rfl, rfl⟩, rfl⟩, fun _ => ⟨[], Heap.DictOf.new _, .nil⟩, fun _ => ⟨[], Heap.DictOf.new _, .nil⟩, fun _ => ⟨[], Heap.DictOfH.new _, .nil⟩⟩
    exact beq_eq_false_iff_ne.mpr (Nat.ne_of_gt (base_lt W S))

/-! #### lists -/
theorem listAt_some {v : AV} {i : Nat} {l : List AV} (e : listAt H v = some (i, l)) : v = .obj i ∧ H[i]? = some (.list l) := by
  cases v with
  | obj o =>
    simp only [listAt] at e
    split at e
    · rename_i l' q; simp only [Option.some.injEq, Prod.mk.injEq] at e; obtain ⟨rfl, rfl⟩ := e; exact ⟨rfl, q⟩
    · cases e
  | _ => cases e
theorem dictAt_some {v : AV} {i : Nat} {l : List (AV × AV)} (e : dictAt H v = some (i, l)) : v = .obj i ∧ H[i]? = some (.dict l) := by
  cases v with
  | obj o =>
    simp only [dictAt] at e
    split at e
    · rename_i l' q; simp only [Option.some.injEq, Prod.mk.injEq] at e; obtain ⟨rfl, rfl⟩ := e; exact ⟨rfl, q⟩
    · cases e
  | _ => cases e

theorem St.setList (S : St X φ H h) {i : Nat} {c : Lc} {l l' : List AV} {its its' : Array Value} {n' : Nat} {f : Array Value → Array Value} (hc : φ[i]? = some c) (hd : c.d = none) (hh : Heap.SameBut c.a h h') (e : IsL h' c.a its' n')
    (r : VRs X h φ its'.toList l') : Step X φ h φ (H.set i (.list l')) h' :=
  S.upd hc (fun b ob eb hb => by simp [Lc.all, hd] at hb; exact (hh.2 b hb).trans eb) fun mono => ⟨hd, its', n', e, VRs.iff.mpr ⟨r.length, fun i v b e1 e2 => mono _ _ ((VRs.iff.mp r).2 i v b e1 e2)⟩⟩

theorem p_append (S : St X φ H s.heap) {i : Nat} {rv x : Value} {v a : AV} {l : List AV} {M : Unit} {Q : Value → Shared → Prop} (hv : VR X s.heap φ rv v) (ha : VR X s.heap φ x a) (e : listAt H v = some (i, l)) (hl : l.length < big)
    (h : ∀ h', Step X φ s.heap φ (H.set i (.list (l ++ [a]))) h' → Q .none { s with heap := h' }) :
    ∃ D items n, rv = .ref D ∧ items.size ≤ sizeLine ∧ IsL s.heap D items n ∧ Q .none { s with heap := s.heap.update D (Obj.mapSeq fun xs => xs.push x) } := by
  obtain ⟨rfl, eh⟩ := listAt_some e
  obtain ⟨c, rfl, hc⟩ := hv.toObj
  obtain ⟨hd, items, n, q1, q2⟩ := S.list hc eh
  refine ⟨c.a, items, n, rfl, ?_, q1, h _ ?_⟩
  · have := q2.length; rw [Array.length_toList] at this; rw [this, sizeLine_eq]; unfold big at hl; omega
  · refine S.setList (f := id) (l := l) (its := items) hc hd (Heap.SameBut.update ..) (q1.update _) ?_
    simp only [Array.toList_push]
    exact q2.append (.cons ha .nil)

theorem p_pop (S : St X φ H s.heap) {i : Nat} {pos : Pos} {rv : Value} {v a : AV} {l : List AV} {Q : Value → Shared → Prop} (hv : VR X s.heap φ rv v) (e : listAt H v = some (i, l)) (hl : l.length < big) (hla : l.getLast? = some a)
    (h : ∀ h' rv, Step X φ s.heap φ (H.set i (.list l.dropLast)) h' → VR X h' φ rv a → Q rv { s with heap := h' }) :
    wpAny (model X.prog X.w) A (callWith pos (.builtin "list.pop") [rv] [] []) Q E s := by
  obtain ⟨rfl, eh⟩ := listAt_some e
  obtain ⟨c, rfl, hc⟩ := hv.toObj
  obtain ⟨hd, items, n, q1, q2⟩ := S.list hc eh
  have hsz : items.size = l.length := by have := q2.length; rwa [Array.length_toList] at this
  rw [List.getLast?_eq_getElem?] at hla
  obtain ⟨y, hy, hr⟩ := q2.get hla
  have st : Step X φ s.heap φ (H.set i (.list l.dropLast)) (s.heap.update c.a (Obj.mapSeq fun xs => xs.eraseIdxIfInBounds (items.size - 1))) := by
    refine S.setList (f := id) (l := l) (its := items) hc hd (Heap.SameBut.update ..) (q1.update _) ?_
    have hlt : items.size - 1 < items.size := by
      have := (List.getElem?_eq_some_iff.mp hla).1
      omega
    have : (items.eraseIdxIfInBounds (items.size - 1)).toList = items.toList.dropLast := by
      simp only [Array.eraseIdxIfInBounds, dif_pos hlt]
      rw [Array.toList_eraseIdx, ← Array.length_toList, List.eraseIdx_length_sub_one]
    rw [this]
    exact q2.dropLast
  refine PySem.P.pop_list q1 (y := y) (by rw [hsz]; simpa using hy) (h _ _ st (st.vr S hr)) ?_
  rw [hsz, sizeLine_eq]; unfold big at hl; omega

theorem p_rev (S : St X φ H s.heap) {i : Nat} {pos : Pos} {rv : Value} {v : AV} {l : List AV} {Q : Value → Shared → Prop} (hv : VR X s.heap φ rv v) (e : listAt H v = some (i, l)) (hl : l.length < big)
    (h : ∀ h', Step X φ s.heap φ (H.set i (.list l.reverse)) h' → Q .none { s with heap := h' }) :
    wpAny (model X.prog X.w) A (callWith pos (.builtin "list.reverse") [rv] [] []) Q E s := by
  obtain ⟨rfl, eh⟩ := listAt_some e
  obtain ⟨c, rfl, hc⟩ := hv.toObj
  obtain ⟨hd, items, n, q1, q2⟩ := S.list hc eh
  have hsz : items.size = l.length := by have := q2.length; rwa [Array.length_toList] at this
  refine PySem.P.reverse_list q1 (h _ ?_) (by rw [hsz, sizeLine_eq]; unfold big at hl; omega)
  refine S.setList (f := id) (l := l) (its := items) hc hd (Heap.SameBut.update ..) (q1.update _) ?_
  rw [Array.toList_reverse]; exact q2.reverse

theorem p_len (S : St X φ H s.heap) {rv : Value} {v : AV} {n : Int} {Q : Value → Shared → Prop} (hv : VR X s.heap φ rv v) (e : lenOf H v = some n) (h : ∀ tk t, Q (.int n t) { s with toks := tk }) :
    wpAny (model X.prog X.w) A (call (.builtin "len") [rv]) Q E s := by
  cases v with
  | tup l =>
    simp only [lenOf] at e
    split at e
    · rename_i hl; cases e
      obtain ⟨a, o, items, k, rfl, e1, e2, e3, r⟩ := hv.toTup
      have hsz : items.size = l.length := by have := r.length; rwa [Array.length_toList] at this
      refine PyProof.Rows.len_tuple (t := a) (items := items) ⟨o, e1, e2, k, e3⟩ (by rw [hsz]; unfold big at hl; omega) (by rw [hsz]; exact h _ _)
    · cases e
  | obj o =>
    simp only [lenOf] at e
    split at e
    · rename_i l eh
      split at e
      · rename_i hl; cases e
        obtain ⟨c, rfl, hc⟩ := hv.toObj
        obtain ⟨hd, items, k, q1, q2⟩ := S.list hc eh
        have hsz : items.size = l.length := by have := q2.length; rwa [Array.length_toList] at this
        exact PyProof.Rows.len_list q1.isList (by rw [hsz]; unfold big at hl; omega) (by rw [hsz]; exact h _ _)
      · cases e
    · cases e
  | _ => cases e

theorem p_listOf (S : St X φ H s.heap) {i : Nat} {rv : Value} {v : AV} {l : List AV} {Q : Value → Shared → Prop} (hv : VR X s.heap φ rv v) (e : listAt H v = some (i, l)) (hl : l.length < big)
    (h : ∀ φ' h' rv, Step X φ s.heap φ' (H ++ [.list l]) h' → VR X h' φ' rv (.obj H.length) → Q rv { s with heap := h' }) :
    wpAny (model X.prog X.w) A (call (.type "list") [rv]) Q E s := by
  obtain ⟨rfl, eh⟩ := listAt_some e
  obtain ⟨c, rfl, hc⟩ := hv.toObj
  obtain ⟨hd, items, n, q1, q2⟩ := S.list hc eh
  have hsz : items.size = l.length := by have := q2.length; rwa [Array.length_toList] at this
  exact PySem.call_list_seq (T := "list") c.a (.inl rfl) q1 rfl rfl (fun h' c' hk he => h _ _ _ (S.newListAt hk (get_none_size _) he q2) (S.vrLast _)) (by rw [hsz, sizeLine_eq]; unfold big at hl; omega)

theorem p_tupOf (S : St X φ H s.heap) {i : Nat} {rv : Value} {v : AV} {l : List AV} {Q : Value → Shared → Prop} (hv : VR X s.heap φ rv v) (e : listAt H v = some (i, l)) (hl : l.length < big)
    (h : ∀ h' rv, Step X φ s.heap φ H h' → VR X h' φ rv (.tup l) → Q rv { s with heap := h' }) :
    wpAny (model X.prog X.w) A (call (.type "tuple") [rv]) Q E s := by
  obtain ⟨rfl, eh⟩ := listAt_some e
  obtain ⟨c, rfl, hc⟩ := hv.toObj
  obtain ⟨hd, items, n, q1, q2⟩ := S.list hc eh
  have hsz : items.size = l.length := by have := q2.length; rwa [Array.length_toList] at this
  refine PySem.call_tuple_list q1.isList (fun h' hk => ?_) (by rw [hsz, sizeLine_eq]; unfold big at hl; omega)
  have st : Step X φ s.heap φ H (h'.push { cls := .type "tuple", data := .seq items }) := S.same fun b ob e => Heap.get?_push_of_some _ (hk b ob e)
  exact h _ _ st (.tup (Heap.get?_push_size _ rfl) rfl rfl (st.vrs S q2))

theorem vrs_ints {a : Int} {n : Nat} {acc : Array Value} (r : ItemsOf (fun i v => ∃ t, v = Value.int (a + (i : Int) * 1) t) acc n) : VRs X h φ acc.toList ((List.range n).map fun (i : Nat) => AV.int (a + i)) := by
  refine VRs.iff.mpr ⟨by simp [r.1], fun i v b e1 e2 => ?_⟩
  obtain ⟨t, rfl⟩ := r.2 i v (by simpa using e1)
  simp only [List.getElem?_map] at e2
  obtain ⟨j, hj, rfl⟩ := Option.map_eq_some_iff.mp e2
  have : j = i := by
    have := List.getElem?_eq_some_iff.mp hj
    obtain ⟨_, q⟩ := this; simp at q; omega
  subst this
  rw [Int.mul_one]
  exact .int _ t

theorem p_listRange (S : St X φ H s.heap) (hh : A.handled = none) {r : Addr} {a b : Int} {t u v : Tok} {Q : Value → Shared → Prop} (hr : IsRange s.heap r a b 1 t u v) (h1 : -(2 ^ 20) ≤ a) (h2 : a < 2 ^ 20) (h3 : -(2 ^ 20) ≤ b) (h4 : b < 2 ^ 20)
    (h : ∀ φ' h' rv tk, Step X φ s.heap φ' (H ++ [.list (rints a b)]) h' → VR X h' φ' rv (.obj H.length) → Q rv { s with heap := h', toks := tk }) :
    wpAny (model X.prog X.w) A (call (.type "list") [.ref r]) Q E s := by
  refine PySem.call_list_range (n := (b - a).toNat) hh hr (PySem.small_one (by omega) (by omega) (by omega) (by omega)) ?_ (by omega) fun h' tk acc c' hk he hi => ?_
  · rw [PySem.rangeSize_one]; split <;> omega
  · exact h _ _ _ _ (S.newListAt hk (get_none_size _) he (vrs_ints hi)) (S.vrLast _)

/-! #### slices -/
theorem run_eq {α : Type} (L : List α) (a b : Nat) : (L.drop (min a L.length)).take (min b L.length - min a L.length) = (L.take b).drop a := by
  rw [List.drop_take]
  rcases Nat.le_total a L.length with ha | ha
  · rw [Nat.min_eq_left ha]
    rcases Nat.le_total b L.length with hb | hb
    · rw [Nat.min_eq_left hb]
    · rw [Nat.min_eq_right hb, List.take_of_length_le (by simp), List.take_of_length_le (by simp; omega)]
  · rw [Nat.min_eq_right ha, List.drop_of_length_le (Nat.le_refl _), List.drop_of_length_le ha]; simp
theorem p_slice (S : St X φ H s.heap) {rv rl rh : Value} {v lo hi : AV} {l : List AV} {sl : Addr} {Q : Value → Shared → Prop} (hv : VR X s.heap φ rv v) (hlo : VR X s.heap φ rl lo) (hhi : VR X s.heap φ rh hi) (e : sliceOf H v lo hi = some l)
    (hsl : s.heap.IsSliceOf sl rl rh .none)
    (h : ∀ φ' h' rv, Step X φ s.heap φ' (H ++ [.list l]) h' → VR X h' φ' rv (.obj H.length) → Q rv { s with heap := h' }) :
    wpAny (model X.prog X.w) A (getItem rv (.ref sl)) Q E s := by
  have go : ∀ (a : Addr) (items : Array Value) (l₀ : List AV) (lo' hi' : Option Int), rv = .ref a → s.heap.IsList a items → VRs X s.heap φ items.toList l₀ → l₀.length < big → IsPart rl lo' → IsPart rh hi' →
      VRs X s.heap φ (slicePick items lo' hi' none).toList l → wpAny (model X.prog X.w) A (getItem rv (.ref sl)) Q E s := by
    rintro a items l₀ lo' hi' rfl hl r hlen p1 p2 r2
    refine wpAny_getItem_list_slice hl hsl p1 p2 .none (by simp) (h _ _ _ (S.newListAt (fun b ob e => Heap.get?_push_of_some _ e) (get_none_size _) (Heap.get?_push_size _ rfl) r2) (S.vrLast _)) ?_
    have hsz : items.size = l₀.length := by have := r.length; rwa [Array.length_toList] at this
    rw [hsz, sizeLine_eq]; unfold big at hlen; omega
  have upto : ∀ (items : Array Value) (l₀ : List AV) (b : Int), 0 ≤ b → VRs X s.heap φ items.toList l₀ → VRs X s.heap φ (slicePick items none (some b) none).toList (l₀.take b.toNat) := by
    intro items l₀ b h0 r
    have := slicePick_upto' items b.toNat
    rw [Int.toNat_of_nonneg h0] at this
    rw [this]; simpa using r.take _
  cases v with
  | flist l₀ =>
    obtain ⟨a, o, items, n, rfl, e0, e1, e2, e3, r⟩ := hv.toFlist
    simp only [sliceOf] at e
    split at e
    · rename_i b
      split at e
      · rename_i hb; cases e
        obtain rfl := hlo.toNone
        obtain ⟨t, rfl⟩ := hhi.toInt
        exact go a items l₀ none (some b) rfl ⟨o, e1, e2, n, e3⟩ r hb.2.2 .none (.int b t) (upto items l₀ b hb.1 r)
      · cases e
    · cases e
  | obj o =>
    simp only [sliceOf] at e
    split at e
    · rename_i l₀ eh
      obtain ⟨c, rfl, hc⟩ := hv.toObj
      obtain ⟨hd, items, n, q1, q2⟩ := S.list hc eh
      split at e
      · rename_i b
        split at e
        · rename_i hb; cases e
          obtain rfl := hlo.toNone
          obtain ⟨t, rfl⟩ := hhi.toInt
          exact go c.a items l₀ none (some b) rfl q1.isList q2 hb.2.2 .none (.int b t) (upto items l₀ b hb.1 q2)
        · cases e
      · rename_i a b
        split at e
        · rename_i hb; cases e
          obtain ⟨t, rfl⟩ := hlo.toInt
          obtain ⟨u, rfl⟩ := hhi.toInt
          refine go c.a items l₀ (some a) (some b) rfl q1.isList q2 hb.2.2.2.2 (.int a t) (.int b u) ?_
          rw [slicePick_plain]
          simp only [Option.elim]
          have ea := clipAt_nat items.size a.toNat
          have eb := clipAt_nat items.size b.toNat
          rw [Int.toNat_of_nonneg hb.1] at ea
          rw [Int.toNat_of_nonneg hb.2.2.1] at eb
          rw [ea, eb, ← Array.length_toList, run_eq]
          exact (q2.take _).drop _
        · cases e
      · cases e
    · cases e
  | _ => cases e
end
end Mini
end

noncomputable section -- Tr
set_option autoImplicit false
set_option linter.unusedVariables false
set_option linter.unusedSimpArgs false
open PySem PySem.Calls PyProof.Rows PySem.W
noncomputable section
namespace Mini

noncomputable def plainBase : Expr → Bool
  | .Name .. | .Attribute .. | .Subscript .. => true
  | _ => false

noncomputable def GlobV (X : Tx) (sc : Scope) (x : Str) (v : AV) : Prop :=
  sc.names.lookup x = some .globalImplicit ∧ (x == ("__debug__" : Str)) = false ∧ ∃ rv, X.mg x = some rv ∧ ∀ (h : Heap) (φ : List Lc), (∀ b o, X.h₀.get? b = some o → h.get? b = some o) → VR X h φ rv v
noncomputable def GlobF (X : Tx) (sc : Scope) (x : Str) (a : Addr) : Prop := sc.names.lookup x = some .globalImplicit ∧ (x == ("__debug__" : Str)) = false ∧ X.mg x = some (.ref a)
noncomputable def GlobB (X : Tx) (sc : Scope) (x : Str) (v : Value) : Prop := sc.names.lookup x = some .globalImplicit ∧ (x == ("__debug__" : Str)) = false ∧ X.mg x = none ∧ X.mb x = some v

noncomputable def ScOk (scope : Scope) (x : Str) : Prop := (∀ y ∈ scope.names, y.2 = .local) ∧ scope.kind = .function ∧ (∀ y ∈ scope.names, scope.names.lookup y.1 = some .local) ∧ scope.names.lookup x = some .local ∧ (x == ("__debug__" : Str)) = false

/-- literals and global values -/
noncomputable def TL (X : Tx) (sc : Scope) (Ex : Expr) (v : AV) : Prop :=
  (∃ i k p, Ex = .Constant (.int i) k p ∧ v = .int i) ∨ (∃ x n k p, Ex = .Constant (.str x) k p ∧ v = .sym n ∧ X.tbl[n]? = some x) ∨ (∃ b k p, Ex = .Constant (.bool b) k p ∧ v = .bool b) ∨
  (∃ i k p p', Ex = .UnaryOp .USub (.Constant (.int i) k p) p' ∧ v = .int (-i)) ∨
  (∃ k k' p p' p'', Ex = .BinOp (.Constant (.int 10) k p) .Pow (.Constant (.int 20) k' p') p'' ∧ v = .int 100000000000000000000) ∨ ∃ x p, Ex = .Name x p ∧ GlobV X sc x v

/-- no starred, no slice, no display of a set, no assignment within -/
noncomputable def nice : Expr → Bool
  | .Starred .. | .Slice .. | .Set .. | .NamedExpr .. | .ListComp .. | .SetComp .. | .DictComp .. => false
  | _ => true
section
variable (X : Tx) (P : Prg) (sc : Scope) (vars : List Str)
mutual
/-- the text's term is this term of the small language -/
@[reducible] noncomputable def TE : Expr → ME → Prop
  | Ex, .lit v => TL X sc Ex v
  | Ex, .loc i => ∃ x p, Ex = .Name x p ∧ vars[i]? = some x
  | Ex, .attr me n => ∃ e a p, Ex = .Attribute e a p ∧ TE e me ∧ X.tbl[n]? = some a ∧ plainBase e = true
  | Ex, .sub me mi => ∃ e i p, Ex = .Subscript e i p ∧ TE e me ∧ nice i = true ∧ TE i mi
  | Ex, .slice me ml mh => ∃ e lo hi p p', Ex = .Subscript e (.Slice lo hi none p') p ∧ TE e me ∧ (lo.elim (ml = .lit .none) fun x => TE x ml) ∧ (hi.elim (mh = .lit .none) fun x => TE x mh)
  | Ex, .bin o ma mb => ∃ a b p, Ex = .BinOp a (opOf o) b p ∧ TE a ma ∧ TE b mb
  | Ex, .cmp o ma mb => ∃ a b p, Ex = .Compare a [copOf o] [b] p ∧ TE a ma ∧ nice b = true ∧ TE b mb
  | Ex, .ors ml => ∃ l p, Ex = .BoolOp .Or l p ∧ TEs l ml
  | Ex, .ands ml => ∃ l p, Ex = .BoolOp .And l p ∧ TEs l ml
  | Ex, .ite mc ma mb => ∃ c a b p, Ex = .IfExp c a b p ∧ TE c mc ∧ TE a ma ∧ TE b mb
  | Ex, .list ml => ∃ l p, Ex = .List l p ∧ TEs l ml
  | Ex, .tup ml => ∃ l k p, Ex = .Tuple l k p ∧ TEs l ml
  | Ex, .dict0 => ∃ p, Ex = .Dict [] [] p
  | Ex, .call f ml => ∃ x l p p', Ex = .Call (.Name x p') l [] p ∧ GlobF X sc x (X.fnA f) ∧ (P.fn f).isSome = true ∧ TEs l ml
  | Ex, .new c ml => ∃ x l p p', Ex = .Call (.Name x p') l [] p ∧ GlobF X sc x (X.cls c) ∧ (P.init c).isSome = true ∧ TEs l ml
  | Ex, .meth me n ml => ∃ e a l p p', Ex = .Call (.Attribute e a p') l [] p ∧ TE e me ∧ X.tbl[n]? = some a ∧ plainBase e = true ∧ (p'.endLine == p.line) = true ∧ l.length < 20 ∧ TEs l ml
  | Ex, .len me => ∃ e p p', Ex = .Call (.Name "len" p') [e] [] p ∧ GlobB X sc "len" (.builtin "len") ∧ nice e = true ∧ TE e me
  | Ex, .listRange me => ∃ e p p' q q', Ex = .Call (.Name "list" p') [.Call (.Name "range" q') [e] [] q] [] p ∧ GlobB X sc "list" (.type "list") ∧ GlobB X sc "range" (.type "range") ∧ nice e = true ∧ TE e me
  | Ex, .listOf me => ∃ e p p', Ex = .Call (.Name "list" p') [e] [] p ∧ GlobB X sc "list" (.type "list") ∧ nice e = true ∧ TE e me
  | Ex, .tupOf me => ∃ e p p', Ex = .Call (.Name "tuple" p') [e] [] p ∧ GlobB X sc "tuple" (.type "tuple") ∧ nice e = true ∧ TE e me
  | Ex, .append me mx => ∃ e x p p', Ex = .Call (.Attribute e "append" p') [x] [] p ∧ TE e me ∧ nice x = true ∧ TE x mx ∧ plainBase e = true ∧ (p'.endLine == p.line) = true
  | Ex, .pop me => ∃ e p p', Ex = .Call (.Attribute e "pop" p') [] [] p ∧ TE e me ∧ plainBase e = true ∧ (p'.endLine == p.line) = true
  | Ex, .rev me => ∃ e p p', Ex = .Call (.Attribute e "reverse" p') [] [] p ∧ TE e me ∧ plainBase e = true ∧ (p'.endLine == p.line) = true
  | Ex, .dget me mk md => ∃ e k d p p', Ex = .Call (.Attribute e "get" p') [k, d] [] p ∧ TE e me ∧ nice k = true ∧ nice d = true ∧ TE k mk ∧ TE d md ∧ plainBase e = true ∧ (p'.endLine == p.line) = true
  | Ex, .filt me n => ∃ x y e scope k k' p p' q q' r r' u u' v, Ex = .Compare (.ListComp (.Name x q) [⟨.Name x q', e, [.Compare (.Name x r) [.NotEq] [.Tuple [.Constant (.str y) k u] k' u'] r'], 0⟩] scope v) [.Eq] [.List [] p'] p ∧
      nice e = true ∧ TE e me ∧ X.tbl[n]? = some y ∧ ScOk scope x
@[reducible] noncomputable def TEs : List Expr → List ME → Prop
  | l, [] => l = []
  | l, m :: r => ∃ e s, l = e :: s ∧ nice e = true ∧ TE e m ∧ TEs s r
end
@[reducible] noncomputable def TO (o : Option Expr) (me : ME) : Prop := o.elim (me = .lit .none) fun x => TE X P sc vars x me
noncomputable def TI (Ex : Expr) : MI → Prop
  | .e me => nice Ex = true ∧ TE X P sc vars Ex me
  | .range1 me => ∃ e p p', Ex = .Call (.Name "range" p') [e] [] p ∧ GlobB X sc "range" (.type "range") ∧ nice e = true ∧ TE X P sc vars e me
  | .range2 ma mb => ∃ a b p p', Ex = .Call (.Name "range" p') [a, b] [] p ∧ GlobB X sc "range" (.type "range") ∧ nice a = true ∧ nice b = true ∧ TE X P sc vars a ma ∧ TE X P sc vars b mb
mutual
@[reducible] noncomputable def TS : Stmt → MS → Prop
  | S, .asg i me => ∃ x e p p', S = .Assign [.Name x p'] e p ∧ vars[i]? = some x ∧ nice e = true ∧ TE X P sc vars e me
  | S, .sattr mo n me => ∃ o e a p p', S = .Assign [.Attribute o a p'] e p ∧ TE X P sc vars o mo ∧ X.tbl[n]? = some a ∧ nice e = true ∧ TE X P sc vars e me
  | S, .sitem mo mk me => ∃ o k e p p', S = .Assign [.Subscript o k p'] e p ∧ TE X P sc vars o mo ∧ TE X P sc vars k mk ∧ nice e = true ∧ TE X P sc vars e me
  | S, .expr me => ∃ e p, S = .Expr e p ∧ nice e = true ∧ TE X P sc vars e me
  | S, .ifs mc ma mb => ∃ c a b p, S = .If c a b p ∧ TE X P sc vars c mc ∧ TSs a ma ∧ TSs b mb
  | S, .for_ i mi kill mb => ∃ x it body p p', S = .For (.Name x p') it body [] p ∧ vars[i]? = some x ∧ TI X P sc vars it mi ∧ TSs body mb
  | S, .while_ mc kill mb => ∃ c body p, S = .While c body [] p ∧ TE X P sc vars c mc ∧ TSs body mb
  | S, .ret me => ∃ e p, S = .Return (some e) p ∧ TE X P sc vars e me
  | S, .brk => ∃ p, S = .Break p
  | _, .stuck => True
@[reducible] noncomputable def TSs : List Stmt → List MS → Prop
  | l, [] => l = []
  | l, m :: r => ∃ e s, l = e :: s ∧ TS e m ∧ TSs s r
end
end

section
variable {X : Tx} {P : Prg} {sc : Scope} {vars : List Str} {e : Expr} {me : ME}
theorem TEs.cons {l : List Expr} {ml : List ME} (n : nice e = true) (t : TE X P sc vars e me) (r : TEs X P sc vars l ml) : TEs X P sc vars (e :: l) (me :: ml) := ⟨_, _, rfl, n, t, r⟩
theorem nice_star (n : nice e = true) (r : List Expr) (env : Env) : starEach (e :: r) env = (false, eval e env) :: starEach r env := by cases e <;> first | rfl | cases n
theorem TEs.star : ∀ {l : List Expr} {ml : List ME}, TEs X P sc vars l ml → ∀ (env : Env) (pos : Pos), backTo pos (starEach l env) = l.map fun e => (false, eval e env)
  | _, [], rfl, _, _ => rfl
  | _, _ :: _, ⟨_, _, rfl, n, _, r⟩, env, pos => by
    rw [nice_star n]
    show (false, eval _ env) :: backTo pos (starEach _ env) = _
    rw [r.star env pos]; rfl
theorem star_one (n : nice e = true) (env : Env) (pos : Pos) : backTo pos (starEach [e] env) = [(false, eval e env)] := by rw [nice_star n]; rfl
theorem star_two {e₂ : Expr} (n : nice e = true) (n₂ : nice e₂ = true) (env : Env) (pos : Pos) : backTo pos (starEach [e, e₂] env) = [(false, eval e env), (false, eval e₂ env)] := by rw [nice_star n, nice_star n₂]; rfl
theorem noMark (n : nice e = true) (op : CmpOp) : behindInMarks op e = false := by cases e <;> first | rfl | cases n
theorem noFold (n : nice e = true) (env : Env) (x : Value) : foldedSetIterable e env x = pure x := by cases e <;> first | rfl | cases n
theorem noSlice (n : nice e = true) (o i : Value) : subscripted e false o i = operate [o, i] (getItem o i) := by cases e <;> first | rfl | cases n
theorem noSwap (n : nice e = true) (tg : Option Expr) (k : Nat) (env : Env) : swapsWith e tg k env = pure false := by cases e <;> first | rfl | cases n
theorem base_plain {a : Str} {env : Env} {w : Sem Value} (h : plainBase e = true) : attributeBase e a env w = w := by
  cases e <;> first | rfl | cases h
end
end Mini
end

noncomputable section -- Snd1
set_option autoImplicit false
set_option linter.unusedVariables false
set_option linter.unusedSimpArgs false
open PySem PySem.Calls PyProof.Rows PySem.W
namespace Mini

/-- a step that may also touch the addresses N (a frame's names, an iterator) -/
structure StepN (X : Tx) (N : List Addr) (φ : List Lc) (h : Heap) (φ' : List Lc) (H' : AHeap) (h' : Heap) : Prop where
  ext : ∃ ψ, φ' = φ ++ ψ ∧ ∀ x ∈ addrs ψ, h.get? x = none
  keep : ∀ b o, h.get? b = some o → b ∉ addrs φ → b ∉ N → h'.get? b = some o
  st : St X φ' H' h'

/-- the addresses bear no list and no tuple, and are not tracked -/
noncomputable def Odd (N : List Addr) (φ : List Lc) (h : Heap) : Prop := ∀ x ∈ N, x ∉ addrs φ ∧ ∃ o, h.get? x = some o ∧ ∀ items n, o.data ≠ .seq items n

section
variable {X : Tx} {N : List Addr} {h h' h'' : Heap} {φ φ' φ'' : List Lc} {H H' H'' : AHeap}
theorem Step.toN (p : Step X φ h φ' H' h') : StepN X N φ h φ' H' h' := ⟨p.ext, fun b o e hb _ => p.keep b o e hb, p.st⟩
theorem StepN.get (s : StepN X N φ h φ' H' h') {i : Nat} {c : Lc} (e : φ[i]? = some c) : φ'[i]? = some c := by
  obtain ⟨ψ, rfl, _⟩ := s.ext
  rw [List.getElem?_append_left (List.getElem?_eq_some_iff.mp e).1]; exact e
theorem StepN.off (s : StepN X N φ h φ' H' h') {b : Addr} {o : Obj} (e : h.get? b = some o) (hb : b ∉ addrs φ) : b ∉ addrs φ' := by
  obtain ⟨ψ, rfl, q⟩ := s.ext
  rw [addrs_append, List.mem_append]
  rintro (x | x)
  · exact hb x
  · rw [q b x] at e; cases e
theorem StepN.trans (p : StepN X N φ h φ' H' h') (q : StepN X N φ' h' φ'' H'' h'') (hN : ∀ x ∈ N, ∃ o, h'.get? x = some o) : StepN X N φ h φ'' H'' h'' := by
  obtain ⟨ψ, e1, n1⟩ := p.ext
  obtain ⟨χ, e2, n2⟩ := q.ext
  refine ⟨⟨ψ ++ χ, by rw [e2, e1, List.append_assoc], fun x hx => ?_⟩, fun b o e hb hN => q.keep b o (p.keep b o e hb hN) (p.off e hb) hN, q.st⟩
  rw [addrs_append, List.mem_append] at hx
  rcases hx with hx | hx
  · exact n1 x hx
  · cases ho : h.get? x with
    | none => rfl
    | some o =>
      have z := n2 x hx
      by_cases hm : x ∈ addrs φ
      · obtain ⟨ob, e', _⟩ := p.st.at (x := x) (by rw [e1, addrs_append]; exact List.mem_append.mpr (.inl hm))
        rw [z] at e'; cases e'
      · by_cases hxN : x ∈ N
        · obtain ⟨o', e'⟩ := hN x hxN; rw [z] at e'; cases e'
        · rw [p.keep x o ho hm hxN] at z; cases z
theorem StepN.vr (S : St X φ H h) (D : Odd N φ h) (s : StepN X N φ h φ' H' h') {v : Value} {a : AV} (r : VR X h φ v a) : VR X h' φ' v a :=
  r.mono (fun x o items n e ed hc => s.keep x o e (hc.elim (fun hc => S.notTup e hc ed) id) fun z => by
    obtain ⟨_, o', e', q⟩ := D x z
    obtain rfl := Option.some.inj (e.symm.trans e')
    exact q _ _ ed) (fun i c e => s.get e) fun x o e hb => s.off e hb
theorem StepN.vrs (S : St X φ H h) (D : Odd N φ h) (s : StepN X N φ h φ' H' h') {v : List Value} {a : List AV} (r : VRs X h φ v a) : VRs X h' φ' v a :=
  VRs.iff.mpr ⟨r.length, fun i x b e1 e2 => s.vr S D ((VRs.iff.mp r).2 i x b e1 e2)⟩
/-- touching N alone -/
theorem St.side (S : St X φ H h) (D : Odd N φ h) (hN : ∀ x ∈ N, X.h₀.get? x = none) (hk : ∀ b o, h.get? b = some o → b ∉ N → h'.get? b = some o) : StepN X N φ h φ H h' := by
  have hv : ∀ v a, VR X h φ v a → VR X h' φ v a := fun v a r => r.mono (fun x o items n e ed hc => hk x o e fun z => by
    obtain ⟨_, o', e', q⟩ := D x z
    obtain rfl := Option.some.inj (e.symm.trans e')
    exact q _ _ ed) (fun _ _ e => e) fun _ _ _ hb => hb
  refine ⟨⟨[], by simp, by simp [addrs]⟩, fun b o e _ hb => hk b o e hb, ⟨S.len, fun b o e => hk _ _ (S.keep b o e) (fun z => by rw [hN b z] at e; exact nomatch e), fun i c o h1 h2 => ?_, S.nodup, S.new⟩⟩
  refine (S.objs i c o h1 h2).mono (fun x hx ob e => hk _ _ e fun z => (D x z).1 (mem_addrs.mpr ⟨c, List.mem_of_getElem? h1, hx⟩)) hv fun x o items n e ed ec => hk _ _ e fun z => ?_
  obtain ⟨_, o', e', q⟩ := D x z
  obtain rfl := Option.some.inj (e.symm.trans e')
  exact q _ _ ed
end

/-! ### frames -/
structure Cx (sc : Scope) (vars : List Str) (env : Env) (L : Addr) : Prop where
  isSc : env.scope = sc
  kind : sc.kind = .function
  loc : env.locals = L
  glob : env.globals = mainGlobals
  bi : env.builtins = builtinsNs
  gen : sc.isGenerator = false
  co : sc.isCoroutine = false
  names : ∀ x ∈ vars, sc.names.lookup x = some .local ∧ (x == ("__debug__" : Str)) = false
  nodup : vars.Nodup

structure Lo (X : Tx) (vars : List Str) (φ : List Lc) (h : Heap) (L : Addr) (m : Str → Option Value) (ρ : Loc) : Prop where
  ns : h.Ns L m
  off : L ∉ addrs φ
  new : X.h₀.get? L = none
  vals : ∀ (i : Nat) (v : AV), ρ[i]? = some (some v) → ∃ x rv, vars[i]? = some x ∧ m x = some rv ∧ VR X h φ rv v

noncomputable def Room (d : Nat) (env : Env) (A : Around) : Prop := A.handled = none ∧ A.depth + 2 * d + 200 < recursionLimit ∧ A.units + 16 * d + 200 < cLine ∧ ∃ l, A.frames = some (env :: l)
noncomputable def RoomC (d : Nat) (A : Around) : Prop := A.handled = none ∧ A.depth + 2 * d + 200 < recursionLimit ∧ A.units + 16 * d + 200 < cLine ∧ ∃ l, A.frames = some l
theorem Room.toC {d : Nat} {env : Env} {A : Around} (r : Room d env A) : RoomC d A := ⟨r.1, r.2.1, r.2.2.1, let ⟨l, e⟩ := r.2.2.2; ⟨_, e⟩⟩

section
variable {X : Tx} {vars : List Str} {φ φ' : List Lc} {H H' : AHeap} {h h' : Heap} {L : Addr} {m : Str → Option Value} {ρ : Loc} {sc : Scope} {env : Env}
theorem Lo.odd (o : Lo X vars φ h L m ρ) : Odd [L] φ h := fun x hx => by
  obtain rfl := List.mem_singleton.mp hx
  obtain ⟨ob, es, ep, e, ed, _⟩ := o.ns
  exact ⟨o.off, ob, e, fun items n q => by rw [ed] at q; cases q⟩
theorem Lo.step (o : Lo X vars φ h L m ρ) (S : St X φ H h) (p : Step X φ h φ' H' h') : Lo X vars φ' h' L m ρ := by
  obtain ⟨ob, es, ep, e, r⟩ := id o.ns
  exact ⟨⟨ob, es, ep, p.keep _ _ e o.off, r⟩, p.off e o.off, o.new, fun i v q => let ⟨x, rv, a, b, c⟩ := o.vals i v q; ⟨x, rv, a, b, p.vr S c⟩⟩
theorem Cx.kindOf (c : Cx sc vars env L) (x : Str) : env.kindOf x = sc.names.lookup x := by rw [← c.isSc]; rfl
theorem Cx.inter (c : Cx sc vars env L) : interactive env = false := by
  unfold interactive
  rw [c.isSc, c.kind]; rfl
theorem Lo.kill (o : Lo X vars φ h L m ρ) (kill : List Nat) : Lo X vars φ h L m (killAll kill ρ) := by
  have : ∀ (kill : List Nat) (ρ : Loc), (∀ (i : Nat) (v : AV), ρ[i]? = some (some v) → ∃ x rv, vars[i]? = some x ∧ m x = some rv ∧ VR X h φ rv v) → ∀ (i : Nat) (v : AV), (killAll kill ρ)[i]? = some (some v) → ∃ x rv, vars[i]? = some x ∧ m x = some rv ∧ VR X h φ rv v := by
    intro kill
    induction kill with
    | nil => intro ρ q; exact q
    | cons k kill ih =>
      intro ρ q
      refine ih (ρ.set k none) fun i v e => ?_
      by_cases hk : k = i
      · subst hk
        rw [List.getElem?_set] at e
        simp at e
      · rw [List.getElem?_set_ne hk] at e; exact q i v e
  exact ⟨o.ns, o.off, o.new, this kill ρ o.vals⟩
end

/-! ### what is shown of each part of the evaluator -/
section
variable (X : Tx) (P : Prg)
noncomputable def PostE (φ : List Lc) (s : Shared) (r : AV × AHeap) (Q : Value → Shared → Prop) : Prop :=
  ∀ φ' h' tk rv, Step X φ s.heap φ' r.2 h' → VR X h' φ' rv r.1 → Q rv { s with heap := h', toks := tk }
noncomputable def PostB (φ : List Lc) (s : Shared) (H' : AHeap) (b : Bool) (Q : Bool → Shared → Prop) : Prop :=
  ∀ φ' h' tk, Step X φ s.heap φ' H' h' → Q b { s with heap := h', toks := tk }
noncomputable def PostL (φ : List Lc) (s : Shared) (r : List AV × AHeap) (Q : List Value → Shared → Prop) : Prop :=
  ∀ φ' h' tk vs, Step X φ s.heap φ' r.2 h' → VRs X h' φ' vs r.1 → Q vs { s with heap := h', toks := tk }

noncomputable def OkE (d : Nat) (e : ME) (ρ : Loc) (H : AHeap) (r : AV × AHeap) : Prop :=
  ∀ (sc : Scope) (vars : List Str) (Ex : Expr) (env : Env) (L : Addr) (m : Str → Option Value) (φ : List Lc) (A : Around) (s : Shared), TE X P sc vars Ex e → Cx sc vars env L → St X φ H s.heap → Lo X vars φ s.heap L m ρ → Room d env A →
    (∀ (Er : Value → Shared → Prop) (Q : Value → Shared → Prop), PostE X φ s r Q → wpAny (model X.prog X.w) A (eval Ex env) Q Er s) ∧
    (∀ b, r.1 = .bool b → ∀ (Er : Value → Shared → Prop) (Q : Bool → Shared → Prop), PostB X φ s r.2 b Q → wpAny (model X.prog X.w) A (isTrue Ex env (eval Ex env)) Q Er s)
noncomputable def OkL (d : Nat) (l : List ME) (ρ : Loc) (H : AHeap) (r : List AV × AHeap) : Prop :=
  ∀ (sc : Scope) (vars : List Str) (Es : List Expr) (env : Env) (L : Addr) (m : Str → Option Value) (φ : List Lc) (A : Around) (s : Shared), TEs X P sc vars Es l → Cx sc vars env L → St X φ H s.heap → Lo X vars φ s.heap L m ρ → Room d env A →
    ∀ (Er : Value → Shared → Prop) (Q : List Value → Shared → Prop), PostL X φ s r Q → wpAny (model X.prog X.w) A (spliced (Es.map fun e => (false, eval e env))) Q Er s
noncomputable def OkB (op : BoolOp) (d : Nat) (l : List ME) (ρ : Loc) (H : AHeap) (r : AV × AHeap) : Prop :=
  ∃ b, r.1 = .bool b ∧ ∀ (sc : Scope) (vars : List Str) (Es : List Expr) (env : Env) (L : Addr) (m : Str → Option Value) (φ : List Lc) (A : Around) (s : Shared), TEs X P sc vars Es l → Cx sc vars env L → St X φ H s.heap → Lo X vars φ s.heap L m ρ → Room d env A →
    (∀ (pos : Pos) (Er : Value → Shared → Prop) (Q : Value → Shared → Prop), PostE X φ s r Q → wpAny (model X.prog X.w) A (boolOp pos op (evalEach Es env)) Q Er s) ∧
    (∀ (Er : Value → Shared → Prop) (Q : Bool → Shared → Prop), PostB X φ s r.2 b Q → wpAny (model X.prog X.w) A (allTrue op Es env) Q Er s)
noncomputable def ItR (h : Heap) (φ : List Lc) (I : Addr) (src : Src) (i : Nat) : Prop := match src with
  | .lst o => ∃ c, φ[o]? = some c ∧ h.IsListIter I c.a i
  | .vals l => (∃ t items, h.IsTupleIter I t i ∧ h.IsTuple t items ∧ VRs X h φ items.toList l) ∨
      ∃ (a : Int) (n : Nat), l = (List.range n).map (fun (j : Nat) => AV.int (a + j)) ∧ i ≤ n ∧ IsRangeIter h I (a + i) ((n : Int) - i) 1
noncomputable def OkI (d : Nat) (it : MI) (ρ : Loc) (H : AHeap) (r : Src × AHeap) : Prop :=
  ∀ (sc : Scope) (vars : List Str) (Ex : Expr) (env : Env) (L : Addr) (m : Str → Option Value) (φ : List Lc) (A : Around) (s : Shared), TI X P sc vars Ex it → Cx sc vars env L → St X φ H s.heap → Lo X vars φ s.heap L m ρ → Room d env A →
    (∀ x, foldedSetIterable Ex env x = pure x) ∧ ∀ (Er : Value → Shared → Prop) (Q : Value → Shared → Prop), (∀ φ' h' tk I, Step X φ s.heap φ' r.2 h' → ItR X h' φ' I r.1 0 → s.heap.get? I = none → I ∉ addrs φ' → Q (.ref I) { s with heap := h', toks := tk }) →
      wpAny (model X.prog X.w) A (eval Ex env) (fun x s₁ => wpAny (model X.prog X.w) A (pyIter x) Q Er s₁) Er s
inductive FlR (h : Heap) (φ : List Lc) : Flow → Fl → Prop
  | next : FlR h φ .next .next
  | brk : FlR h φ .brk .brk
  | ret {v : Value} {a : AV} : VR X h φ v a → FlR h φ (.ret v) (.ret a)
noncomputable def PostS (vars : List Str) (L : Addr) (N : List Addr) (φ : List Lc) (s : Shared) (r : Fl × Loc × AHeap) (Q : Flow → Shared → Prop) : Prop :=
  ∀ φ' h' tk m' f, StepN X (L :: N) φ s.heap φ' r.2.2 h' → Lo X vars φ' h' L m' r.2.1 → FlR X h' φ' f r.1 → Q f { s with heap := h', toks := tk }
noncomputable def OkS (d : Nat) (st : MS) (ρ : Loc) (H : AHeap) (r : Fl × Loc × AHeap) : Prop :=
  ∀ (sc : Scope) (vars : List Str) (Sx : Stmt) (env : Env) (L : Addr) (m : Str → Option Value) (φ : List Lc) (A : Around) (s : Shared), TS X P sc vars Sx st → Cx sc vars env L → St X φ H s.heap → Lo X vars φ s.heap L m ρ → Room d env A →
    ∀ (Er : Value → Shared → Prop) (Q : Flow → Shared → Prop), PostS X vars L [] φ s r Q → wpAny (model X.prog X.w) A (exec Sx env) Q Er s
noncomputable def OkSs (d : Nat) (l : List MS) (ρ : Loc) (H : AHeap) (r : Fl × Loc × AHeap) : Prop :=
  ∀ (sc : Scope) (vars : List Str) (Sx : List Stmt) (env : Env) (L : Addr) (m : Str → Option Value) (φ : List Lc) (A : Around) (s : Shared), TSs X P sc vars Sx l → Cx sc vars env L → St X φ H s.heap → Lo X vars φ s.heap L m ρ → Room d env A →
    ∀ (Er : Value → Shared → Prop) (Q : Flow → Shared → Prop), PostS X vars L [] φ s r Q → wpAny (model X.prog X.w) A (execs Sx env) Q Er s
noncomputable def OkFor (d x : Nat) (kill : List Nat) (body : List MS) (src : Src) (i : Nat) (ρ : Loc) (H : AHeap) (r : Fl × Loc × AHeap) : Prop :=
  ∀ (sc : Scope) (vars : List Str) (Sx : List Stmt) (xn : Str) (px : Pos) (env : Env) (L I : Addr) (m : Str → Option Value) (φ : List Lc) (A : Around) (s : Shared), vars[x]? = some xn → TSs X P sc vars Sx body → Cx sc vars env L → St X φ H s.heap → Lo X vars φ s.heap L m ρ → Room d env A →
    ItR X s.heap φ I src i → I ∉ addrs φ → I ≠ L → X.h₀.get? I = none →
    ∀ (R : Result → Shared → Prop), PostS X vars L [I] φ s r (fun f s' => R (.ok f) s') → codeAny (model X.prog X.w) A (.forLoop (.Name xn px) (.ref I) Sx [] env) R s
noncomputable def OkWhile (d : Nat) (c : ME) (kill : List Nat) (body : List MS) (ρ : Loc) (H : AHeap) (r : Fl × Loc × AHeap) : Prop :=
  ∀ (sc : Scope) (vars : List Str) (Cx' : Expr) (Sx : List Stmt) (env : Env) (L : Addr) (m : Str → Option Value) (φ : List Lc) (A : Around) (s : Shared), TE X P sc vars Cx' c → TSs X P sc vars Sx body → Cx sc vars env L → St X φ H s.heap → Lo X vars φ s.heap L m ρ → Room d env A →
    ∀ (R : Result → Shared → Prop), PostS X vars L [] φ s r (fun f s' => R (.ok f) s') → codeAny (model X.prog X.w) A (.whileLoop Cx' Sx [] env) R s
noncomputable def OkC (d f : Nat) (args : List AV) (H : AHeap) (r : AV × AHeap) : Prop :=
  ∀ (rargs : List Value) (φ : List Lc) (A : Around) (s : Shared), VRs X s.heap φ rargs args → St X φ H s.heap → RoomC d A →
    ∀ (Er : Value → Shared → Prop) (Q : Value → Shared → Prop), PostE X φ s r Q → wpAny (model X.prog X.w) A (call (.ref (X.fnA f)) rargs) Q Er s

structure FnOk (f : Nat) (fn : Fn) : Prop where
  ex : ∃ o fd body vars, X.h₀.get? (X.fnA f) = some o ∧ o.cls = .type "function" ∧ o.data = .func fd ∧ X.h₀.CodeRec fd.code fd.qualname ∧ fd.body = .stmts body ∧
    (∀ args : List Value, args.length = fn.np → bindArgs fd ⟨args, []⟩ = pure ((vars.take fn.np).zip args)) ∧ fd.scope.isCoroutine = false ∧ fd.scope.isGenerator = false ∧ fd.scope.kind = .function ∧ (∀ x ∈ fd.scope.names, x.2 ≠ .cell) ∧
    vars.length = fn.nl ∧ vars.Nodup ∧ fn.np ≤ fn.nl ∧ (∀ x ∈ vars, fd.scope.names.lookup x = some .local ∧ (x == ("__debug__" : Str)) = false) ∧ fd.globals = mainGlobals ∧ fd.builtins = builtinsNs ∧ TSs X P fd.scope vars body fn.body
structure Wd : Prop where
  t : Txt X P
  fn : ∀ f fn, P.fn f = some fn → FnOk X P f fn
  ini : ∀ c f, P.init c = some f → (P.fn f).isSome = true
  inm : ∀ c n f, P.meth c n = some f → (P.fn f).isSome = true
  tree : X.prog.given.tree = none
end
end Mini
end

noncomputable section -- Snd2
set_option autoImplicit false
set_option linter.unusedVariables false
set_option linter.unusedSimpArgs false
open PySem PySem.Calls PyProof.Rows PySem.W
namespace Mini

section
variable {X : Tx} {P : Prg} {A : Around} {d : Nat} {ρ : Loc} {H : AHeap}

/-- a test whose value is a bool: evaluated, then asked -/
theorem istrue_of {s : Shared} {φ : List Lc} {Ex : Expr} {env : Env} {r : AV × AHeap} (hp : isTrue Ex env (eval Ex env) = (do let v ← eval Ex env; standAt Ex.pos; holding [v] (truthy v)))
    (hE : ∀ (Er : Value → Shared → Prop) (Q : Value → Shared → Prop), PostE X φ s r Q → wpAny (model X.prog X.w) A (eval Ex env) Q Er s) :
    ∀ b, r.1 = .bool b → ∀ (Er : Value → Shared → Prop) (Q : Bool → Shared → Prop), PostB X φ s r.2 b Q → wpAny (model X.prog X.w) A (isTrue Ex env (eval Ex env)) Q Er s :=
  fun b eb Er Q hQ => wpAny_isTrue_value (hE Er _ fun φ' h' tk rv st vr => by
    rw [eb] at vr
    obtain rfl := vr.toBool
    exact wpAny_truthy_bool (hQ φ' h' tk st)) hp

theorem both {s : Shared} {φ : List Lc} {Ex : Expr} {env : Env} {r : AV × AHeap} (hp : isTrue Ex env (eval Ex env) = (do let v ← eval Ex env; standAt Ex.pos; holding [v] (truthy v)))
    (hE : ∀ (Er : Value → Shared → Prop) (Q : Value → Shared → Prop), PostE X φ s r Q → wpAny (model X.prog X.w) A (eval Ex env) Q Er s) :
    (∀ (Er : Value → Shared → Prop) (Q : Value → Shared → Prop), PostE X φ s r Q → wpAny (model X.prog X.w) A (eval Ex env) Q Er s) ∧
    (∀ b, r.1 = .bool b → ∀ (Er : Value → Shared → Prop) (Q : Bool → Shared → Prop), PostB X φ s r.2 b Q → wpAny (model X.prog X.w) A (isTrue Ex env (eval Ex env)) Q Er s) := ⟨hE, istrue_of hp hE⟩

theorem okE_lit (W : Wd X P) {v : AV} : OkE X P d (.lit v) ρ H (v, H) := by
  intro sc vars Ex env L m φ A s t c S o R
  rcases t with ⟨i, k, p, rfl, rfl⟩ | ⟨x, n, k, p, rfl, rfl, hx⟩ | ⟨b, k, p, rfl, rfl⟩ | ⟨i, k, p, p', rfl, rfl⟩ | ⟨k, k', p, p', p'', rfl, rfl⟩ | ⟨x, p, rfl, h1, h2, rv, h3, h4⟩
  · exact both rfl fun Er Q hQ => wpAny_Constant_int (hQ φ s.heap _ _ (.refl S) (.int _ _))
  · exact both rfl fun Er Q hQ => wpAny_Constant_str (hQ φ s.heap _ _ (.refl S) (.sym _ hx))
  · exact both rfl fun Er Q hQ => wpAny_Constant_bool (hQ φ s.heap s.toks _ (.refl S) (.bool b))
  · exact both rfl fun Er Q hQ => wpAny_UnaryOp (wpAny_Constant_int (PySem.P.neg_int (hQ φ s.heap _ _ (.refl S) (.int _ _))))
  · exact both rfl fun Er Q hQ => wpAny_BinOp (wpAny_Constant_int (wpAny_Constant_int (PySem.AutoIntOps.pow_4 (by decide) (by decide) (by decide) (by decide) (by decide +kernel) (by exact hQ φ s.heap _ _ (.refl S) (.int _ _)))))
  · exact both rfl fun Er Q hQ => Name_function_global (by rw [c.isSc, c.kind]) (by rw [c.kindOf]; exact h1) (loadGlobal_global (mg := X.mg) (by rw [c.glob]; exact W.t.g.keeps S.keep) h3 (hQ φ s.heap s.toks _ (.refl S) (h4 _ _ S.keep))) h2

theorem okE_loc {x : Nat} {v : AV} (e : ρ[x]?.join = some v) : OkE X P d (.loc x) ρ H (v, H) := by
  intro sc vars Ex env L m φ A s t c S o R
  obtain ⟨_, p, rfl, hx⟩ := t
  have e' : ρ[x]? = some (some v) := by
    cases q : ρ[x]? with
    | none => rw [q] at e; cases e
    | some y => rw [q] at e; simp at e; rw [e]
  obtain ⟨y, rv, h1, h2, h3⟩ := o.vals x v e'
  obtain rfl := Option.some.inj (hx.symm.trans h1)
  have hn := c.names _ (List.mem_of_getElem? hx)
  exact both rfl fun Er Q hQ => 
    wpAny_Name (wpAny_loadName_local (by rw [c.isSc, c.kind]) (by rw [c.kindOf]; exact hn.1) (by rw [c.loc]; exact o.ns) h2 (hQ φ s.heap s.toks _ (.refl S) h3)) hn.2

theorem okE_attr (W : Wd X P) {e : ME} {n : Nat} {p : AV × AHeap} {v : AV} (i1 : OkE X P d e ρ H p) (ea : attrOf P p.2 p.1 n = some v) : OkE X P d (.attr e n) ρ H (v, p.2) := by
  intro sc vars Ex env L m φ A s t c S o R
  obtain ⟨e', a, pos, rfl, t1, ha, hb⟩ := t
  refine both rfl fun Er Q hQ => ?_
  refine Attribute_any_ ((i1 sc vars e' env L m φ A s t1 c S o R).1 Er _ fun φ₁ h₁ tk₁ rv st₁ vr => ?_) ?_
  · exact p_attr W.t st₁.st vr ea ha fun rv' vr' => hQ φ₁ h₁ _ _ st₁ vr'
  · show (do
      let o ← attributeBase e' a env (eval e' env)
      standAt pos.atName
      let r ← holding [o] (getAttr o a true)
      letTemporaryGo e' o r
      pure r) = _
    rw [base_plain hb]

theorem okE_sub (W : Wd X P) {e i : ME} {p q : AV × AHeap} {v : AV} (i1 : OkE X P d e ρ H p) (i2 : OkE X P d i ρ p.2 q) (ea : subOf P q.2 p.1 q.1 = some v) : OkE X P d (.sub e i) ρ H (v, q.2) := by
  intro sc vars Ex env L m φ A s t c S o R
  obtain ⟨e', i', pos, rfl, t1, n2, t2⟩ := t
  refine both rfl fun Er Q hQ => ?_
  refine Subscript_ ((i1 sc vars e' env L m φ A s t1 c S o R).1 Er _ fun φ₁ h₁ tk₁ rv st₁ vr => ?_)
  refine (i2 sc vars i' env L m φ₁ A { s with heap := h₁, toks := tk₁ } t2 c st₁.st (o.step S st₁) R).1 Er _ fun φ₂ h₂ tk₂ ri st₂ vi => ?_
  exact p_sub W.t st₂.st (by have := R.2.2.1; omega) (st₂.vr st₁.st vr) vi ea (noSlice n2 _ _) fun rv' tk vr' => hQ φ₂ h₂ _ _ (st₁.trans st₂) vr'

theorem okO {sc : Scope} {vars : List Str} {Ex : Option Expr} {e : ME} {env : Env} {L : Addr} {m : Str → Option Value} {φ : List Lc} {s : Shared} {r : AV × AHeap} (i1 : OkE X P d e ρ H r) (t : TO X P sc vars Ex e) (hn : Ex = none → r = (.none, H)) (c : Cx sc vars env L) (S : St X φ H s.heap) (o : Lo X vars φ s.heap L m ρ) (R : Room d env A)
    (Er : Value → Shared → Prop) (Q : Value → Shared → Prop) (hQ : PostE X φ s r Q) : wpAny (model X.prog X.w) A (evalPart Ex env) Q Er s := by
  cases Ex with
  | none =>
    obtain rfl := hn rfl
    exact wpAny_evalPart_none (hQ φ s.heap s.toks _ (.refl S) .none)
  | some x => exact wpAny_evalPart_some ((i1 sc vars _ env L m φ A s t c S o R).1 Er Q hQ)

theorem okE_slice (W : Wd X P) {e lo hi : ME} {p q r : AV × AHeap} {l : List AV} (i1 : OkE X P d e ρ H p) (i2 : OkE X P d lo ρ p.2 q) (i3 : OkE X P d hi ρ q.2 r) (n2 : lo = .lit .none → q = (.none, p.2)) (n3 : hi = .lit .none → r = (.none, q.2)) (ea : sliceOf r.2 p.1 q.1 r.1 = some l) :
    OkE X P d (.slice e lo hi) ρ H (.obj r.2.length, r.2 ++ [.list l]) := by
  intro sc vars Ex env L m φ A s t c S o R
  obtain ⟨e', lo', hi', pos, pos', rfl, t1, t2, t3⟩ := t
  refine both rfl fun Er Q hQ => ?_
  refine Subscript_ ((i1 sc vars e' env L m φ A s t1 c S o R).1 Er _ fun φ₁ h₁ tk₁ rv st₁ vr => ?_)
  refine wpAny_Slice (okO i2 t2 (fun z => n2 (by subst z; exact t2)) c st₁.st (o.step S st₁) R Er _ fun φ₂ h₂ tk₂ rl st₂ vl => ?_)
  refine okO (s := { s with heap := h₂, toks := tk₂ }) i3 t3 (fun z => n3 (by subst z; exact t3)) c st₂.st ((o.step S st₁).step st₁.st st₂) R Er _ fun φ₃ h₃ tk₃ rh st₃ vh => ?_
  refine wpAny_evalPart_none ?_
  have st₄ : Step X φ₃ h₃ φ₃ r.2 (h₃.push { cls := .type "slice", data := .fields #[rl, rh, .none] }) := st₃.st.same fun b ob e => Heap.get?_push_of_some _ e
  have V1 := st₄.vr st₃.st (st₃.vr st₂.st (st₂.vr st₁.st vr))
  have V2 := st₄.vr st₃.st (st₃.vr st₂.st vl)
  have V3 := st₄.vr st₃.st vh
  have tl : ∃ T id, (∀ (hh : Shared), hh.heap = h₃.push { cls := .type "slice", data := .fields #[rl, rh, .none] } → hh.TypeIs rv T) ∧ typeLookup (.type T) "__getitem__" = pure (some (.builtin id)) := by
    refine ⟨"list", "list.__getitem__", fun hh eh => ?_, slot_list_getitem.lookup⟩
    cases hp : p.1 with
    | flist l₀ =>
      rw [hp] at V1
      obtain ⟨a, ob, items, n, rfl, _, e1, e2, _⟩ := V1.toFlist
      exact ⟨ob, by rw [eh]; exact e1, e2⟩
    | obj j =>
      rw [hp] at V1 ea
      obtain ⟨cc, rfl, hc⟩ := V1.toObj
      simp only [sliceOf] at ea
      split at ea
      · rename_i l₀ eh'
        obtain ⟨hd, items, n, q1, q2⟩ := st₄.st.list hc eh'
        exact ⟨_, by rw [eh]; exact q1, rfl⟩
      · cases ea
    | _ => rw [hp] at ea; cases ea
  obtain ⟨T, id, hT, hl⟩ := tl
  refine tail_any (ops := [.ref h₃.objs.size, rv]) (hT _ rfl) hl ?_ rfl
  refine p_slice (s := { s with heap := h₃.push { cls := .type "slice", data := .fields #[rl, rh, .none] }, toks := tk₃ }) st₄.st V1 V2 V3 ea (Heap.IsSliceOf.new ..) fun φ' h' rv' st' vr' => ?_
  exact hQ φ' h' tk₃ rv' (((st₁.trans st₂).trans (st₃.trans st₄)).trans st') vr'

theorem seerAt (W : Wd X P) {sc : Scope} {vars : List Str} {env : Env} {L : Addr} {φ : List Lc} {h : Heap} (c : Cx sc vars env L) (S : St X φ H h) (R : Room d env A) : SeerAt (model X.prog X.w) A h := by
  obtain ⟨l, hl⟩ := R.2.2.2
  exact PySem.SeerAt.of (W.t.seer.keeps S.keep) W.tree hl (by rw [c.isSc, c.gen]) (by rw [c.isSc, c.co]) c.bi c.glob

theorem okE_bin (W : Wd X P) {op : Bop} {a b : ME} {p q : AV × AHeap} {v : AV} (i1 : OkE X P d a ρ H p) (i2 : OkE X P d b ρ p.2 q) (ea : binOf op p.1 q.1 = some v) : OkE X P d (.bin op a b) ρ H (v, q.2) := by
  intro sc vars Ex env L m φ A s t c S o R
  obtain ⟨a', b', pos, rfl, t1, t2⟩ := t
  refine both rfl fun Er Q hQ => ?_
  refine wpAny_BinOp ((i1 sc vars a' env L m φ A s t1 c S o R).1 Er _ fun φ₁ h₁ tk₁ ra st₁ va => ?_)
  refine (i2 sc vars b' env L m φ₁ A { s with heap := h₁, toks := tk₁ } t2 c st₁.st (o.step S st₁) R).1 Er _ fun φ₂ h₂ tk₂ rb st₂ vb => ?_
  exact p_bin W.t st₂.st (by have := R.2.1; show A.depth + 100 < recursionLimit; omega) (st₂.vr st₁.st va) vb ea rfl (seerAt (d := d) W c st₂.st R) fun rv' tk vr' => hQ φ₂ h₂ _ _ (st₁.trans st₂) vr'

theorem okE_cmp (W : Wd X P) {op : Cop} {a b : ME} {p q : AV × AHeap} {v : Bool} (i1 : OkE X P d a ρ H p) (i2 : OkE X P d b ρ p.2 q) (ea : cmpOf P q.2 op p.1 q.1 = some v) : OkE X P d (.cmp op a b) ρ H (.bool v, q.2) := by
  intro sc vars Ex env L m φ A s t c S o R
  obtain ⟨a', b', pos, rfl, t1, n2, t2⟩ := t
  refine ⟨fun Er Q hQ => ?_, fun w ew Er Q hQ => ?_⟩
  · refine wpAny_Compare1 ((i1 sc vars a' env L m φ A s t1 c S o R).1 Er _ fun φ₁ h₁ tk₁ ra st₁ va => ?_) (noMark n2 _)
    refine (i2 sc vars b' env L m φ₁ A { s with heap := h₁, toks := tk₁ } t2 c st₁.st (o.step S st₁) R).1 Er _ fun φ₂ h₂ tk₂ rb st₂ vb => ?_
    exact p_cmp W.t st₂.st (by have := R.2.2.1; omega) (st₂.vr st₁.st va) vb ea rfl fun tk => hQ φ₂ h₂ _ _ (st₁.trans st₂) (.bool v)
  · simp only [AV.bool.injEq] at ew; subst ew
    refine wpAny_isTrue_Compare1 ((i1 sc vars a' env L m φ A s t1 c S o R).1 Er _ fun φ₁ h₁ tk₁ ra st₁ va => ?_) (noMark n2 _)
    refine (i2 sc vars b' env L m φ₁ A { s with heap := h₁, toks := tk₁ } t2 c st₁.st (o.step S st₁) R).1 Er _ fun φ₂ h₂ tk₂ rb st₂ vb => ?_
    exact p_cmp W.t st₂.st (by have := R.2.2.1; omega) (st₂.vr st₁.st va) vb ea rfl fun tk => wpAny_truthy_bool (hQ φ₂ h₂ _ (st₁.trans st₂))

theorem okE_bool {op : BoolOp} {l : List ME} {r : AV × AHeap} {e : ME} (he : e = match op with | .Or => .ors l | .And => .ands l) (i : OkB X P op d l ρ H r) : OkE X P d e ρ H r := by
  obtain ⟨b, eb, i⟩ := i
  intro sc vars Ex env L m φ A s t c S o R
  cases op with
  | Or =>
    subst he
    obtain ⟨_, pos, rfl, t1⟩ := t
    obtain ⟨j1, j2⟩ := i sc vars _ env L m φ A s t1 c S o R
    refine ⟨fun Er Q hQ => j1 pos Er Q hQ, fun w ew Er Q hQ => wpAny_isTrue_BoolOp (j2 Er Q ?_)⟩
    rw [eb] at ew; cases ew; exact hQ
  | And =>
    subst he
    obtain ⟨_, pos, rfl, t1⟩ := t
    obtain ⟨j1, j2⟩ := i sc vars _ env L m φ A s t1 c S o R
    refine ⟨fun Er Q hQ => j1 pos Er Q hQ, fun w ew Er Q hQ => wpAny_isTrue_BoolOp (j2 Er Q ?_)⟩
    rw [eb] at ew; cases ew; exact hQ

theorem okE_ite {e a b : ME} {p r : AV × AHeap} {t : Bool} (i1 : OkE X P d e ρ H p) (et : p.1 = .bool t) (i2 : if t then OkE X P d a ρ p.2 r else OkE X P d b ρ p.2 r) : OkE X P d (.ite e a b) ρ H r := by
  intro sc vars Ex env L m φ A s tt c S o R
  obtain ⟨c', a', b', pos, rfl, t1, t2, t3⟩ := tt
  refine ⟨fun Er Q hQ => ?_, fun w ew Er Q hQ => ?_⟩
  · refine wpAny_IfExp ((i1 sc vars c' env L m φ A s t1 c S o R).2 t et Er _ fun φ₁ h₁ tk₁ st₁ => ?_)
    cases t with
    | true => exact (i2 sc vars a' env L m φ₁ A { s with heap := h₁, toks := tk₁ } t2 c st₁.st (o.step S st₁) R).1 Er _ fun φ₂ h₂ tk₂ rb st₂ vb => hQ φ₂ h₂ _ _ (st₁.trans st₂) vb
    | false => exact (i2 sc vars b' env L m φ₁ A { s with heap := h₁, toks := tk₁ } t3 c st₁.st (o.step S st₁) R).1 Er _ fun φ₂ h₂ tk₂ rb st₂ vb => hQ φ₂ h₂ _ _ (st₁.trans st₂) vb
  · show wpAny _ _ (do
      if ← isTrue c' env (eval c' env) then isTrue a' env (eval a' env) else isTrue b' env (eval b' env)) Q Er s
    refine wpAny_bind ((i1 sc vars c' env L m φ A s t1 c S o R).2 t et Er _ fun φ₁ h₁ tk₁ st₁ => ?_)
    cases t with
    | true => exact (i2 sc vars a' env L m φ₁ A { s with heap := h₁, toks := tk₁ } t2 c st₁.st (o.step S st₁) R).2 w ew Er _ fun φ₂ h₂ tk₂ st₂ => hQ φ₂ h₂ _ (st₁.trans st₂)
    | false => exact (i2 sc vars b' env L m φ₁ A { s with heap := h₁, toks := tk₁ } t3 c st₁.st (o.step S st₁) R).2 w ew Er _ fun φ₂ h₂ tk₂ st₂ => hQ φ₂ h₂ _ (st₁.trans st₂)

theorem okE_list {l : List ME} {p : List AV × AHeap} (i1 : OkL X P d l ρ H p) (hl : p.1.length < big) : OkE X P d (.list l) ρ H (.obj p.2.length, p.2 ++ [.list p.1]) := by
  intro sc vars Ex env L m φ A s t c S o R
  obtain ⟨l', pos, rfl, t1⟩ := t
  refine both rfl fun Er Q hQ => ?_
  refine List_ ?_
  rw [t1.star env pos]
  exact i1 sc vars l' env L m φ A s t1 c S o R Er _ fun φ₁ h₁ tk₁ vs st₁ vv => p_newList st₁.st vv hl fun φ' h' rv st' vr' => hQ φ' h' tk₁ rv (st₁.trans st') vr'
theorem okE_tup {l : List ME} {p : List AV × AHeap} (i1 : OkL X P d l ρ H p) (hl : p.1.length < big) : OkE X P d (.tup l) ρ H (.tup p.1, p.2) := by
  intro sc vars Ex env L m φ A s t c S o R
  obtain ⟨l', k, pos, rfl, t1⟩ := t
  refine both rfl fun Er Q hQ => ?_
  refine Tuple_ ?_
  rw [t1.star env pos]
  exact i1 sc vars l' env L m φ A s t1 c S o R Er _ fun φ₁ h₁ tk₁ vs st₁ vv => p_newTuple st₁.st vv hl fun h' rv st' vr' => hQ φ₁ h' tk₁ rv (st₁.trans st') vr'
theorem okE_dict0 (W : Wd X P) : OkE X P d .dict0 ρ H (.obj H.length, H ++ [.dict []]) := by
  intro sc vars Ex env L m φ A s t c S o R
  obtain ⟨pos, rfl⟩ := t
  exact both rfl fun Er Q hQ => 
    p_dict0 W.t S fun φ' h' rv st' vr' => hQ φ' h' s.toks rv st' vr'
end
end Mini
end

noncomputable section -- Snd3
set_option autoImplicit false
set_option linter.unusedVariables false
set_option linter.unusedSimpArgs false
open PySem PySem.Calls PyProof.Rows PySem.W
namespace Mini

section
variable {X : Tx} {P : Prg} {A : Around} {E : Value → Shared → Prop} {s : Shared} {φ : List Lc} {H : AHeap} {d : Nat} {ρ : Loc}

/-! #### dicts: get and set -/
theorem p_dget (W : Txt X P) (S : St X φ H s.heap) (hu : A.units + 4 < cLine) {rv rk rd : Value} {v k dv : AV} {i : Nat} {es : List (AV × AV)} {Q : Value → Shared → Prop} (hv : VR X s.heap φ rv v) (hk : VR X s.heap φ rk k) (hd : VR X s.heap φ rd dv) (e : dictAt H v = some (i, es)) (hf : keyFits P es k = true)
    (h : ∀ rv' tk, VR X s.heap φ rv' ((dlook es k).getD dv) → Q rv' { s with toks := tk }) : wpAny (model X.prog X.w) A (call (.builtin "dict.get") [rv, rk, rd]) Q E s := by
  obtain ⟨rfl, eh⟩ := dictAt_some e
  obtain ⟨c, rfl, hc⟩ := hv.toObj
  have R := dict_of S hc eh
  obtain ⟨o, en, ep, d1, d2, d3⟩ := R.2.2.1
  have hm : (c.a == sysModules) = false := R.2.1
  have hT : s.TypeIs (.ref c.a) "dict" := ⟨o, d1, d2.1⟩
  rcases key_cases W.T R hk hf with ⟨n, x, t, kvs, rfl, rfl, hx, D, r⟩ | ⟨n, t, kvs, rfl, rfl, D, r⟩ | ⟨ks, a', xs, rfl, rfl, hkey, D, r⟩
  · refine call_meetsIn F.slot_dict_get hT F.entry_dict_get (F.args_dict_get_3 _ _ _) (meets_dict_get_default (strKind X.prog X.w) c.a (strKind_is _ _ x t) hm rd) ⟨_, D.mapOf, ?_⟩
    have z := look_str W.T hx r
    cases q : dlook es (.sym n) with
    | none => rw [z.2 q]; rw [q] at h; exact h _ _ hd
    | some u => obtain ⟨ru, q1, q2⟩ := z.1 _ q; rw [q1]; rw [q] at h; exact h _ _ q2
  · refine call_meetsIn F.slot_dict_get hT F.entry_dict_get (F.args_dict_get_3 _ _ _) (meets_dict_get_default (intKind X.prog X.w) c.a (intKind_is _ _ n t) hm rd) ⟨_, D.mapOf, ?_⟩
    have z := look_int (n := n) r
    cases q : dlook es (.int n) with
    | none => rw [z.2 q]; rw [q] at h; exact h _ _ hd
    | some u => obtain ⟨ru, q1, q2⟩ := z.1 _ q; rw [q1]; rw [q] at h; exact h _ _ q2
  · refine call_meetsIn F.slot_dict_get hT F.entry_dict_get (F.args_dict_get_3 _ _ _) (meetsH_dict_get_default (tupleKind (intKind X.prog X.w)) c.a a' hm rd) ⟨by show A.units + 1 < cLine; omega, ks, xs, hkey, D, ?_⟩
    have z := look_tup (ks := ks) r
    cases q : dlook es (.tup (ks.map AV.int)) with
    | none => rw [z.2 q]; rw [q] at h; exact h _ _ hd
    | some u => obtain ⟨p, q1, q2⟩ := z.1 _ q; rw [q1]; rw [q] at h; exact h _ _ q2

theorem dlook_isSome (es : List (AV × AV)) (k : AV) : (dlook es k).isSome = es.any fun e => decide (e.1 = k) := by
  induction es with
  | nil => rfl
  | cons e es ih =>
    by_cases h : e.1 = k
    · simp [dlook, List.find?, h]
    · simpa [dlook, List.find?, h] using ih

theorem all2_any {α β : Type} {R : α → β → Prop} {p : α → Bool} {q : β → Bool} (hpq : ∀ a b, R a b → p a = q b) : ∀ {as : List α} {bs : List β}, All2 R as bs → as.any p = bs.any q
  | _, _, .nil => rfl
  | _, _, .cons h t => by simp [hpq _ _ h, all2_any hpq t]
theorem all2_map {α β : Type} {R : α → β → Prop} {f : α → α} {g : β → β} (hfg : ∀ a b, R a b → R (f a) (g b)) : ∀ {as : List α} {bs : List β}, All2 R as bs → All2 R (as.map f) (bs.map g)
  | _, _, .nil => .nil
  | _, _, .cons h t => .cons (hfg _ _ h) (all2_map hfg t)
theorem all2_snoc {α β : Type} {R : α → β → Prop} {a : α} {b : β} (h : R a b) : ∀ {as : List α} {bs : List β}, All2 R as bs → All2 R (as ++ [a]) (bs ++ [b])
  | _, _, .nil => .cons h .nil
  | _, _, .cons h' t => .cons h' (all2_snoc h t)

theorem mem_dput {es : List (AV × AV)} {k v : AV} : ∃ e ∈ dput es k v, e.1 = k := by
  unfold dput
  split
  · rename_i h
    rw [dlook_isSome, List.any_eq_true] at h
    obtain ⟨e, he, hk⟩ := h
    exact ⟨_, List.mem_map.mpr ⟨e, he, rfl⟩, by simp at hk; simp [hk]⟩
  · exact ⟨(k, v), by simp, rfl⟩
theorem p_sitem (W : Txt X P) (S : St X φ H s.heap) (hu : A.units + 4 < cLine) {rv rk rd : Value} {v k dv : AV} {i : Nat} {es : List (AV × AV)} {Q : Unit → Shared → Prop} (hv : VR X s.heap φ rv v) (hk : VR X s.heap φ rk k) (hd : VR X s.heap φ rd dv) (e : dictAt H v = some (i, es)) (hf : keyFits P es k = true) (hl : es.length < big)
    (h : ∀ h' tk, Step X φ s.heap φ (H.set i (.dict (dput es k dv))) h' → Q () { s with heap := h', toks := tk }) : wpAny (model X.prog X.w) A (setItem rv rk rd) Q E s := by
  obtain ⟨rfl, eh⟩ := dictAt_some e
  obtain ⟨c, rfl, hc⟩ := hv.toObj
  have R := dict_of S hc eh
  obtain ⟨hcd, hm, ⟨o, en, ep, d1, d2, d3⟩, _⟩ := id R
  have off : ∀ (b : Addr), b ∉ c.all → b ≠ c.a := fun b hb z => hb (by simp [Lc.all, z])
  rcases key_cases W.T R hk hf with ⟨n, x, t, kvs, rfl, rfl, hx, D, r⟩ | ⟨n, t, kvs, rfl, rfl, D, r⟩ | ⟨ks, a', xs, rfl, rfl, hkey, D, r⟩
  · refine wpAny_setItem_pairs (strKind_is _ _ x t) D (fun h' D' hs => h h' _ (S.upd hc (fun b ob eb hb => (hs.2 b (off b hb)).trans eb) fun mono => ?_)) (by rw [r.length, sizeLine_eq]; unfold big at hl; omega)
    obtain ⟨o', es', ep', f1, f2, f3, f4⟩ := id D'
    refine ⟨hcd, hm, ⟨o', es', ep', f1, f2, f3⟩, fun _ => ⟨_, D', ?_⟩, fun q => ?_, fun q => ?_⟩
    · have r' : All2 (fun kv e => (∃ m, e.1 = AV.sym m ∧ X.tbl[m]? = some kv.1) ∧ VR X h' φ kv.2 e.2) kvs es := r.imp fun a b z => ⟨z.1, mono _ _ z.2⟩
      have hpq : ∀ (kv : Str × Value) (e : AV × AV), ((∃ m, e.1 = AV.sym m ∧ X.tbl[m]? = some kv.1) ∧ VR X h' φ kv.2 e.2) → (decide (kv.1 = x)) = decide (e.1 = AV.sym n) := by
        rintro kv e ⟨⟨m, em, ex⟩, _⟩
        by_cases q : kv.1 = x
        · obtain rfl := W.T.inj' (q ▸ ex) hx; simp [q, em]
        · have : ¬ e.1 = AV.sym n := fun z => by rw [em] at z; cases z; exact q (Option.some.inj (ex.symm.trans hx))
          simp [q, this]
      unfold stored dput
      rw [dlook_isSome, all2_any hpq r']
      split
      · refine all2_map (fun kv e z => ?_) r'
        have q := hpq kv e z
        by_cases hh : kv.1 = x
        · have : e.1 = AV.sym n := by simpa [hh] using q
          rw [if_pos hh, if_pos this]; exact ⟨z.1, mono _ _ hd⟩
        · have : ¬ e.1 = AV.sym n := by simpa [hh] using q
          rw [if_neg hh, if_neg this]; exact z
      · exact all2_snoc ⟨⟨n, rfl, hx⟩, mono _ _ hd⟩ r'
    · obtain ⟨e, he, hk'⟩ := mem_dput (es := es) (k := .sym n) (v := dv)
      have := q e he; rw [hk'] at this; cases this
    · obtain ⟨e, he, hk'⟩ := mem_dput (es := es) (k := .sym n) (v := dv)
      have := q e he; rw [hk'] at this; cases this
  · refine wpAny_setItem_pairs (intKind_is _ _ n t) D (fun h' D' hs => h h' _ (S.upd hc (fun b ob eb hb => (hs.2 b (off b hb)).trans eb) fun mono => ?_)) (by rw [r.length, sizeLine_eq]; unfold big at hl; omega)
    obtain ⟨o', es', ep', f1, f2, f3, f4⟩ := id D'
    refine ⟨hcd, hm, ⟨o', es', ep', f1, f2, f3⟩, fun q => ?_, fun _ => ⟨_, D', ?_⟩, fun q => ?_⟩
    · obtain ⟨e, he, hk'⟩ := mem_dput (es := es) (k := .int n) (v := dv)
      have := q e he; rw [hk'] at this; cases this
    · have r' : All2 (fun kv e => e.1 = AV.int kv.1 ∧ VR X h' φ kv.2 e.2) kvs es := r.imp fun a b z => ⟨z.1, mono _ _ z.2⟩
      have hpq : ∀ (kv : Int × Value) (e : AV × AV), (e.1 = AV.int kv.1 ∧ VR X h' φ kv.2 e.2) → (decide (kv.1 = n)) = decide (e.1 = AV.int n) := by
        rintro kv e ⟨em, _⟩
        simp [em]
      unfold stored dput
      rw [dlook_isSome, all2_any hpq r']
      split
      · refine all2_map (fun kv e z => ?_) r'
        have q := hpq kv e z
        by_cases hh : kv.1 = n
        · have : e.1 = AV.int n := by simpa [hh] using q
          rw [if_pos hh, if_pos this]; exact ⟨z.1, mono _ _ hd⟩
        · have : ¬ e.1 = AV.int n := by simpa [hh] using q
          rw [if_neg hh, if_neg this]; exact z
      · exact all2_snoc ⟨rfl, mono _ _ hd⟩ r'
    · obtain ⟨e, he, hk'⟩ := mem_dput (es := es) (k := .int n) (v := dv)
      have := q e he; rw [hk'] at this; cases this
  · refine wpAny_setItem_heap (knd := tupleKind (intKind X.prog X.w)) (by show A.units + 1 < cLine; omega) hkey D (fun h' D' hs => h h' _ (S.upd hc (fun b ob eb hb => (hs.2 b (off b hb)).trans eb) fun mono => ?_)) (by rw [r.length, sizeLine_eq]; unfold big at hl; omega)
    obtain ⟨o', es', ep', f1, f2, f3, f4⟩ := id D'
    refine ⟨hcd, hm, ⟨o', es', ep', f1, f2, f3⟩, fun q => ?_, fun q => ?_, fun _ => ⟨_, D', ?_⟩⟩
    · obtain ⟨e, he, hk'⟩ := mem_dput (es := es) (k := .tup (ks.map AV.int)) (v := dv)
      have := q e he; rw [hk'] at this; cases this
    · obtain ⟨e, he, hk'⟩ := mem_dput (es := es) (k := .tup (ks.map AV.int)) (v := dv)
      have := q e he; rw [hk'] at this; cases this
    · have r' : All2 (fun x e => e.1 = AV.tup (x.1.map AV.int) ∧ VR X h' φ x.2.2 e.2) xs es := r.imp fun a b z => ⟨z.1, mono _ _ z.2⟩
      have hpq : ∀ (x : List Int × Addr × Value) (e : AV × AV), (e.1 = AV.tup (x.1.map AV.int) ∧ VR X h' φ x.2.2 e.2) → (decide (x.1 = ks)) = decide (e.1 = AV.tup (ks.map AV.int)) := by
        rintro x e ⟨em, _⟩
        by_cases q : x.1 = ks
        · simp [q, em]
        · have : ¬ e.1 = AV.tup (ks.map AV.int) := fun z => by rw [em] at z; exact q (mapInt_inj (by simpa using z))
          simp [q, this]
      have hat : (atKey xs ks).isSome = xs.any fun x => decide (x.1 = ks) := by
        clear r r' D D' f1 f2 f3 f4 hpq
        induction xs with
        | nil => rfl
        | cons x xs ih =>
          by_cases q : x.1 = ks
          · simp [atKey, List.find?, q]
          · simpa [atKey, List.find?, q] using ih
      unfold storedH dput
      rw [dlook_isSome, hat, all2_any hpq r']
      split
      · refine all2_map (fun x e z => ?_) r'
        have q := hpq x e z
        unfold putAt
        by_cases hh : x.1 = ks
        · have : e.1 = AV.tup (ks.map AV.int) := by simpa [hh] using q
          rw [if_pos hh, if_pos this]; exact ⟨z.1, mono _ _ hd⟩
        · have : ¬ e.1 = AV.tup (ks.map AV.int) := by simpa [hh] using q
          rw [if_neg hh, if_neg this]; exact z
      · exact all2_snoc ⟨rfl, mono _ _ hd⟩ r'
end
end Mini
end

noncomputable section -- Snd4
set_option autoImplicit false
set_option linter.unusedVariables false
set_option linter.unusedSimpArgs false
open PySem PySem.Calls PyProof.Rows PySem.W
namespace Mini

section
variable {X : Tx} {P : Prg} {A : Around} {d : Nat} {ρ : Loc} {H : AHeap}

/-! #### lists of terms -/
theorem okL_nil : OkL X P d [] ρ H ([], H) := by
  intro sc vars Es env L m φ A s t c S o R Er Q hQ
  subst t
  exact Calls.spliced_nil (hQ φ s.heap s.toks _ (.refl S) .nil)
theorem okL_cons {e : ME} {l : List ME} {p : AV × AHeap} {q : List AV × AHeap} (i1 : OkE X P d e ρ H p) (i2 : OkL X P d l ρ p.2 q) : OkL X P d (e :: l) ρ H (p.1 :: q.1, q.2) := by
  intro sc vars Es env L m φ A s t c S o R Er Q hQ
  obtain ⟨e', l', rfl, n1, t1, t2⟩ := t
  refine Calls.spliced_cons ((i1 sc vars e' env L m φ A s t1 c S o R).1 Er _ fun φ₁ h₁ tk₁ rv st₁ vr => ?_)
  refine i2 sc vars l' env L m φ₁ A { s with heap := h₁, toks := tk₁ } t2 c st₁.st (o.step S st₁) R Er _ fun φ₂ h₂ tk₂ vs st₂ vv => ?_
  exact hQ φ₂ h₂ tk₂ _ (st₁.trans st₂) (.cons (st₂.vr st₁.st vr) vv)

/-! #### and, or -/
theorem okOr_one {e : ME} {p : AV × AHeap} {b : Bool} (i1 : OkE X P d e ρ H p) (eb : p.1 = .bool b) : OkB X P .Or d [e] ρ H (.bool b, p.2) := by
  refine ⟨b, rfl, fun sc vars Es env L m φ A s t c S o R => ?_⟩
  obtain ⟨e', l', rfl, n1, t1, t2⟩ := t
  subst t2
  refine ⟨fun pos Er Q hQ => ?_, fun Er Q hQ => ?_⟩
  · show wpAny _ _ (eval e' env) Q Er s
    exact (i1 sc vars e' env L m φ A s t1 c S o R).1 Er _ fun φ₁ h₁ tk₁ rv st₁ vr => hQ φ₁ h₁ tk₁ rv st₁ (eb ▸ vr)
  · refine wpAny_allTrue_Or_cons ((i1 sc vars e' env L m φ A s t1 c S o R).2 b eb Er _ fun φ₁ h₁ tk₁ st₁ => ?_)
    cases b with
    | true => exact hQ φ₁ h₁ tk₁ st₁
    | false => exact wpAny_allTrue_Or_nil (hQ φ₁ h₁ tk₁ st₁)
theorem okAnd_one {e : ME} {p : AV × AHeap} {b : Bool} (i1 : OkE X P d e ρ H p) (eb : p.1 = .bool b) : OkB X P .And d [e] ρ H (.bool b, p.2) := by
  refine ⟨b, rfl, fun sc vars Es env L m φ A s t c S o R => ?_⟩
  obtain ⟨e', l', rfl, n1, t1, t2⟩ := t
  subst t2
  refine ⟨fun pos Er Q hQ => ?_, fun Er Q hQ => ?_⟩
  · show wpAny _ _ (eval e' env) Q Er s
    exact (i1 sc vars e' env L m φ A s t1 c S o R).1 Er _ fun φ₁ h₁ tk₁ rv st₁ vr => hQ φ₁ h₁ tk₁ rv st₁ (eb ▸ vr)
  · refine wpAny_allTrue_And_cons ((i1 sc vars e' env L m φ A s t1 c S o R).2 b eb Er _ fun φ₁ h₁ tk₁ st₁ => ?_)
    cases b with
    | true => exact wpAny_allTrue_And_nil (hQ φ₁ h₁ tk₁ st₁)
    | false => exact hQ φ₁ h₁ tk₁ st₁
theorem boolOp_cons {M : Model} {s : Shared} {E : Value → Shared → Prop} {pos : Pos} {op : BoolOp} {x y : Sem Value} {r : List (Sem Value)} {Q : Value → Shared → Prop}
    (h : wpAny M A x (fun v s₁ => ∃ b, v = .bool b ∧ match op, b with | .And, false | .Or, true => Q v s₁ | _, _ => wpAny M A (boolOp pos op (y :: r)) Q E s₁) E s) : wpAny M A (boolOp pos op (x :: y :: r)) Q E s := by
  change wpAny M A (Bind.bind x _) Q E s
  refine wpAny_bind (wpAny_mono h (fun v s₁ h₁ => ?_) fun _ _ x => x)
  obtain ⟨b, rfl, h₂⟩ := h₁
  refine wpAny_bind (wpAny_standAt (wpAny_bind (wpAny_holding (wpAny_truthy_bool ?_))))
  cases op <;> cases b <;> first | exact wpAny_pure h₂ | exact h₂
theorem okOr_cons {e : ME} {l : List ME} {p r : AV × AHeap} {t : Bool} (i1 : OkE X P d e ρ H p) (eb : p.1 = .bool t) (hl : l ≠ []) (i2 : if t then r = (.bool true, p.2) else OkB X P .Or d l ρ p.2 r) : OkB X P .Or d (e :: l) ρ H r := by
  have hb : ∃ b, r.1 = .bool b := by
    cases t with
    | true => exact ⟨true, by rw [i2]⟩
    | false => exact ⟨_, i2.choose_spec.1⟩
  obtain ⟨b, hb⟩ := hb
  refine ⟨b, hb, fun sc vars Es env L m φ A s tt c S o R => ?_⟩
  obtain ⟨e', l', rfl, n1, t1, t2⟩ := tt
  refine ⟨fun pos Er Q hQ => ?_, fun Er Q hQ => ?_⟩
  · cases l with
    | nil => exact absurd rfl hl
    | cons m₂ r₂ =>
      obtain ⟨e₂, l₂, rfl, n3, t3, t4⟩ := t2
      refine boolOp_cons ((i1 sc vars e' env L m φ A s t1 c S o R).1 Er _ fun φ₁ h₁ tk₁ rv st₁ vr => ?_)
      rw [eb] at vr
      obtain rfl := vr.toBool
      refine ⟨t, rfl, ?_⟩
      cases t with
      | true =>
        simp only [if_true] at i2; subst i2
        exact hQ φ₁ h₁ tk₁ _ st₁ (.bool true)
      | false =>
        simp only [Bool.false_eq_true, if_false] at i2
        obtain ⟨b', hb', i2⟩ := i2
        exact (i2 sc vars _ env L m φ₁ A { s with heap := h₁, toks := tk₁ } ⟨_, _, rfl, n3, t3, t4⟩ c st₁.st (o.step S st₁) R).1 pos Er Q fun φ₂ h₂ tk₂ rb st₂ vb => hQ φ₂ h₂ tk₂ rb (st₁.trans st₂) vb
  · refine wpAny_allTrue_Or_cons ((i1 sc vars e' env L m φ A s t1 c S o R).2 t eb Er _ fun φ₁ h₁ tk₁ st₁ => ?_)
    cases t with
    | true =>
      simp only [if_true] at i2; subst i2
      cases hb
      exact hQ φ₁ h₁ tk₁ st₁
    | false =>
      simp only [Bool.false_eq_true, if_false] at i2
      obtain ⟨b', hb', i2⟩ := i2
      obtain rfl : b = b' := by rw [hb] at hb'; cases hb'; rfl
      exact (i2 sc vars _ env L m φ₁ A { s with heap := h₁, toks := tk₁ } t2 c st₁.st (o.step S st₁) R).2 Er Q fun φ₂ h₂ tk₂ st₂ => hQ φ₂ h₂ tk₂ (st₁.trans st₂)
theorem okAnd_cons {e : ME} {l : List ME} {p r : AV × AHeap} {t : Bool} (i1 : OkE X P d e ρ H p) (eb : p.1 = .bool t) (hl : l ≠ []) (i2 : if t then OkB X P .And d l ρ p.2 r else r = (.bool false, p.2)) : OkB X P .And d (e :: l) ρ H r := by
  have hb : ∃ b, r.1 = .bool b := by
    cases t with
    | false => exact ⟨false, by rw [i2]⟩
    | true => exact ⟨_, i2.choose_spec.1⟩
  obtain ⟨b, hb⟩ := hb
  refine ⟨b, hb, fun sc vars Es env L m φ A s tt c S o R => ?_⟩
  obtain ⟨e', l', rfl, n1, t1, t2⟩ := tt
  refine ⟨fun pos Er Q hQ => ?_, fun Er Q hQ => ?_⟩
  · cases l with
    | nil => exact absurd rfl hl
    | cons m₂ r₂ =>
      obtain ⟨e₂, l₂, rfl, n3, t3, t4⟩ := t2
      refine boolOp_cons ((i1 sc vars e' env L m φ A s t1 c S o R).1 Er _ fun φ₁ h₁ tk₁ rv st₁ vr => ?_)
      rw [eb] at vr
      obtain rfl := vr.toBool
      refine ⟨t, rfl, ?_⟩
      cases t with
      | false =>
        simp only [Bool.false_eq_true, if_false] at i2; subst i2
        exact hQ φ₁ h₁ tk₁ _ st₁ (.bool false)
      | true =>
        simp only [if_true] at i2
        obtain ⟨b', hb', i2⟩ := i2
        exact (i2 sc vars _ env L m φ₁ A { s with heap := h₁, toks := tk₁ } ⟨_, _, rfl, n3, t3, t4⟩ c st₁.st (o.step S st₁) R).1 pos Er Q fun φ₂ h₂ tk₂ rb st₂ vb => hQ φ₂ h₂ tk₂ rb (st₁.trans st₂) vb
  · refine wpAny_allTrue_And_cons ((i1 sc vars e' env L m φ A s t1 c S o R).2 t eb Er _ fun φ₁ h₁ tk₁ st₁ => ?_)
    cases t with
    | false =>
      simp only [Bool.false_eq_true, if_false] at i2; subst i2
      cases hb
      exact hQ φ₁ h₁ tk₁ st₁
    | true =>
      simp only [if_true] at i2
      obtain ⟨b', hb', i2⟩ := i2
      obtain rfl : b = b' := by rw [hb] at hb'; cases hb'; rfl
      exact (i2 sc vars _ env L m φ₁ A { s with heap := h₁, toks := tk₁ } t2 c st₁.st (o.step S st₁) R).2 Er Q fun φ₂ h₂ tk₂ st₂ => hQ φ₂ h₂ tk₂ (st₁.trans st₂)

/-! #### calls -/
theorem evalArgs_all {M : Model} {s : Shared} {E : Value → Shared → Prop} {f : Value} {l : List Expr} {g : Expr → Sem Value} {Q : Args → Shared → Prop}
    (h : wpAny M A (spliced (l.map fun e => (false, g e))) (fun vs s' => Q ⟨vs, []⟩ s') E s) : wpAny M A (evalArgs f true (l.map fun e => (false, g e)) []) Q E s := by
  cases l with
  | cons e l => exact Calls.evalArgs_plain h
  | nil =>
    show wpAny M A (spliced [] >>= _) Q E s
    refine wpAny_bind (wpAny_mono h (fun vs s' h' => ?_) fun _ _ x => x)
    refine wpAny_bind (wpAny_pure ?_)
    refine wpAny_holding ?_
    exact wpAny_bind (wpAny_pure (wpAny_bind (wpAny_pure (wpAny_pure h'))))
theorem TEs.plain {sc : Scope} {vars : List Str} {l : List Expr} {ml : List ME} (t : TEs X P sc vars l ml) (env : Env) (pos : Pos) : (backTo pos (starEach l env)).any (·.1) = false := by
  rw [t.star env pos]; simp

/-- a method's call: the object, then the method, then the arguments -/
theorem wpAny_methCall {M : Model} {s : Shared} {E : Value → Shared → Prop} {env : Env} {o : Expr} {name : Str} {apos pos : Pos} {args : List Expr} {trees : List (Bool × Sem Value)} {Q : Value → Shared → Prop}
    (hb : plainBase o = true) (hline : (apos.endLine == pos.line) = true) (htrees : backTo pos (starEach args env) = trees) (hplain : trees.all (fun x => !x.1) = true) (hlen : args.length < 20)
    (h : wpAny M A (eval o env) (fun ov s₁ => ∀ pl, wpAny M A (getMethod ov name pl) (fun r s₂ => wpAny M A (callWith pos r.1 r.2 trees []) Q E s₂) E s₁) E s) :
    wpAny M A (eval (.Call (.Attribute o name apos) args [] pos) env) Q E s := by
  subst htrees
  rw [arm_eval_Call, base_plain hb]
  refine wpAny_bind (wpAny_mono h (fun ov s₁ h₁ => ?_) fun _ _ e => e)
  refine wpAny_bind (wpAny_standAt ?_)
  have hform : methodCallForm (args.length + ([] : List Keyword).length) (backTo pos (starEach args env)) (backToKw pos (keywordEach [] env)) = true := by
    unfold methodCallForm
    rw [hplain]
    show (true && true && decide (args.length + 0 + 0 < 30)) = true
    simp; omega
  have hpos : methodCallPos true o env apos pos = pure pos := by unfold methodCallPos; simp [hline]
  unfold methodCall
  rw [hform]
  refine wpAny_bind (wpAny_holding (wpAny_mono (h₁ _) (fun r s₂ h₂ => ?_) fun _ _ x => x))
  exact wpAny_bind (wpAny_of_eq hpos h₂)

theorem fn_at (W : Wd X P) {f : Nat} (hf : (P.fn f).isSome = true) : ∃ o fd, X.h₀.get? (X.fnA f) = some o ∧ o.cls = .type "function" ∧ o.data = .func fd := by
  obtain ⟨fn, e⟩ := Option.isSome_iff_exists.mp hf
  obtain ⟨o, fd, body, vars, e1, e2, e3, _⟩ := (W.fn f fn e).ex
  exact ⟨o, fd, e1, e2, e3⟩

theorem okE_call (W : Wd X P) {f : Nat} {l : List ME} {p : List AV × AHeap} {r : AV × AHeap} (i1 : OkL X P d l ρ H p) (i2 : OkC X d f p.1 p.2 r) : OkE X P d (.call f l) ρ H r := by
  intro sc vars Ex env L m φ A s t c S o R
  obtain ⟨x, l', pos, pos', rfl, hg, hf, t1⟩ := t
  obtain ⟨of, fd, e1, e2, e3⟩ := fn_at W hf
  refine both rfl fun Er Q hQ => ?_
  refine wpAny_Call_NameR (Name_function_global (by rw [c.isSc, c.kind]) (by rw [c.kindOf]; exact hg.1) (loadGlobal_global (mg := X.mg) (by rw [c.glob]; exact W.t.g.keeps S.keep) hg.2.2 ?_) hg.2.1)
  rw [t1.star env pos]
  refine callWith_function (o := of) (fd := fd) (evalArgs_all ?_)
  refine i1 sc vars l' env L m φ A s t1 c S o R Er _ fun φ₁ h₁ tk₁ vs st₁ vv => ⟨⟨st₁.st.keep _ _ e1, e3⟩, ?_⟩
  exact i2 vs φ₁ A { s with heap := h₁, toks := tk₁ } vv st₁.st R.toC Er _ fun φ₂ h₂ tk₂ rv st₂ vr => hQ φ₂ h₂ tk₂ rv (st₁.trans st₂) vr

theorem okE_meth (W : Wd X P) {e : ME} {n i k f : Nat} {l : List ME} {p : AV × AHeap} {q : List AV × AHeap} {ats : List (Nat × AV)} {r : AV × AHeap} (i1 : OkE X P d e ρ H p) (i2 : OkL X P d l ρ p.2 q) (ei : instAt p.2 p.1 = some (i, k, ats)) (el : (ats.lookup n).isSome = false) (em : P.meth k n = some f)
    (i3 : OkC X d f (p.1 :: q.1) q.2 r) : OkE X P d (.meth e n l) ρ H r := by
  intro sc vars Ex env L m φ A s t c S o R
  obtain ⟨e', a, l', pos, pos', rfl, t1, hx, hb, hline, hlen, t2⟩ := t
  obtain ⟨of, fd, e1, e2, e3⟩ := fn_at W (W.inm _ _ _ em)
  refine both rfl fun Er Q hQ => ?_
  refine wpAny_methCall hb hline (t2.star env pos) (by simp) hlen ((i1 sc vars e' env L m φ A s t1 c S o R).1 Er _ fun φ₁ h₁ tk₁ ro st₁ vr pl => ?_)
  refine p_meth W.t st₁.st vr ei el em hx e1 e2 ?_
  refine callWith_function (o := of) (fd := fd) (evalArgs_all ?_)
  refine i2 sc vars l' env L m φ₁ A { s with heap := h₁, toks := tk₁ } t2 c st₁.st (o.step S st₁) R Er _ fun φ₂ h₂ tk₂ vs st₂ vv => ⟨⟨st₂.st.keep _ _ e1, e3⟩, ?_⟩
  exact i3 (ro :: vs) φ₂ A { s with heap := h₂, toks := tk₂ } (.cons (st₂.vr st₁.st vr) vv) st₂.st R.toC Er _ fun φ₃ h₃ tk₃ rv st₃ vr' => hQ φ₃ h₃ tk₃ rv ((st₁.trans st₂).trans st₃) vr'
end
end Mini
end

noncomputable section -- Snd5
set_option autoImplicit false
set_option linter.unusedVariables false
set_option linter.unusedSimpArgs false
open PySem PySem.Calls PyProof.Rows PySem.W
namespace Mini

section
variable {X : Tx} {P : Prg} {A : Around} {d : Nat} {ρ : Loc} {H : AHeap}

theorem lookup_of_mem {x : Str} {y : Value} : ∀ {l : List (Str × Value)}, (l.map (·.1)).Nodup → (x, y) ∈ l → l.lookup x = some y
  | [], _, h => by cases h
  | (a, b) :: l, nd, h => by
    simp only [List.map_cons, List.nodup_cons] at nd
    by_cases e : x = a
    · subst e
      rcases List.mem_cons.mp h with h | h
      · cases h; simp [List.lookup]
      · exact absurd (List.mem_map.mpr ⟨_, h, rfl⟩) nd.1
    · have hb : (x == a) = false := by simpa using e
      simp only [List.lookup, hb]
      rcases List.mem_cons.mp h with h | h
      · cases h; exact absurd rfl e
      · exact lookup_of_mem nd.2 h

theorem okC_call (W : Wd X P) {f : Nat} {fn : Fn} {args : List AV} {r : Fl × Loc × AHeap} {v : AV} (ef : P.fn f = some fn) (el : args.length = fn.np) (i : OkSs X P d fn.body (args.map some ++ List.replicate (fn.nl - fn.np) none) H r)
    (ev : r.1 = .ret v ∨ (r.1 = .next ∧ v = .none)) : OkC X (d + 1) f args H (v, r.2.2) := by
  intro rargs φ A s vv S R Er Q hQ
  obtain ⟨o, fd, body, vars, ho, hcls, hdat, hcd, hbody, hbind, hco, hgen, hkind, hcell, hlen, hnd, hnp, hvars, hgl, hbi, ht⟩ := (W.fn f fn ef).ex
  have hra : rargs.length = fn.np := by rw [vv.length, el]
  refine wpAny_call (codeAny_call_def (fd := fd) (body := body) (binds := (vars.take fn.np).zip rargs) (by have := R.2.1; omega) (S.keep _ _ ho) hdat (W.t.lim.keeps S.keep) (hcd.keeps S.keep) hbody (.of_eq (hbind _ hra)) hcell
    (fun x hx => (hvars _ (List.mem_of_mem_take (List.of_mem_zip hx).1)).1) (fun h₀ hns hk => ?_) hco hgen hkind)
  have st₀ : Step X φ s.heap φ H h₀ := S.same hk
  have hLn : s.heap.get? s.heap.objs.size = none := get_none_size _
  have hoff : s.heap.objs.size ∉ addrs φ := fun z => by
    obtain ⟨ob, e, _⟩ := S.at z
    rw [hLn] at e; cases e
  have hnew : X.h₀.get? s.heap.objs.size = none := by
    cases q : X.h₀.get? s.heap.objs.size with
    | none => rfl
    | some ob => have := S.keep _ _ q; rw [hLn] at this; cases this
  have lo : Lo X vars φ h₀ s.heap.objs.size (fun x => ((vars.take fn.np).zip rargs).reverse.lookup x) (args.map some ++ List.replicate (fn.nl - fn.np) none) := by
    refine ⟨hns, hoff, hnew, fun j u e => ?_⟩
    have hj : j < args.length := by
      refine Nat.lt_of_not_le fun hj => ?_
      rw [List.getElem?_append_right (by simpa using hj), List.getElem?_replicate] at e
      split at e <;> cases e
    rw [List.getElem?_append_left (by simpa using hj)] at e
    simp [List.getElem?_map, hj] at e
    obtain ⟨rv, e1, e2⟩ := vv.get (i := j) (a := u) (by simp [hj, e])
    have hjv : j < vars.length := by omega
    refine ⟨vars[j], rv, by simp [hjv], lookup_of_mem ?_ ?_, st₀.vr S e2⟩
    · rw [List.map_reverse, (List.reverse_perm _).nodup_iff, List.map_fst_zip]
      · exact (List.take_sublist _ _).nodup hnd
      · rw [List.length_take]; omega
    · rw [List.mem_reverse]
      refine List.mem_iff_getElem?.mpr ⟨j, ?_⟩
      rw [List.getElem?_zip_eq_some]
      refine ⟨?_, e1⟩
      rw [List.getElem?_take]; simp [hjv]; omega
  have cx : Cx fd.scope vars (callEnv fd s.heap.objs.size (X.fnA f)) s.heap.objs.size := ⟨rfl, hkind, rfl, hgl, hbi, hgen, hco, hvars, hnd⟩
  obtain ⟨l, hl⟩ := R.2.2.2
  refine i fd.scope vars body _ s.heap.objs.size _ φ (A.deeper (callEnv fd s.heap.objs.size (X.fnA f))) { s with heap := h₀, toks := _ } ht cx st₀.st lo ⟨R.1, ?_, ?_, l, ?_⟩ _ _ fun φ' h' tk m' fl st lo' fr => ?_
  · show A.depth + 1 + 2 * d + 200 < recursionLimit; have := R.2.1; omega
  · show A.units + 3 + 16 * d + 200 < cLine; have := R.2.2.1; omega
  · show A.frames.map (_ :: ·) = _; rw [hl]; rfl
  · have st' : Step X φ s.heap φ' r.2.2 h' := by
      obtain ⟨ψ, e1, n1⟩ := st.ext
      refine ⟨⟨ψ, e1, fun x hx => ?_⟩, fun b ob e hb => st.keep b ob (hk _ _ e) hb fun z => ?_, st.st⟩
      · cases q : s.heap.get? x with
        | none => rfl
        | some ob => have := hk _ _ q; rw [n1 x hx] at this; cases this
      · simp at z; rw [z, hLn] at e; cases e
    rcases ev with ev | ⟨ev, rfl⟩
    · rw [ev] at fr
      cases fr with
      | ret vr => exact hQ φ' h' tk _ st' vr
    · rw [ev] at fr
      cases fr
      exact hQ φ' h' tk _ st' .none

theorem okE_new (W : Wd X P) {c f : Nat} {l : List ME} {p : List AV × AHeap} {q : AV × AHeap} (hd : 0 < d) (i1 : OkL X P d l ρ H p) (ei : P.init c = some f) (i2 : OkC X (d - 1) f (.obj p.2.length :: p.1) (p.2 ++ [.inst c []]) q) (eq : q.1 = .none) :
    OkE X P d (.new c l) ρ H (.obj p.2.length, q.2) := by
  intro sc vars Ex env L m φ A s t cx S o R
  obtain ⟨x, l', pos, pos', rfl, hg, hc, t1⟩ := t
  obtain ⟨of, fd, e1, e2, e3⟩ := fn_at W (W.ini _ _ ei)
  obtain ⟨N, mN, X₀, _, _, _, hin, _, _⟩ := (W.t.cls c hc).ex
  refine both rfl fun Er Q hQ => ?_
  have main : ∀ (φ₁ : List Lc) (s₁ : Shared) (vs : List Value), Step X φ s.heap φ₁ p.2 s₁.heap → VRs X s₁.heap φ₁ vs p.1 → (∃ h₁ tk₁, s₁ = { s with heap := h₁, toks := tk₁ }) → wpAny (model X.prog X.w) A (call (.ref (X.cls c)) vs) Q Er s₁ := by
    rintro φ₁ _ vs st₁ vv ⟨h₁, tk₁, rfl⟩
    obtain ⟨hh, g, dd, tt, os⟩ := s
    obtain ⟨nm, q', bs, sn, sub, col, dd', k0, k1, k2, k3, k5, hC⟩ := (X₀.keeps st₁.st.keep).obj
    refine wpAny_call_obj_init PySem.F.objNew hC (X₀.keeps st₁.st.keep).ns (hin f ei) (st₁.st.keep _ _ e1) e2 fun h' x dx Mk => ?_
    obtain ⟨ox, hx, hcx, hncx, hdx⟩ := Mk.inst
    have hdd := Mk.dict ox hx
    have hnsd : h'.Ns1 dx fun _ => none := by
      rcases hdx with ⟨hn0, _⟩ | ⟨d', hd', _, hns'⟩
      · rw [hn0] at hdd; cases hdd
      · obtain rfl := Option.some.inj (hd'.symm.trans hdd); exact hns'
    have hne : dx ≠ x := by
      rcases hdx with ⟨hn0, _⟩ | ⟨d', hd', hne', _⟩
      · rw [hn0] at hdd; cases hdd
      · obtain rfl := Option.some.inj (hd'.symm.trans hdd); exact hne'
    have st₂ : Step X φ₁ h₁ (φ₁ ++ [⟨x, some dx⟩]) (p.2 ++ [.inst c []]) h' := by
      refine st₁.st.new' (c := ⟨x, some dx⟩) Mk.keeps (fun y hy => ?_) ?_ fun mono => ?_
      · simp [Lc.all] at hy
        rcases hy with rfl | rfl
        · exact Mk.newX
        · exact Mk.newD
      · simp [Lc.all]; exact fun z => hne z.symm
      · exact ⟨dx, ox, fun _ => none, rfl, hx, hcx, hdd, hncx, hnsd, fun n v e => by simp at e, fun y hy => absurd rfl hy⟩
    have vr : VR X h' (φ₁ ++ [⟨x, some dx⟩]) (.ref x) (.obj p.2.length) := st₁.st.vrLast ⟨x, some dx⟩
    obtain ⟨l₀, hl₀⟩ := R.2.2.2
    refine i2 (.ref x :: vs) _ (A.under (.builtin "type.__call__" ⟨.ref (X.cls c) :: vs, []⟩)) ⟨h', g, dd, tk₁, os⟩ (.cons vr (st₂.vrs st₁.st vv)) st₂.st ⟨R.1, ?_, ?_, env :: l₀, ?_⟩ Er _ fun φ₃ h₃ tk₃ rv st₃ vr' => ?_
    · show A.depth + 1 + 2 * (d - 1) + 200 < recursionLimit
      have := R.2.1; omega
    · have : (A.under (.builtin "type.__call__" ⟨.ref (X.cls c) :: vs, []⟩)).units = A.units + (Code.builtin "type.__call__" ⟨.ref (X.cls c) :: vs, []⟩).cUnits := rfl
      rw [this]
      have : (Code.builtin "type.__call__" ⟨.ref (X.cls c) :: vs, []⟩).cUnits ≤ 16 := by
        show 1 + 3 * (Code.builtin "type.__call__" ⟨.ref (X.cls c) :: vs, []⟩).frames ≤ 16
        have : (Code.builtin "type.__call__" ⟨.ref (X.cls c) :: vs, []⟩).frames = 0 := rfl
        omega
      have := R.2.2.1; omega
    · show pushEnvs (Code.builtin "type.__call__" ⟨.ref (X.cls c) :: vs, []⟩).envs A.frames = _
      rw [hl₀]; rfl
    · rw [eq] at vr'
      exact ⟨vr'.toNone, hQ φ₃ h₃ tk₃ _ ((st₁.trans st₂).trans st₃) (st₃.vr st₂.st vr)⟩
  refine wpAny_Call_NameR (Name_function_global (by rw [cx.isSc, cx.kind]) (by rw [cx.kindOf]; exact hg.1) (loadGlobal_global (mg := X.mg) (by rw [cx.glob]; exact W.t.g.keeps S.keep) hg.2.2 ?_) hg.2.1)
  cases l with
  | nil =>
    subst t1
    refine callWith_cls0 X₀ S.keep ?_
    have := i1 sc vars [] env L m φ A s rfl cx S o R Er (fun vs s₁ => wpAny (model X.prog X.w) A (call (.ref (X.cls c)) vs) Q Er s₁) fun φ₁ h₁ tk₁ vs st₁ vv => main φ₁ _ vs st₁ vv ⟨h₁, tk₁, rfl⟩
    exact fun Γ p hΓ => (show wpAny _ _ _ _ _ _ from this Γ p hΓ) Γ p hΓ
  | cons ma ml₁ =>
    have t2 := t1
    obtain ⟨a, l₁, rfl, na, ta, tl⟩ := t1
    refine callWith_cls X₀ ?_ (nice_star na _ _) (tl.plain env pos)
    rw [t2.star env pos]
    exact i1 sc vars (a :: l₁) env L m φ A s t2 cx S o R Er _ fun φ₁ h₁ tk₁ vs st₁ vv => ⟨st₁.st.keep, main φ₁ _ vs st₁ vv ⟨h₁, tk₁, rfl⟩⟩

/-! #### the builtins -/
theorem okE_len (W : Wd X P) {e : ME} {p : AV × AHeap} {n : Int} (i1 : OkE X P d e ρ H p) (en : lenOf p.2 p.1 = some n) : OkE X P d (.len e) ρ H (.int n, p.2) := by
  intro sc vars Ex env L m φ A s t c S o R
  obtain ⟨e', pos, pos', rfl, hg, n1, t1⟩ := t
  refine both rfl fun Er Q hQ => ?_
  refine wpAny_Call_NameR (Name_function_global (by rw [c.isSc, c.kind]) (by rw [c.kindOf]; exact hg.1) (loadGlobal_builtin (mg := X.mg) (mb := X.mb) (by rw [c.glob]; exact W.t.g.keeps S.keep) hg.2.2.1 (by rw [c.bi]; exact W.t.b.keeps S.keep) hg.2.2.2 ?_) hg.2.1)
  rw [star_one n1 env pos]
  refine callWith_builtin1 ((i1 sc vars e' env L m φ A s t1 c S o R).1 Er _ fun φ₁ h₁ tk₁ rv st₁ vr => ?_)
  exact p_len st₁.st vr en fun tk t => hQ φ₁ h₁ tk _ st₁ (.int n t)
end
end Mini
end

noncomputable section -- Snd6
set_option autoImplicit false
set_option linter.unusedVariables false
set_option linter.unusedSimpArgs false
open PySem PySem.Calls PyProof.Rows PySem.W
namespace Mini

section
variable {X : Tx} {P : Prg} {A : Around} {d : Nat} {ρ : Loc} {H : AHeap}

theorem glob_builtin (W : Wd X P) {s : Shared} {E : Value → Shared → Prop} {sc : Scope} {vars : List Str} {env : Env} {L : Addr} {φ : List Lc} {x : Str} {v : Value} {p pos : Pos} {args : List Expr} {Q : Value → Shared → Prop} (c : Cx sc vars env L) (S : St X φ H s.heap) (hg : GlobB X sc x v)
    (h : wpAny (model X.prog X.w) A (callWith pos v [] (backTo pos (starEach args env)) []) Q E s) : wpAny (model X.prog X.w) A (eval (.Call (.Name x p) args [] pos) env) Q E s :=
  wpAny_Call_NameR (Name_function_global (by rw [c.isSc, c.kind]) (by rw [c.kindOf]; exact hg.1) (loadGlobal_builtin (mg := X.mg) (mb := X.mb) (by rw [c.glob]; exact W.t.g.keeps S.keep) hg.2.2.1 (by rw [c.bi]; exact W.t.b.keeps S.keep) hg.2.2.2 h) hg.2.1)

theorem okE_listOf (W : Wd X P) {e : ME} {p : AV × AHeap} {i : Nat} {l : List AV} (i1 : OkE X P d e ρ H p) (el : listAt p.2 p.1 = some (i, l)) (hl : l.length < big) : OkE X P d (.listOf e) ρ H (.obj p.2.length, p.2 ++ [.list l]) := by
  intro sc vars Ex env L m φ A s t c S o R
  obtain ⟨e', pos, pos', rfl, hg, n1, t1⟩ := t
  refine both rfl fun Er Q hQ => ?_
  refine glob_builtin W c S hg ?_
  rw [star_one n1 env pos]
  refine callWith_type1 ((i1 sc vars e' env L m φ A s t1 c S o R).1 Er _ fun φ₁ h₁ tk₁ rv st₁ vr => ?_)
  exact p_listOf (s := { s with heap := h₁, toks := tk₁ }) st₁.st vr el hl fun φ' h' rv' st' vr' => hQ φ' h' tk₁ rv' (st₁.trans st') vr'
theorem okE_tupOf (W : Wd X P) {e : ME} {p : AV × AHeap} {i : Nat} {l : List AV} (i1 : OkE X P d e ρ H p) (el : listAt p.2 p.1 = some (i, l)) (hl : l.length < big) : OkE X P d (.tupOf e) ρ H (.tup l, p.2) := by
  intro sc vars Ex env L m φ A s t c S o R
  obtain ⟨e', pos, pos', rfl, hg, n1, t1⟩ := t
  refine both rfl fun Er Q hQ => ?_
  refine glob_builtin W c S hg ?_
  rw [star_one n1 env pos]
  refine callWith_type1 ((i1 sc vars e' env L m φ A s t1 c S o R).1 Er _ fun φ₁ h₁ tk₁ rv st₁ vr => ?_)
  exact p_tupOf (s := { s with heap := h₁, toks := tk₁ }) st₁.st vr el hl fun h' rv' st' vr' => hQ φ₁ h' tk₁ rv' (st₁.trans st') vr'
theorem okE_listRange (W : Wd X P) {e : ME} {p : AV × AHeap} {n : Int} (i1 : OkE X P d e ρ H p) (en : p.1 = .int n) (h0 : -1 ≤ n) (hn : n < big) : OkE X P d (.listRange e) ρ H (.obj p.2.length, p.2 ++ [.list (rints 0 n)]) := by
  intro sc vars Ex env L m φ A s t c S o R
  obtain ⟨e', pos, pos', q, q', rfl, hg, hg', n1, t1⟩ := t
  refine both rfl fun Er Q hQ => ?_
  refine glob_builtin W c S hg ?_
  show wpAny _ _ (callWith pos (.type "list") [] [(false, eval (.Call (.Name "range" q') [e'] [] q) env)] []) Q Er s
  refine callWith_type1 (glob_builtin W c S hg' ?_)
  rw [star_one n1 env q]
  refine callWith_type1 ((i1 sc vars e' env L m φ A s t1 c S o R).1 Er _ fun φ₁ h₁ tk₁ rv st₁ vr => ?_)
  rw [en] at vr
  obtain ⟨t, rfl⟩ := vr.toInt
  refine call_range_1 ?_
  have st₂ : Step X φ₁ h₁ φ₁ p.2 (h₁.push { cls := .type "range", data := .fields #[.int 0 tk₁, .int n t, .int 1 (tk₁ + 1)] }) := st₁.st.same fun b ob e => Heap.get?_push_of_some _ e
  refine p_listRange st₂.st R.1 (IsRange.new h₁ 0 n 1 tk₁ t (tk₁ + 1)) (by decide) (by decide) (by omega) (by unfold big at hn; omega) fun φ' h' rv' tk' st' vr' => ?_
  exact hQ φ' h' tk' rv' ((st₁.trans st₂).trans st') vr'

theorem list_type {h : Heap} {φ : List Lc} {rv : Value} {v : AV} {i : Nat} {l : List AV} {s : Shared} (S : St X φ H s.heap) (vr : VR X s.heap φ rv v) (el : listAt H v = some (i, l)) : s.TypeIs rv "list" ∧ ∀ a, rv = .ref a → ∃ ob, s.heap.get? a = some ob ∧ ob.dict = none := by
  obtain ⟨rfl, eh⟩ := listAt_some el
  obtain ⟨c, rfl, hc⟩ := vr.toObj
  obtain ⟨hd, items, n, q1, q2⟩ := S.list hc eh
  exact ⟨⟨_, q1, rfl⟩, fun a ea => by cases ea; exact ⟨_, q1, rfl⟩⟩

theorem okE_append (W : Wd X P) {e x : ME} {p q : AV × AHeap} {i j : Nat} {l l' : List AV} (i1 : OkE X P d e ρ H p) (e0 : listAt p.2 p.1 = some (j, l')) (i2 : OkE X P d x ρ p.2 q) (el : listAt q.2 p.1 = some (i, l)) (hl : l.length < big) :
    OkE X P d (.append e x) ρ H (.none, q.2.set i (.list (l ++ [q.1]))) := by
  intro sc vars Ex env L m φ A s t c S o R
  obtain ⟨e', x', pos, pos', rfl, t1, n2, t2, hb, hline⟩ := t
  refine both rfl fun Er Q hQ => ?_
  refine wpAny_methCall hb hline (star_one n2 env pos) rfl (by simp) ((i1 sc vars e' env L m φ A s t1 c S o R).1 Er _ fun φ₁ h₁ tk₁ ro st₁ vr pl => ?_)
  obtain ⟨T, hdd⟩ := list_type (h := h₁) (s := { s with heap := h₁, toks := tk₁ }) st₁.st vr e0
  refine getMethod_builtin T F.plainAttrs_list F.slot_list_append F.type_list_append hdd ?_
  have hro : ∃ a, ro = .ref a := by
    obtain ⟨ep, _⟩ := listAt_some e0
    rw [ep] at vr
    obtain ⟨cc, rfl, _⟩ := vr.toObj; exact ⟨_, rfl⟩
  obtain ⟨a, rfl⟩ := hro
  refine PySem.P.append_list ?_
  refine (i2 sc vars x' env L m φ₁ A { s with heap := h₁, toks := tk₁ } t2 c st₁.st (o.step S st₁) R).1 Er _ fun φ₂ h₂ tk₂ rx st₂ vx => ?_
  obtain ⟨D, items, n, e1, e2, e3, e4⟩ := p_append (s := { s with heap := h₂, toks := tk₂ }) (M := ()) (Q := Q) st₂.st (st₂.vr st₁.st vr) vx el hl fun h' st' => hQ φ₂ h' tk₂ _ ((st₁.trans st₂).trans st') .none
  cases e1
  exact ⟨items, n, e2, e3, e4⟩
theorem okE_pop (W : Wd X P) {e : ME} {p : AV × AHeap} {i : Nat} {l : List AV} {v : AV} (i1 : OkE X P d e ρ H p) (el : listAt p.2 p.1 = some (i, l)) (hl : l.length < big) (hv : l.getLast? = some v) :
    OkE X P d (.pop e) ρ H (v, p.2.set i (.list l.dropLast)) := by
  intro sc vars Ex env L m φ A s t c S o R
  obtain ⟨e', pos, pos', rfl, t1, hb, hline⟩ := t
  refine both rfl fun Er Q hQ => ?_
  refine wpAny_methCall hb hline rfl rfl (by simp) ((i1 sc vars e' env L m φ A s t1 c S o R).1 Er _ fun φ₁ h₁ tk₁ ro st₁ vr pl => ?_)
  obtain ⟨T, hdd⟩ := list_type (h := h₁) (s := { s with heap := h₁, toks := tk₁ }) st₁.st vr el
  refine getMethod_builtin T F.plainAttrs_list F.slot_list_pop F.type_list_pop hdd ?_
  exact p_pop (s := { s with heap := h₁, toks := tk₁ }) st₁.st vr el hl hv fun h' rv' st' vr' => hQ φ₁ h' tk₁ rv' (st₁.trans st') vr'
theorem okE_rev (W : Wd X P) {e : ME} {p : AV × AHeap} {i : Nat} {l : List AV} (i1 : OkE X P d e ρ H p) (el : listAt p.2 p.1 = some (i, l)) (hl : l.length < big) :
    OkE X P d (.rev e) ρ H (.none, p.2.set i (.list l.reverse)) := by
  intro sc vars Ex env L m φ A s t c S o R
  obtain ⟨e', pos, pos', rfl, t1, hb, hline⟩ := t
  refine both rfl fun Er Q hQ => ?_
  refine wpAny_methCall hb hline rfl rfl (by simp) ((i1 sc vars e' env L m φ A s t1 c S o R).1 Er _ fun φ₁ h₁ tk₁ ro st₁ vr pl => ?_)
  obtain ⟨T, hdd⟩ := list_type (h := h₁) (s := { s with heap := h₁, toks := tk₁ }) st₁.st vr el
  refine getMethod_builtin T F.plainAttrs_list F.slot_list_reverse F.type_list_reverse hdd ?_
  exact p_rev (s := { s with heap := h₁, toks := tk₁ }) st₁.st vr el hl fun h' st' => hQ φ₁ h' tk₁ _ (st₁.trans st') .none
theorem okE_dget (W : Wd X P) {e k dv : ME} {p q r : AV × AHeap} {i j : Nat} {es es' : List (AV × AV)} (i1 : OkE X P d e ρ H p) (e0 : dictAt p.2 p.1 = some (j, es')) (i2 : OkE X P d k ρ p.2 q) (i3 : OkE X P d dv ρ q.2 r) (el : dictAt r.2 p.1 = some (i, es)) (hf : keyFits P es q.1 = true) :
    OkE X P d (.dget e k dv) ρ H ((dlook es q.1).getD r.1, r.2) := by
  intro sc vars Ex env L m φ A s t c S o R
  obtain ⟨e', k', d', pos, pos', rfl, t1, n2, n3, t2, t3, hb, hline⟩ := t
  refine both rfl fun Er Q hQ => ?_
  refine wpAny_methCall hb hline (star_two n2 n3 env pos) rfl (by simp) ((i1 sc vars e' env L m φ A s t1 c S o R).1 Er _ fun φ₁ h₁ tk₁ ro st₁ vr pl => ?_)
  have T : ({ s with heap := h₁, toks := tk₁ } : Shared).TypeIs ro "dict" ∧ ∀ a, ro = .ref a → ∃ ob, h₁.get? a = some ob ∧ ob.dict = none := by
    obtain ⟨ep, eh⟩ := dictAt_some e0
    rw [ep] at vr
    obtain ⟨cc, rfl, hc⟩ := vr.toObj
    obtain ⟨_, _, ⟨ob, en, ep', q1, q2, q3⟩, p0, p1, p2⟩ := dict_of st₁.st hc eh
    exact ⟨⟨ob, q1, q2.1⟩, fun a ea => by cases ea; exact ⟨ob, q1, q2.2.1⟩⟩
  obtain ⟨T, hdd⟩ := T
  refine getMethod_builtin T F.plainAttrs_dict F.slot_dict_get F.type_dict_get hdd ?_
  refine Calls.callWith_builtin rfl (Calls.evalArgs_plain (Calls.spliced_cons ((i2 sc vars k' env L m φ₁ A { s with heap := h₁, toks := tk₁ } t2 c st₁.st (o.step S st₁) R).1 Er _ fun φ₂ h₂ tk₂ rk st₂ vk => Calls.spliced_cons ?_)))
  refine (i3 sc vars d' env L m φ₂ A { s with heap := h₂, toks := tk₂ } t3 c st₂.st ((o.step S st₁).step st₁.st st₂) R).1 Er _ fun φ₃ h₃ tk₃ rd st₃ vd => Calls.spliced_nil ?_
  refine p_dget (s := { s with heap := h₃, toks := tk₃ }) W.t st₃.st (by have := R.2.2.1; omega) (st₃.vr st₂.st (st₂.vr st₁.st vr)) (st₃.vr st₂.st vk) vd el hf fun rv' tk' vr' => ?_
  exact hQ φ₃ h₃ tk' rv' ((st₁.trans st₂).trans st₃) vr'
end
end Mini
end

noncomputable section -- Snd7
set_option autoImplicit false
set_option linter.unusedVariables false
set_option linter.unusedSimpArgs false
open PySem PySem.Calls PyProof.Rows PySem.W
namespace Mini

section
variable {X : Tx} {P : Prg} {A : Around} {d : Nat} {ρ : Loc} {H H' : AHeap} {vars : List Str} {φ φ' : List Lc} {h h' : Heap} {L I : Addr} {m : Str → Option Value}

theorem StepN.weaken {N N' : List Addr} (s : StepN X N φ h φ' H' h') (hN : ∀ x ∈ N, x ∈ N') : StepN X N' φ h φ' H' h' := ⟨s.ext, fun b o e hb hn => s.keep b o e hb fun z => hn (hN b z), s.st⟩
theorem StepN.drop {N : List Addr} (s : StepN X (L :: I :: N) φ h φ' H' h') (hI : h.get? I = none) : StepN X (L :: N) φ h φ' H' h' := ⟨s.ext, fun b o e hb hn => s.keep b o e hb fun z => by
  rcases List.mem_cons.mp z with z | z
  · exact hn (z ▸ List.mem_cons_self)
  · rcases List.mem_cons.mp z with z | z
    · rw [z, hI] at e; cases e
    · exact hn (List.mem_cons_of_mem _ z), s.st⟩

theorem Lo.put (o : Lo X vars φ h L m ρ) (S : St X φ H h) (nd : vars.Nodup) {x : Nat} {xn : Str} {rv : Value} {v : AV} (hx : vars[x]? = some xn) (hns : h'.Ns L fun y => if y = xn then some rv else m y) (hs : Heap.SameBut L h h') (vr : VR X h φ rv v) :
    StepN X [L] φ h φ H h' ∧ Lo X vars φ h' L (fun y => if y = xn then some rv else m y) (ρ.set x (some v)) := by
  have st : StepN X [L] φ h φ H h' := S.side o.odd (fun x hx => by rw [List.mem_singleton.mp hx]; exact o.new) fun b ob e hb => (hs.2 b (fun z => hb (List.mem_singleton.mpr z))).trans e
  refine ⟨st, ⟨hns, o.off, o.new, fun i u e => ?_⟩⟩
  by_cases hi : x = i
  · subst hi
    have hl : x < ρ.length := by
      have := (List.getElem?_eq_some_iff.mp e).1
      simpa using this
    rw [List.getElem?_set_self hl] at e
    cases e
    exact ⟨xn, rv, hx, by simp, st.vr S o.odd vr⟩
  · rw [List.getElem?_set_ne hi] at e
    obtain ⟨y, rv', e1, e2, e3⟩ := o.vals i u e
    refine ⟨y, rv', e1, ?_, st.vr S o.odd e3⟩
    have : y ≠ xn := fun z => by
      subst z
      obtain ⟨a1, a2⟩ := List.getElem?_eq_some_iff.mp hx
      obtain ⟨b1, b2⟩ := List.getElem?_eq_some_iff.mp e1
      exact hi ((List.getElem_inj nd).mp (a2.trans b2.symm))
    show (if y = xn then _ else _) = _
    rw [if_neg this, e2]

theorem Cx.store {sc : Scope} {env : Env} (c : Cx sc vars env L) {s : Shared} {E : Value → Shared → Prop} {M : Model} (o : Lo X vars φ s.heap L m ρ) (S : St X φ H s.heap) {x : Nat} {xn : Str} {rv : Value} {v : AV} {Q : Unit → Shared → Prop} (hx : vars[x]? = some xn) (vr : VR X s.heap φ rv v)
    (hQ : ∀ h' tk m', StepN X [L] φ s.heap φ H h' → Lo X vars φ h' L m' (ρ.set x (some v)) → Q () { s with heap := h', toks := tk }) : wpAny M A (storeName env xn rv) Q E s := by
  have hn := c.names _ (List.mem_of_getElem? hx)
  refine wpAny_storeName_local (m := m) (by rw [c.kindOf]; exact hn.1) (by rw [c.loc]; exact o.ns) (fun h' hns hs => ?_) (by rw [c.isSc, c.kind]; rfl)
  rw [c.loc] at hns hs
  obtain ⟨st, lo⟩ := o.put S c.nodup hx hns hs vr
  exact hQ h' _ _ st lo

theorem Lo.exists (o : Lo X vars φ h L m ρ) : ∃ ob, h.get? L = some ob := let ⟨ob, _, _, e, _⟩ := o.ns; ⟨ob, e⟩
theorem Lo.exN (o : Lo X vars φ h L m ρ) : ∀ x ∈ [L], ∃ ob, h.get? x = some ob := fun x hx => by rw [List.mem_singleton.mp hx]; exact o.exists

theorem flat_ref {v : Value} {a : AV} (vr : VR X h φ v a) (en : isFlat a = true) : ∀ b, v ≠ .ref b := by
  cases vr <;> first | (intro b q; cases q; done) | cases en
theorem okS_asg {x : Nat} {e : ME} {p : AV × AHeap} (i1 : OkE X P d e ρ H p) : OkS X P d (.asg x e) ρ H (.next, ρ.set x (some p.1), p.2) := by
  intro sc vars Sx env L m φ A s t c S o R Er Q hQ
  obtain ⟨_, _, p, p', rfl, hx, n1, t1⟩ := t
  refine wpAny_Assign_Name ((i1 sc vars _ env L m φ A s t1 c S o R).1 Er _ fun φ₁ h₁ tk₁ rv st₁ vr => ?_) (noSwap n1 _ _ _)
  refine c.store (s := { s with heap := h₁, toks := tk₁ }) (o.step S st₁) st₁.st hx vr fun h' tk m' st lo => ?_
  exact hQ φ₁ h' tk m' _ (st₁.toN.trans st (o.step S st₁).exN) lo .next
theorem okS_ret {e : ME} {p : AV × AHeap} (i1 : OkE X P d e ρ H p) : OkS X P d (.ret e) ρ H (.ret p.1, ρ, p.2) := by
  intro sc vars Sx env L m φ A s t c S o R Er Q hQ
  obtain ⟨_, p, rfl, t1⟩ := t
  exact wpAny_Return_some ((i1 sc vars _ env L m φ A s t1 c S o R).1 Er _ fun φ₁ h₁ tk₁ rv st₁ vr => hQ φ₁ h₁ tk₁ m _ st₁.toN (o.step S st₁) (.ret vr))
theorem okS_expr {e : ME} {p : AV × AHeap} (i1 : OkE X P d e ρ H p) (en : isFlat p.1 = true) : OkS X P d (.expr e) ρ H (.next, ρ, p.2) := by
  intro sc vars Sx env L m φ A s t c S o R Er Q hQ
  obtain ⟨_, p, rfl, n1, t1⟩ := t
  refine wpAny_Expr ((i1 sc vars _ env L m φ A s t1 c S o R).1 Er _ fun φ₁ h₁ tk₁ rv st₁ vr => ?_) c.inter (noSwap n1 _ _ _)
  have := hQ φ₁ h₁ tk₁ m _ st₁.toN (o.step S st₁) .next
  have hn := flat_ref vr en
  cases rv <;> first | exact this | exact absurd rfl (hn _)
theorem okS_brk : OkS X P d .brk ρ H (.brk, ρ, H) := by
  intro sc vars Sx env L m φ A s t c S o R Er Q hQ
  obtain ⟨p, rfl⟩ := t
  exact wpAny_Break (hQ φ s.heap s.toks m _ (Step.refl S).toN o .brk)
theorem okS_sattr (W : Wd X P) {o e : ME} {n i k : Nat} {ats : List (Nat × AV)} {p q : AV × AHeap} (i1 : OkE X P d e ρ H p) (i2 : OkE X P d o ρ p.2 q) (ei : instAt q.2 q.1 = some (i, k, ats)) (hl : ats.length < big) (ha : P.ats k n = true) :
    OkS X P d (.sattr o n e) ρ H (.next, ρ, q.2.set i (.inst k (putAttr ats n p.1))) := by
  intro sc vars Sx env L m φ A s t c S lo R Er Q hQ
  obtain ⟨_, _, _, p, p', rfl, t1, hx, n2, t2⟩ := t
  refine plainObj_wpAny_Assign_Attribute ((i1 sc vars _ env L m φ A s t2 c S lo R).1 Er _ fun φ₁ h₁ tk₁ rv st₁ vr => ?_) (noSwap n2 _ _ _)
  refine (i2 sc vars _ env L m φ₁ A { s with heap := h₁, toks := tk₁ } t1 c st₁.st (lo.step S st₁) R).1 Er _ fun φ₂ h₂ tk₂ ro st₂ vo => ?_
  refine p_sattr (s := { s with heap := h₂, toks := tk₂ }) W.t st₂.st (st₂.vr st₁.st vr) vo ei hl ha hx fun h' tk st' => ?_
  exact hQ φ₂ h' tk m _ ((st₁.trans st₂).trans st').toN (((lo.step S st₁).step st₁.st st₂).step st₂.st st') .next
theorem okS_sitem (W : Wd X P) {o k e : ME} {i : Nat} {es : List (AV × AV)} {p q r : AV × AHeap} (i1 : OkE X P d e ρ H p) (i2 : OkE X P d o ρ p.2 q) (i3 : OkE X P d k ρ q.2 r) (ei : dictAt r.2 q.1 = some (i, es)) (hf : keyFits P es r.1 = true) (hl : es.length < big) :
    OkS X P d (.sitem o k e) ρ H (.next, ρ, r.2.set i (.dict (dput es r.1 p.1))) := by
  intro sc vars Sx env L m φ A s t c S lo R Er Q hQ
  obtain ⟨_, _, _, p, p', rfl, t1, t2, n3, t3⟩ := t
  refine wpAny_Assign_Subscript ((i1 sc vars _ env L m φ A s t3 c S lo R).1 Er _ fun φ₁ h₁ tk₁ rv st₁ vr => ?_) (noSwap n3 _ _ _)
  refine (i2 sc vars _ env L m φ₁ A { s with heap := h₁, toks := tk₁ } t1 c st₁.st (lo.step S st₁) R).1 Er _ fun φ₂ h₂ tk₂ ro st₂ vo => ?_
  refine (i3 sc vars _ env L m φ₂ A { s with heap := h₂, toks := tk₂ } t2 c st₂.st ((lo.step S st₁).step st₁.st st₂) R).1 Er _ fun φ₃ h₃ tk₃ rk st₃ vk => ?_
  refine p_sitem (s := { s with heap := h₃, toks := tk₃ }) W.t st₃.st (by have := R.2.2.1; omega) (st₃.vr st₂.st vo) vk (st₃.vr st₂.st (st₂.vr st₁.st vr)) ei hf hl fun h' tk st' => ?_
  exact hQ φ₃ h' tk m _ (((st₁.trans st₂).trans st₃).trans st').toN ((((lo.step S st₁).step st₁.st st₂).step st₂.st st₃).step st₃.st st') .next

theorem okSs_nil : OkSs X P d [] ρ H (.next, ρ, H) := by
  intro sc vars Sx env L m φ A s t c S o R Er Q hQ
  subst t
  exact wpAny_execs_nil (hQ φ s.heap s.toks m _ (Step.refl S).toN o .next)
theorem okSs_stop {st : MS} {l : List MS} {r : Fl × Loc × AHeap} (i1 : OkS X P d st ρ H r) (hn : r.1 ≠ .next) : OkSs X P d (st :: l) ρ H r := by
  intro sc vars Sx env L m φ A s t c S o R Er Q hQ
  obtain ⟨_, _, rfl, t1, t2⟩ := t
  refine wpAny_execs_cons (i1 sc vars _ env L m φ A s t1 c S o R Er _ fun φ' h' tk m' f st lo fr => ?_)
  have := hQ φ' h' tk m' f st lo fr
  generalize r.1 = g at fr hn
  cases fr with
  | next => exact absurd rfl hn
  | brk => exact this
  | ret => exact this
theorem okSs_cons {st : MS} {l : List MS} {p r : Fl × Loc × AHeap} (i1 : OkS X P d st ρ H p) (hn : p.1 = .next) (i2 : OkSs X P d l p.2.1 p.2.2 r) : OkSs X P d (st :: l) ρ H r := by
  intro sc vars Sx env L m φ A s t c S o R Er Q hQ
  obtain ⟨_, _, rfl, t1, t2⟩ := t
  refine wpAny_execs_cons (i1 sc vars _ env L m φ A s t1 c S o R Er _ fun φ' h' tk m' f st lo fr => ?_)
  rw [hn] at fr
  cases fr
  refine i2 sc vars _ env L m' φ' A { s with heap := h', toks := tk } t2 c st.st lo R Er Q fun φ'' h'' tk' m'' f' st' lo' fr' => ?_
  exact hQ φ'' h'' tk' m'' f' (st.trans st' lo.exN) lo' fr'
theorem okS_ifs {cd : ME} {a b : List MS} {p : AV × AHeap} {t : Bool} {r : Fl × Loc × AHeap} (i1 : OkE X P d cd ρ H p) (et : p.1 = .bool t) (i2 : if t then OkSs X P d a ρ p.2 r else OkSs X P d b ρ p.2 r) : OkS X P d (.ifs cd a b) ρ H r := by
  intro sc vars Sx env L m φ A s tt c S o R Er Q hQ
  obtain ⟨_, _, _, pos, rfl, t1, t2, t3⟩ := tt
  refine wpAny_If ((i1 sc vars _ env L m φ A s t1 c S o R).2 t et Er _ fun φ₁ h₁ tk₁ st₁ => ?_)
  cases t with
  | true => exact i2 sc vars _ env L m φ₁ A { s with heap := h₁, toks := tk₁ } t2 c st₁.st (o.step S st₁) R Er Q fun φ'' h'' tk' m'' f' st' lo' fr' => hQ φ'' h'' tk' m'' f' (st₁.toN.trans st' (o.step S st₁).exN) lo' fr'
  | false => exact i2 sc vars _ env L m φ₁ A { s with heap := h₁, toks := tk₁ } t3 c st₁.st (o.step S st₁) R Er Q fun φ'' h'' tk' m'' f' st' lo' fr' => hQ φ'' h'' tk' m'' f' (st₁.toN.trans st' (o.step S st₁).exN) lo' fr'

theorem okS_while {cd : ME} {kill : List Nat} {body : List MS} {r : Fl × Loc × AHeap} (i1 : OkWhile X P d cd kill body (killAll kill ρ) H r) : OkS X P d (.while_ cd kill body) ρ H r := by
  intro sc vars Sx env L m φ A s tt c S o R Er Q hQ
  obtain ⟨_, _, pos, rfl, t1, t2⟩ := tt
  refine wpAny_While (i1 sc vars _ _ env L m φ A s t1 t2 c S (o.kill kill) R _ fun φ' h' tk m' f st lo fr => ?_)
  exact hQ φ' h' tk m' f st lo fr
theorem okS_for {x : Nat} {it : MI} {kill : List Nat} {body : List MS} {p : Src × AHeap} {r : Fl × Loc × AHeap} (W : Wd X P) (i0 : OkI X P d it ρ H p) (i1 : OkFor X P d x kill body p.1 0 (killAll kill ρ) p.2 r) : OkS X P d (.for_ x it kill body) ρ H r := by
  intro sc vars Sx env L m φ A s tt c S o R Er Q hQ
  obtain ⟨_, _, _, pos, pos', rfl, hx, t1, t2⟩ := tt
  obtain ⟨hf, j⟩ := i0 sc vars _ env L m φ A s t1 c S o R
  refine wpAny_For (j Er _ fun φ₁ h₁ tk₁ I st₁ it hI hoff => ?_) hf
  have hL : I ≠ L := fun z => by obtain ⟨ob, e⟩ := o.exists; rw [← z, hI] at e; cases e
  have hI₀ : X.h₀.get? I = none := by
    cases q : X.h₀.get? I with
    | none => rfl
    | some ob => have := S.keep _ _ q; rw [hI] at this; cases this
  have lo₁ := (o.step S st₁).kill kill
  have hIe : ∃ ob, h₁.get? I = some ob := by
    cases hs : p.1 with
    | lst i =>
      rw [hs] at it
      obtain ⟨cc, _, ob, e, _⟩ := it
      exact ⟨ob, e⟩
    | vals l =>
      rw [hs] at it
      rcases it with ⟨tt, items, ⟨ob, e, _⟩, _⟩ | ⟨a, n, _, _, e⟩
      · exact ⟨ob, e⟩
      · exact ⟨_, e⟩
  refine i1 sc vars _ _ _ env L I m φ₁ A { s with heap := h₁, toks := tk₁ } hx t2 c st₁.st lo₁ R it hoff hL hI₀ _ fun φ' h' tk m' f st lo fr => ?_
  refine hQ φ' h' tk m' f (StepN.drop (I := I) (st₁.toN.trans st fun x hx => ?_) hI) lo fr
  rcases List.mem_cons.mp hx with rfl | hx
  · exact lo₁.exists
  · rw [List.mem_singleton.mp hx]; exact hIe
end
end Mini
end

noncomputable section -- Snd8
set_option autoImplicit false
set_option linter.unusedVariables false
set_option linter.unusedSimpArgs false
open PySem PySem.Calls PyProof.Rows PySem.W
namespace Mini

section
variable {X : Tx} {P : Prg} {A : Around} {d : Nat} {ρ : Loc} {H H' : AHeap} {vars : List Str} {φ φ' : List Lc} {h h' : Heap} {L I : Addr} {m : Str → Option Value}

theorem Step.fresh (S : St X φ H h) (st : Step X φ h φ' H' h') {x : Addr} (hx : h'.get? x = none) : h.get? x = none ∧ x ∉ addrs φ' := by
  have h2 : x ∉ addrs φ' := fun z => by
    obtain ⟨ob, e, _⟩ := st.st.at z
    rw [hx] at e; cases e
  refine ⟨?_, h2⟩
  cases q : h.get? x with
  | none => rfl
  | some ob =>
    have hb : x ∉ addrs φ := fun z => by
      obtain ⟨ψ, e, _⟩ := st.ext
      exact h2 (by rw [e, addrs_append]; exact List.mem_append.mpr (.inl z))
    have := st.keep _ _ q hb
    rw [hx] at this; cases this

/-! #### what is walked -/
theorem okI_tup {e : ME} {p : AV × AHeap} {l : List AV} (i1 : OkE X P d e ρ H p) (ep : p.1 = .tup l) : OkI X P d (.e e) ρ H (.vals l, p.2) := by
  intro sc vars Ex env L m φ A s t c S o R
  obtain ⟨n1, t1⟩ := t
  refine ⟨fun x => noFold n1 _ _, fun Er Q hQ => (i1 sc vars _ env L m φ A s t1 c S o R).1 Er _ fun φ₁ h₁ tk₁ rv st₁ vr => ?_⟩
  rw [ep] at vr
  obtain ⟨a, ob, items, n, rfl, e1, e2, e3, r⟩ := vr.toTup
  refine wpAny_pyIter_tuple (t := a) (items := items) ⟨ob, e1, e2, n, e3⟩ ?_
  have st₂ : Step X φ₁ h₁ φ₁ p.2 (h₁.push { cls := .type "tuple_iterator", data := .fields #[.ref a, .int 0 0] }) := st₁.st.same fun b ob e => Heap.get?_push_of_some _ e
  refine hQ φ₁ _ tk₁ _ (st₁.trans st₂) (.inl ⟨a, items, ⟨_, Heap.get?_push_size _ rfl, rfl, rfl⟩, ⟨ob, Heap.get?_push_of_some _ e1, e2, n, e3⟩, st₂.vrs st₁.st r⟩) ?_ ?_
  · exact (st₁.fresh S (get_none_size _)).1
  · exact (st₁.fresh S (get_none_size _)).2
theorem okI_list {e : ME} {p : AV × AHeap} {i : Nat} {l : List AV} (i1 : OkE X P d e ρ H p) (ep : listAt p.2 p.1 = some (i, l)) : OkI X P d (.e e) ρ H (.lst i, p.2) := by
  intro sc vars Ex env L m φ A s t c S o R
  obtain ⟨n1, t1⟩ := t
  refine ⟨fun x => noFold n1 _ _, fun Er Q hQ => (i1 sc vars _ env L m φ A s t1 c S o R).1 Er _ fun φ₁ h₁ tk₁ rv st₁ vr => ?_⟩
  obtain ⟨ep, eh⟩ := listAt_some ep
  rw [ep] at vr
  obtain ⟨cc, rfl, hc⟩ := vr.toObj
  obtain ⟨hd, items, n, q1, q2⟩ := st₁.st.list hc eh
  refine wpAny_pyIter_list (l := cc.a) (items := items) q1.isList ?_
  have st₂ : Step X φ₁ h₁ φ₁ p.2 (h₁.push { cls := .type "list_iterator", data := .fields #[.ref cc.a, .int 0 0] }) := st₁.st.same fun b ob e => Heap.get?_push_of_some _ e
  refine hQ φ₁ _ tk₁ _ (st₁.trans st₂) ⟨cc, hc, ⟨_, Heap.get?_push_size _ rfl, rfl, rfl⟩⟩ ?_ ?_
  · exact (st₁.fresh S (get_none_size _)).1
  · exact (st₁.fresh S (get_none_size _)).2
theorem rangeIter {s : Shared} {E : Value → Shared → Prop} {a b : Int} {r : Addr} {t u v : Tok} {Q : Value → Shared → Prop} (S : St X φ H s.heap) (hr : IsRange s.heap r a b 1 t u v) (h1 : -(2 ^ 20) ≤ a) (h2 : a < 2 ^ 20) (h3 : -(2 ^ 20) ≤ b) (h4 : b < 2 ^ 20)
    (hQ : ∀ h' I, Step X φ s.heap φ H h' → ItR X h' φ I (.vals (rints a b)) 0 → s.heap.get? I = none → Q (.ref I) { s with heap := h' }) : wpAny (model X.prog X.w) A (pyIter (.ref r)) Q E s := by
  refine wpAny_pyIter_range hr (PySem.small_one (by omega) (by omega) (by omega) (by omega)) (hQ _ _ (S.same fun b ob e => Heap.get?_push_of_some _ e) (.inr ⟨a, (b - a).toNat, rfl, Nat.zero_le _, ?_⟩) (get_none_size _))
  have : Builtin.Range.rangeSize a b 1 = (((b - a).toNat : Int) - ((0 : Nat) : Int)) := by rw [PySem.rangeSize_one]; split <;> omega
  rw [this]
  have : a + ((0 : Nat) : Int) = a := by simp
  rw [this]
  exact Heap.get?_push_size _ rfl
theorem okI_range1 (W : Wd X P) {e : ME} {p : AV × AHeap} {n : Int} (i1 : OkE X P d e ρ H p) (ep : p.1 = .int n) (h0 : -1 ≤ n) (hn : n < big) : OkI X P d (.range1 e) ρ H (.vals (rints 0 n), p.2) := by
  intro sc vars Ex env L m φ A s t c S o R
  obtain ⟨e', pos, pos', rfl, hg, n1, t1⟩ := t
  refine ⟨fun x => rfl, fun Er Q hQ => ?_⟩
  refine glob_builtin W c S hg ?_
  rw [star_one n1 env pos]
  refine callWith_type1 ((i1 sc vars e' env L m φ A s t1 c S o R).1 Er _ fun φ₁ h₁ tk₁ rv st₁ vr => ?_)
  rw [ep] at vr
  obtain ⟨t, rfl⟩ := vr.toInt
  refine call_range_1 ?_
  have st₂ : Step X φ₁ h₁ φ₁ p.2 (h₁.push { cls := .type "range", data := .fields #[.int 0 tk₁, .int n t, .int 1 (tk₁ + 1)] }) := st₁.st.same fun b ob e => Heap.get?_push_of_some _ e
  refine rangeIter st₂.st (IsRange.new h₁ 0 n 1 tk₁ t (tk₁ + 1)) (by decide) (by decide) (by omega) (by unfold big at hn; omega) fun h' I st₃ it hI => ?_
  have hI2 := (st₁.trans st₂).fresh S hI
  exact hQ φ₁ h' _ I ((st₁.trans st₂).trans st₃) it hI2.1 hI2.2
theorem okI_range2 (W : Wd X P) {a b : ME} {p q : AV × AHeap} {k n : Int} (i1 : OkE X P d a ρ H p) (i2 : OkE X P d b ρ p.2 q) (ep : p.1 = .int k) (eq : q.1 = .int n) (hk0 : 0 ≤ k) (hk : k < big) (h0 : -1 ≤ n) (hn : n < big) : OkI X P d (.range2 a b) ρ H (.vals (rints k n), q.2) := by
  intro sc vars Ex env L m φ A s t c S o R
  obtain ⟨a', b', pos, pos', rfl, hg, n1, n2, t1, t2⟩ := t
  refine ⟨fun x => rfl, fun Er Q hQ => ?_⟩
  refine glob_builtin W c S hg ?_
  rw [star_two n1 n2 env pos]
  refine PySem.callWith_type rfl (Calls.evalArgs_plain (Calls.spliced_cons ((i1 sc vars a' env L m φ A s t1 c S o R).1 Er _ fun φ₁ h₁ tk₁ ra st₁ va => Calls.spliced_cons ?_)))
  refine (i2 sc vars b' env L m φ₁ A { s with heap := h₁, toks := tk₁ } t2 c st₁.st (o.step S st₁) R).1 Er _ fun φ₂ h₂ tk₂ rb st₂ vb => Calls.spliced_nil ?_
  have va := st₂.vr st₁.st va
  rw [ep] at va; rw [eq] at vb
  obtain ⟨t, rfl⟩ := va.toInt
  obtain ⟨u, rfl⟩ := vb.toInt
  refine call_range_2 ?_
  have st₃ : Step X φ₂ h₂ φ₂ q.2 (h₂.push { cls := .type "range", data := .fields #[.int k t, .int n u, .int 1 tk₂] }) := st₂.st.same fun b ob e => Heap.get?_push_of_some _ e
  refine rangeIter st₃.st (IsRange.new h₂ k n 1 t u tk₂) (by omega) (by unfold big at hk; omega) (by omega) (by unfold big at hn; omega) fun h' I st₄ it hI => ?_
  have hI2 := ((st₁.trans st₂).trans st₃).fresh S hI
  exact hQ φ₂ h' _ I (((st₁.trans st₂).trans st₃).trans st₄) it hI2.1 hI2.2

/-! #### a walk's steps -/
theorem ItR.obj {src : Src} {i : Nat} (it : ItR X h φ I src i) : ∃ o, h.get? I = some o ∧ ∀ items n, o.data ≠ .seq items n := by
  cases src with
  | lst o => obtain ⟨c, _, ob, e, _, ed⟩ := it; exact ⟨ob, e, by simp [ed]⟩
  | vals l =>
    rcases it with ⟨tt, items, ⟨ob, e, _, ed⟩, _⟩ | ⟨a, n, _, _, e⟩
    · exact ⟨ob, e, by simp [ed]⟩
    · exact ⟨_, e, by simp⟩
theorem ItR.odd {src : Src} {i : Nat} (it : ItR X h φ I src i) (hoff : I ∉ addrs φ) : Odd [I] φ h := fun x hx => by
  obtain rfl := List.mem_singleton.mp hx
  obtain ⟨o, e, q⟩ := it.obj
  exact ⟨hoff, o, e, q⟩
theorem ItR.stepN {src : Src} {i : Nat} {N : List Addr} (S : St X φ H h) (D : Odd N φ h) (st : StepN X N φ h φ' H' h') (it : ItR X h φ I src i) (hoff : I ∉ addrs φ) (hN : I ∉ N) : ItR X h' φ' I src i := by
  cases src with
  | lst o => obtain ⟨c, hc, ob, e, ed⟩ := it; exact ⟨c, st.get hc, ob, st.keep _ _ e hoff hN, ed⟩
  | vals l =>
    rcases it with ⟨tt, items, ⟨ob, e, ed⟩, ⟨ot, e2, e3, n, e4⟩, r⟩ | ⟨a, n, e0, hi, e⟩
    · refine .inl ⟨tt, items, ⟨ob, st.keep _ _ e hoff hN, ed⟩, ⟨ot, st.keep _ _ e2 (S.notTup e2 e3 e4) fun z => ?_, e3, n, e4⟩, st.vrs S D r⟩
      obtain ⟨_, o', e', q⟩ := D tt z
      obtain rfl := Option.some.inj (e2.symm.trans e')
      exact q _ _ e4
    · exact .inr ⟨a, n, e0, hi, st.keep _ _ e hoff hN⟩

theorem next_item {s : Shared} {E : Value → Shared → Prop} {src : Src} {i : Nat} {v : AV} {Q : Option Value → Shared → Prop} (S : St X φ H s.heap) (it : ItR X s.heap φ I src i) (hoff : I ∉ addrs φ) (hI : X.h₀.get? I = none) (e : srcAt H src i = some (some v))
    (hQ : ∀ h' tk rv, StepN X [I] φ s.heap φ H h' → ItR X h' φ I src (i + 1) → VR X h' φ rv v → Q (some rv) { s with heap := h', toks := tk }) : wpAny (model X.prog X.w) A (pyNext (.ref I)) Q E s := by
  have D := it.odd hoff
  have side : ∀ h', Heap.SameBut I s.heap h' → StepN X [I] φ s.heap φ H h' := fun h' hs => S.side D (fun x hx => by rw [List.mem_singleton.mp hx]; exact hI) fun b ob e hb => (hs.2 b (fun z => hb (List.mem_singleton.mpr z))).trans e
  cases src with
  | lst o =>
    obtain ⟨c, hc, hit⟩ := it
    simp only [srcAt] at e
    split at e
    · rename_i l eh
      obtain ⟨hd, items, n, q1, q2⟩ := S.list hc eh
      obtain ⟨rv, e1, e2⟩ := q2.get (Option.some.inj e)
      refine wpAny_pyNext_list_item hit q1.isList (by simpa using e1) fun h' hit' hs => hQ h' s.toks rv (side h' hs) ⟨c, hc, hit'⟩ ((side h' hs).vr S D e2)
    · cases e
  | vals l =>
    simp only [srcAt] at e
    have e := Option.some.inj e
    rcases it with ⟨tt, items, hit, ht, r⟩ | ⟨a, n, e0, hi, hit⟩
    · obtain ⟨rv, e1, e2⟩ := r.get e
      refine wpAny_pyNext_tuple_item hit ht (by simpa using e1) fun h' hit' hs => hQ h' s.toks rv (side h' hs) (.inl ⟨tt, items, hit', ?_, (side h' hs).vrs S D r⟩) ((side h' hs).vr S D e2)
      obtain ⟨ot, e2, e3, n, e4⟩ := ht
      refine ⟨ot, (side h' hs).keep _ _ e2 (S.notTup e2 e3 e4) fun z => ?_, e3, n, e4⟩
      obtain ⟨_, o', e', q⟩ := D tt z
      obtain rfl := Option.some.inj (e2.symm.trans e')
      exact q _ _ e4
    · subst e0
      simp only [List.getElem?_map] at e
      obtain ⟨j, hj, rfl⟩ := Option.map_eq_some_iff.mp e
      have hjn : i < n ∧ j = i := by
        obtain ⟨h1, h2⟩ := List.getElem?_eq_some_iff.mp hj
        simp at h1 h2; omega
      obtain ⟨hin, rfl⟩ := hjn
      refine wpAny_pyNext_range_item hit (by omega) fun h' hit' hs => hQ h' _ _ (side h' hs) (.inr ⟨a, n, rfl, hin, ?_⟩) (.int _ _)
      have h1 : a + ((j + 1 : Nat) : Int) = a + (j : Int) + 1 := by omega
      have h2 : (n : Int) - ((j + 1 : Nat) : Int) = (n : Int) - (j : Int) - 1 := by omega
      rw [h1, h2]; exact hit'
theorem next_end {s : Shared} {E : Value → Shared → Prop} {src : Src} {i : Nat} {Q : Option Value → Shared → Prop} (hh : A.handled = none) (S : St X φ H s.heap) (it : ItR X s.heap φ I src i) (hoff : I ∉ addrs φ) (hI : X.h₀.get? I = none) (e : srcAt H src i = some none)
    (hQ : ∀ h', StepN X [I] φ s.heap φ H h' → Q none { s with heap := h' }) : wpAny (model X.prog X.w) A (pyNext (.ref I)) Q E s := by
  have D := it.odd hoff
  have side : ∀ h', Heap.ExtBut I s.heap h' → StepN X [I] φ s.heap φ H h' := fun h' hs => S.side D (fun x hx => by rw [List.mem_singleton.mp hx]; exact hI) fun b ob e hb => hs b ob (fun z => hb (List.mem_singleton.mpr z)) e
  cases src with
  | lst o =>
    obtain ⟨c, hc, hit⟩ := it
    simp only [srcAt] at e
    split at e
    · rename_i l eh
      obtain ⟨hd, items, n, q1, q2⟩ := S.list hc eh
      have e := Option.some.inj e
      refine wpAny_pyNext_list_end hh hit q1.isList ?_ fun h' hs => hQ h' (side h' hs)
      have hl := q2.length
      rw [Array.length_toList] at hl
      simp at e
      simp; omega
    · cases e
  | vals l =>
    simp only [srcAt] at e
    have e := Option.some.inj e
    rcases it with ⟨tt, items, hit, ht, r⟩ | ⟨a, n, e0, hi, hit⟩
    · refine wpAny_pyNext_tuple_end hh hit ht ?_ fun h' hs => hQ h' (side h' hs)
      have hl := r.length
      rw [Array.length_toList] at hl
      simp at e
      simp; omega
    · subst e0
      simp at e
      exact wpAny_pyNext_range_end hh hit (by omega) fun h' hs => hQ h' (side h' hs)

theorem okFor_end {x : Nat} {kill : List Nat} {body : List MS} {src : Src} {i : Nat} (e : srcAt H src i = some none) : OkFor X P d x kill body src i ρ H (.next, ρ, H) := by
  intro sc vars Sx xn px env L I m φ A s hx t c S o R it hoff hL hI Rs hQ
  refine codeAny_of_tree ?_
  show wpAny _ A ((forTurn (.Name xn px) (.ref I) Sx [] env).onRaise (fun x => do noteFrame x env; theTreesLotGoes x)) _ _ s
  refine wpAny_noted ?_
  unfold forTurn
  refine wpAny_bind (wpAny_standAt (wpAny_bind (wpAny_onRaise (next_end R.1 S it hoff hI e fun h' st => ?_))))
  refine wpAny_pure ⟨rfl, codeAny_block (wpAny_execs_nil ?_)⟩
  have stL : StepN X (L :: [I]) φ s.heap φ H h' := st.weaken fun x hx => List.mem_cons_of_mem _ hx
  refine hQ φ h' s.toks m .next stL ⟨?_, o.off, o.new, fun j u eu => ?_⟩ .next
  · obtain ⟨ob, es, ep, e', r⟩ := o.ns
    exact ⟨ob, es, ep, st.keep _ _ e' o.off (fun z => hL (List.mem_singleton.mp z).symm), r⟩
  · obtain ⟨y, rv, e1, e2, e3⟩ := o.vals j u eu
    exact ⟨y, rv, e1, e2, st.vr S (it.odd hoff) e3⟩

theorem okFor_turn {x : Nat} {kill : List Nat} {body : List MS} {src : Src} {i : Nat} {v : AV} {q r : Fl × Loc × AHeap} (e : srcAt H src i = some (some v)) (i1 : OkSs X P d body (ρ.set x (some v)) H q)
    (hr : (q.1 = .next ∧ OkFor X P d x kill body src (i + 1) (killAll kill q.2.1) q.2.2 r) ∨ (q.1 = .brk ∧ r = (.next, killAll kill q.2.1, q.2.2)) ∨ (∃ a, q.1 = .ret a ∧ r = (.ret a, q.2.1, q.2.2))) : OkFor X P d x kill body src i ρ H r := by
  intro sc vars Sx xn px env L I m φ A s hx t c S o R it hoff hL hI Rs hQ
  refine codeAny_of_tree ?_
  show wpAny _ A ((forTurn (.Name xn px) (.ref I) Sx [] env).onRaise (fun x => do noteFrame x env; theTreesLotGoes x)) _ _ s
  refine wpAny_noted ?_
  unfold forTurn
  refine wpAny_bind (wpAny_standAt (wpAny_bind (wpAny_onRaise (next_item S it hoff hI e fun h₁ tk₁ rv st₁ it₁ vr => ?_))))
  have D := it.odd hoff
  refine wpAny_bind (wpAny_of_eq (show letOwnedTupleGo (.Name xn px) (.ref I) rv = pure () from rfl) ?_)
  have o₁ : Lo X vars φ h₁ L m ρ := by
    refine ⟨?_, o.off, o.new, fun j u eu => ?_⟩
    · obtain ⟨ob, es, ep, e', r⟩ := o.ns
      exact ⟨ob, es, ep, st₁.keep _ _ e' o.off (fun z => hL (List.mem_singleton.mp z).symm), r⟩
    · obtain ⟨y, rv, e1, e2, e3⟩ := o.vals j u eu
      exact ⟨y, rv, e1, e2, st₁.vr S D e3⟩
  have exI₁ : ∀ x ∈ L :: [I], ∃ ob, h₁.get? x = some ob := fun x hx => by
    rcases List.mem_cons.mp hx with rfl | hx
    · exact o₁.exists
    · rw [List.mem_singleton.mp hx]; exact ⟨_, it₁.obj.choose_spec.1⟩
  refine wpAny_bind (wpAny_assign_Name (c.store (s := { s with heap := h₁, toks := tk₁ }) o₁ st₁.st hx vr fun h₂ tk₂ m₂ st₂ o₂ => wpAny_bind ?_))
  have hIL : I ∉ [L] := fun z => hL (List.mem_singleton.mp z)
  have it₂ := it₁.stepN st₁.st o₁.odd st₂ hoff hIL
  refine i1 sc vars Sx env L m₂ φ A { s with heap := h₂, toks := tk₂ } t c st₂.st o₂ R _ _ fun φ₃ h₃ tk₃ m₃ f st₃ o₃ fr => ?_
  have it₃ := it₂.stepN st₂.st o₂.odd st₃ hoff hIL
  have stAll : StepN X (L :: [I]) φ s.heap φ₃ q.2.2 h₃ :=
    (st₁.weaken (N' := L :: [I]) fun x hx => List.mem_cons_of_mem _ hx).trans ((st₂.trans st₃ o₂.exN).weaken fun x hx => by rw [List.mem_singleton.mp hx]; exact List.mem_cons_self) exI₁
  have hoff₃ : I ∉ addrs φ₃ := by
    obtain ⟨ob, eo, _⟩ := it₂.obj
    exact st₃.off eo hoff
  rcases hr with ⟨hq, i2⟩ | ⟨hq, rfl⟩ | ⟨a, hq, rfl⟩
  · rw [hq] at fr
    cases fr
    refine wpAny_pure ⟨rfl, ?_⟩
    refine i2 sc vars Sx xn px env L I m₃ φ₃ A { s with heap := h₃, toks := tk₃ } hx t c stAll.st (o₃.kill kill) R it₃ hoff₃ hL hI Rs fun φ₄ h₄ tk₄ m₄ f₄ st₄ o₄ fr₄ => ?_
    refine hQ φ₄ h₄ tk₄ m₄ f₄ (stAll.trans st₄ fun x hx => ?_) o₄ fr₄
    rcases List.mem_cons.mp hx with rfl | hx
    · exact o₃.exists
    · rw [List.mem_singleton.mp hx]; exact ⟨_, it₃.obj.choose_spec.1⟩
  · rw [hq] at fr
    cases fr
    exact wpAny_pure (hQ φ₃ h₃ tk₃ m₃ .next stAll (o₃.kill kill) .next)
  · rw [hq] at fr
    cases fr with
    | ret vr' => exact wpAny_pure (hQ φ₃ h₃ tk₃ m₃ _ stAll o₃ (.ret vr'))

theorem okWhile_end {cd : ME} {kill : List Nat} {body : List MS} {p : AV × AHeap} (i0 : OkE X P d cd ρ H p) (et : p.1 = .bool false) : OkWhile X P d cd kill body ρ H (.next, ρ, p.2) := by
  intro sc vars Ct Sx env L m φ A s t1 t2 c S o R Rs hQ
  refine codeAny_of_tree ?_
  show wpAny _ A ((whileTurn Ct Sx [] env).onRaise (fun x => do noteFrame x env; theTreesLotGoes x)) _ _ s
  refine wpAny_noted ?_
  unfold whileTurn
  refine wpAny_bind ((i0 sc vars _ env L m φ A s t1 c S o R).2 false et _ _ fun φ₁ h₁ tk₁ st₁ => ?_)
  simp only [Bool.false_eq_true, if_false]
  exact wpAny_bind (wpAny_execs_nil (wpAny_pure (hQ φ₁ h₁ tk₁ m .next st₁.toN (o.step S st₁) .next)))
theorem okWhile_turn {cd : ME} {kill : List Nat} {body : List MS} {p : AV × AHeap} {q r : Fl × Loc × AHeap} (i0 : OkE X P d cd ρ H p) (et : p.1 = .bool true) (i1 : OkSs X P d body ρ p.2 q)
    (hr : (q.1 = .next ∧ OkWhile X P d cd kill body (killAll kill q.2.1) q.2.2 r) ∨ (q.1 = .brk ∧ r = (.next, killAll kill q.2.1, q.2.2)) ∨ (∃ a, q.1 = .ret a ∧ r = (.ret a, q.2.1, q.2.2))) : OkWhile X P d cd kill body ρ H r := by
  intro sc vars Ct Sx env L m φ A s t1 t2 c S o R Rs hQ
  refine codeAny_of_tree ?_
  show wpAny _ A ((whileTurn Ct Sx [] env).onRaise (fun x => do noteFrame x env; theTreesLotGoes x)) _ _ s
  refine wpAny_noted ?_
  unfold whileTurn
  refine wpAny_bind ((i0 sc vars _ env L m φ A s t1 c S o R).2 true et _ _ fun φ₁ h₁ tk₁ st₁ => ?_)
  simp only [if_true]
  refine wpAny_bind (i1 sc vars Sx env L m φ₁ A { s with heap := h₁, toks := tk₁ } t2 c st₁.st (o.step S st₁) R _ _ fun φ₃ h₃ tk₃ m₃ f st₃ o₃ fr => ?_)
  have stAll : StepN X [L] φ s.heap φ₃ q.2.2 h₃ := st₁.toN.trans st₃ (o.step S st₁).exN
  rcases hr with ⟨hq, i2⟩ | ⟨hq, rfl⟩ | ⟨a, hq, rfl⟩
  · rw [hq] at fr
    cases fr
    refine wpAny_pure ⟨rfl, ?_⟩
    exact i2 sc vars Ct Sx env L m₃ φ₃ A { s with heap := h₃, toks := tk₃ } t1 t2 c stAll.st (o₃.kill kill) R Rs fun φ₄ h₄ tk₄ m₄ f₄ st₄ o₄ fr₄ => hQ φ₄ h₄ tk₄ m₄ f₄ (stAll.trans st₄ o₃.exN) o₄ fr₄
  · rw [hq] at fr
    cases fr
    exact wpAny_pure (hQ φ₃ h₃ tk₃ m₃ .next stAll (o₃.kill kill) .next)
  · rw [hq] at fr
    cases fr with
    | ret vr' => exact wpAny_pure (hQ φ₃ h₃ tk₃ m₃ _ stAll o₃ (.ret vr'))
end
end Mini
end

noncomputable section -- SndF
set_option autoImplicit false
set_option linter.unusedVariables false
set_option linter.unusedSimpArgs false
open PySem PySem.Calls PyProof.Rows PySem.W
namespace Mini

section
variable {X : Tx} {P : Prg} {A : Around} {d : Nat} {ρ : Loc} {H H' : AHeap} {φ φ' : List Lc} {h h' : Heap}

theorem vr_one (O : TblOk X P) {v : Value} {a : AV} {n k : Nat} (ha : eqOk P k a = true) (h1 : VR X h φ v a) (h2 : VR X h φ v (.tup [.sym n])) : a = .tup [.sym n] := by
  obtain ⟨c, o, items, m, rfl, e1, e2, e3, r⟩ := h2.toTup
  cases a with
  | tup l =>
    obtain ⟨c', o', items', m', e0, f1, f2, f3, r'⟩ := h1.toTup
    cases e0
    obtain rfl := Option.some.inj (e1.symm.trans f1)
    rw [e3] at f3; cases f3
    cases hh : items.toList with
    | nil => rw [hh] at r; cases r
    | cons x xs =>
      rw [hh] at r r'
      cases r with
      | cons g1 g2 =>
        cases g2
        cases r' with
        | cons g3 g4 =>
          cases g4
          obtain ⟨y, t, rfl, hy⟩ := g1.toSym
          cases g3 with
          | sym t' hy' => rw [O.inj' hy hy']
  | obj i => cases k <;> simp [eqOk] at ha
  | flist i => cases k <;> simp [eqOk] at ha
  | _ => cases h1

theorem vrs_filter {f : Value → Bool} {g : AV → Bool} {vs : List Value} {l : List AV} (r : VRs X h φ vs l) : (∀ v a, v ∈ vs → a ∈ l → VR X h φ v a → f v = g a) → VRs X h φ (vs.filter f) (l.filter g) := by
  refine VRs.ind (M := fun vs l => (∀ v a, v ∈ vs → a ∈ l → VR X h φ v a → f v = g a) → VRs X h φ (vs.filter f) (l.filter g)) (fun _ => .nil) (fun {v a vs l} h1 h2 m hfg => ?_) r
  have e := hfg _ _ List.mem_cons_self List.mem_cons_self h1
  have r := m fun v a hv ha => hfg v a (List.mem_cons_of_mem _ hv) (List.mem_cons_of_mem _ ha)
  rw [List.filter_cons, List.filter_cons, e]
  split
  · exact .cons h1 r
  · exact r
theorem eqOks_all {k : Nat} {l : List AV} : eqOks P k l = l.all (eqOk P k) := by
  induction l with
  | nil => rfl
  | cons a l ih => rw [eqOks, ih]; rfl
theorem eqOks_mem {l : List AV} {a : AV} {k : Nat} (h : eqOks P k l = true) (ha : a ∈ l) : eqOk P k a = true := List.all_eq_true.mp (eqOks_all.symm.trans h) a ha
theorem eqOks_filter (f : AV → Bool) {l : List AV} {k : Nat} (h : eqOks P k l = true) : eqOks P k (l.filter f) = true :=
  eqOks_all.trans (List.all_eq_true.mpr fun a ha => eqOks_mem h (List.mem_filter.mp ha).1)
theorem paired_eq {l r : List Value} (p : Paired (fun v y => y = v) l r) : r = l := Paired.rec rfl (fun h _ m => by rw [h, m]) p

theorem cmp_ne (H : AHeap) {a : AV} {n : Nat} (h1 : eqOk P 4 a = true) (hn : n < P.syms) : cmpOf P H .ne a (.tup [.sym n]) = some (!decide (a = .tup [.sym n])) := by
  have h2 : eqOk P 4 (.tup [.sym n]) = true := by simp [eqOk, eqOks, hn]
  cases a with
  | bool b => simp [eqOk] at h1
  | obj b => simp [eqOk] at h1
  | flist b => simp [eqOk] at h1
  | none => simp [cmpOf, deepEq, h1, h2]
  | int i => simp [cmpOf, deepEq, h1, h2]
  | sym i => simp [cmpOf, deepEq, h1, h2]
  | tup l => simp only [cmpOf, deepEq, h1, h2, Bool.and_self, if_true, Option.map_some]

open Classical in
theorem filt_eval (W : Wd X P) {A : Around} {s : Shared} {e : Expr} {me : ME} {env : Env} {sc : Scope} {vars : List Str} {L : Addr} {m : Str → Option Value} {n : Nat} {p : AV × AHeap} {i : Nat} {l : List AV} {x y : Str} {k k' : Nat} {q q' r r' u u' v : Pos} {scope : Scope} (i1 : OkE X P d me ρ H p) (el : listAt p.2 p.1 = some (i, l)) (hq : eqOks P 4 l = true) (hn : n < P.syms) (hl : l.length < big)
    (hn1 : nice e = true) (t : TE X P sc vars e me) (hy : X.tbl[n]? = some y) (hS : ScOk scope x) (c : Cx sc vars env L) (S : St X φ H s.heap) (o : Lo X vars φ s.heap L m ρ) (R : Room d env A)
    {Er : Value → Shared → Prop} {Q : Value → Shared → Prop} (hQ : PostE X φ s (.obj p.2.length, p.2 ++ [.list (l.filter fun v => !decide (v = .tup [.sym n]))]) Q) :
    wpAny (model X.prog X.w) A (eval (.ListComp (.Name x q) [⟨.Name x q', e, [.Compare (.Name x r) [.NotEq] [.Tuple [.Constant (.str y) k u] k' u'] r'], 0⟩] scope v) env) Q Er s := by
  obtain ⟨s1, s2, s3, s4, s5⟩ := hS
  rw [eval_ListComp]
  refine wpAny_comprehension_free (use := none) rfl (fun z => noFold hn1 _ _) (closureFor_none fun z hz => by rw [s1 z hz]; decide) s2 (fun z hz _ => s3 z hz) ?_
  refine (i1 sc vars e env L m φ A s t c S o R).1 Er _ fun φ₁ h₁ tk₁ rv st₁ vr => ?_
  obtain ⟨ep, eh⟩ := listAt_some el
  rw [ep] at vr
  obtain ⟨cc, rfl, hc⟩ := vr.toObj
  obtain ⟨hd, items, nn, q1, q2⟩ := st₁.st.list hc eh
  have hsz : items.size = l.length := by have := q2.length; rwa [Array.length_toList] at this
  refine wpAny_pyIter_list (l := cc.a) (items := items) q1.isList ?_
  generalize hI : h₁.push { cls := .type "list_iterator", data := .fields #[.ref cc.a, .int 0 0] } = h₂
  have st₂ : Step X φ₁ h₁ φ₁ p.2 h₂ := st₁.st.same fun b ob e => hI ▸ Heap.get?_push_of_some _ e
  have hIt : h₂.IsListIter h₁.objs.size cc.a 0 := hI ▸ ⟨_, Heap.get?_push_size _ rfl, rfl, rfl⟩
  have hIn : h₁.get? h₁.objs.size = none := get_none_size _
  have hIoff : h₁.objs.size ∉ addrs φ₁ := fun z => by obtain ⟨ob, e, _⟩ := st₁.st.at z; rw [hIn] at e; cases e
  have hI0 : X.h₀.get? h₁.objs.size = none := by
    cases z : X.h₀.get? h₁.objs.size with
    | none => rfl
    | some ob => have := st₁.st.keep _ _ z; rw [hIn] at this; cases this
  have hcI : cc.a ≠ h₁.objs.size := Nat.ne_of_lt (Heap.lt_size q1)
  have q1' : h₂.IsList cc.a items := (hI ▸ IsL.isList (show IsL _ cc.a items nn from Heap.get?_push_of_some _ q1))
  have q2' := st₂.vrs st₁.st q2
  let pz : Value → Bool := fun v => !decide (VR X h₂ φ₁ v (.tup [.sym n]))
  have hpz : ∀ v a, v ∈ items.toList → a ∈ l → VR X h₂ φ₁ v a → pz v = !decide (a = .tup [.sym n]) := fun v a _ ha hv => by
    by_cases z : a = .tup [.sym n]
    · subst z; simp [pz, hv]
    · have : ¬ VR X h₂ φ₁ v (.tup [.sym n]) := fun w => z (vr_one W.t.T (eqOks_mem hq ha) hv w)
      simp [pz, z, this]
  have D : Odd [h₁.objs.size] φ₁ h₂ := fun b hb => by
    obtain rfl := List.mem_singleton.mp hb
    obtain ⟨ob, e1, e2, e3⟩ := hIt
    exact ⟨hIoff, ob, e1, by simp [e3]⟩
  refine comp_block_walkC (RR := fun acc C => compPost (model X.prog X.w) A Er none Q acc C) (s₂ := { s with heap := h₂, toks := tk₁ }) (Walks.list R.1 h₁.objs.size cc.a hcI items) (by rw [hsz, sizeLine_eq]; unfold big at hl; omega) pz (fun v y => y = v)
    (fun z hz => by rw [s1 z hz]; decide) s2 s4 ⟨hIt, q1'⟩ (fun b hb => ?_) ⟨fun C j v s₃ m₃ E' hC hv hns hm hk htk => ?_, fun C j v s₃ m₃ E' hC hv hpv hns hm hk htk => ?_⟩ fun DD C h' tk m' ys vs hD hC hDC hn hl' hpl hlen hP hF hk => ?_
  · simp at hb
    rcases hb with rfl | rfl
    · obtain ⟨ob, e1, _⟩ := hIt; exact Heap.lt_size e1
    · obtain ⟨ob, e1, _⟩ := q1'; exact Heap.lt_size e1
  · -- the test
    have sd : StepN X [h₁.objs.size] φ₁ h₂ φ₁ p.2 s₃.heap := st₂.st.side D (fun b hb => by rw [List.mem_singleton.mp hb]; exact hI0) fun b ob e hb => hk b ob hb e
    have hmem : v ∈ items.toList := List.mem_of_getElem? (i := j) (by simpa using hv)
    obtain ⟨a, ha, hva⟩ : ∃ a, a ∈ l ∧ VR X h₂ φ₁ v a := by
      have hj : j < l.length := by have := (Array.getElem?_eq_some_iff.mp hv).1; omega
      obtain ⟨w, w1, w2⟩ := q2'.get (i := j) (a := l[j]) (by simp [hj])
      have : w = v := by simp at w1; exact Option.some.inj (w1.symm.trans hv)
      exact ⟨l[j], List.getElem_mem _, this ▸ w2⟩
    rw [hpz v a hmem ha hva]
    have hva' := sd.vr st₂.st D hva
    refine wpAny_tests_one (wpAny_isTrue_Compare1 ?_)
    refine wpAny_Name (wpAny_loadName_local s2 (lookup_relabel_local s4) hns hm ?_) s5
    refine Tuple_ ?_
    show wpAny _ _ (spliced [(false, eval (.Constant (.str y) k u) (compEnvC scope [] C env))]) _ _ _
    refine Calls.spliced_cons (Calls.Constant_str (Calls.spliced_nil ?_))
    have sd' : St X φ₁ p.2 s₃.heap := sd.st
    refine wpAny_newObj_type (T := "tuple") (data := .seq #[.str y s₃.toks]) (dict := none) ?_ (by show 1 ≤ sizeLine; rw [sizeLine_eq]; omega)
    generalize h4 : s₃.heap.push { cls := .type "tuple", data := .seq #[.str y s₃.toks] } = h₄
    have kp : ∀ b o, s₃.heap.get? b = some o → h₄.get? b = some o := fun b o e => h4 ▸ Heap.get?_push_of_some _ e
    have st₄ : Step X φ₁ s₃.heap φ₁ p.2 h₄ := sd'.same kp
    have vt : VR X h₄ φ₁ (.ref s₃.heap.objs.size) (.tup [.sym n]) := .tup (h4 ▸ Heap.get?_push_size _ rfl) rfl rfl (.cons (.sym _ hy) .nil)
    have ca := cmp_ne (P := P) p.2 (eqOks_mem hq ha) hn
    refine p_cmp (s := { s₃ with heap := h₄, toks := s₃.toks + 1 }) W.t st₄.st (by have := R.2.2.1; omega) (st₄.vr sd' hva') vt ca rfl fun tk => ?_
    exact wpAny_truthy_bool ⟨rfl, h₄, tk, rfl, kp⟩
  · exact wpAny_Name (wpAny_loadName_local s2 (lookup_relabel_local s4) hns hm ⟨rfl, s₃.heap, s₃.toks, rfl, fun _ _ e => e⟩) s5
  · refine ⟨m', hn, fun h'' hs'' => ?_⟩
    have kp : ∀ b o, h₁.get? b = some o → h''.get? b = some o := fun b o e => by
      have e2 : h₂.get? b = some o := hI ▸ Heap.get?_push_of_some _ e
      have hb : b ∉ [h₁.objs.size] := fun z => by rw [List.mem_singleton.mp z, hIn] at e; cases e
      exact hs''.extBut b o (fun z => by rw [z] at e2; rw [show h₂.get? C = none from hC] at e2; cases e2) (hk b o hb e2)
    have hD1 : h₁.get? DD = none := by
      cases z : h₁.get? DD with
      | none => rfl
      | some ob => have : h₂.get? DD = some ob := hI ▸ Heap.get?_push_of_some _ z; rw [show h₂.get? DD = none from hD] at this; cases this
    obtain ⟨n', e'⟩ := hpl.extBut hs''.extBut hDC
    have hvs : vs = items.toList := by
      refine List.ext_getElem? fun j => ?_
      by_cases hj : j < vs.length
      · have e1 : vs[j]? = some vs[j] := by simp [hj]
        have := hP j _ e1
        rw [e1]; simpa using this.symm
      · have h1 : vs.length ≤ j := by omega
        rw [List.getElem?_eq_none h1, List.getElem?_eq_none (by rw [Array.length_toList]; omega)]
    have hys := paired_eq hF
    rw [hvs] at hys
    have rr : VRs X h₁ φ₁ ys.toList (l.filter fun v => !decide (v = .tup [.sym n])) := by
      rw [hys]
      exact vrs_filter q2 fun v a hv ha hva => hpz v a hv ha (st₂.vr st₁.st hva)
    have stn := st₁.st.newListAt kp hD1 e' rr
    exact hQ _ h'' tk _ (st₁.trans stn) (st₁.st.vrLast ⟨DD, none⟩)

theorem okE_filt (W : Wd X P) {e : ME} {n : Nat} {p : AV × AHeap} {i : Nat} {l : List AV} (i1 : OkE X P d e ρ H p) (el : listAt p.2 p.1 = some (i, l)) (hq : eqOks P 4 l = true) (hn : n < P.syms) (hl : l.length < big) :
    OkE X P d (.filt e n) ρ H (.bool (decide ((l.filter fun v => !decide (v = .tup [.sym n])) = [])), (p.2 ++ [.list (l.filter fun v => !decide (v = .tup [.sym n]))]) ++ [.list []]) := by
  intro sc vars Ex env L m φ A s t c S o R
  generalize hf : (l.filter fun v => !decide (v = .tup [.sym n])) = f
  have ca : cmpOf P (p.2 ++ [.list f] ++ [.list []]) .eq (.obj p.2.length) (.obj (p.2 ++ [AObj.list f]).length) = some (decide (f = [])) := by
    have hqf : eqOks P 4 f = true := hf ▸ eqOks_filter _ hq
    simp [cmpOf, deepEq, hqf, eqOks]
  obtain ⟨x, y, e', scope, k, k', pp, p', q, q', r, r', u, u', v, rfl, n1, t1, hy, hS⟩ := t
  refine ⟨fun Er Q hQ => ?_, fun w ew Er Q hQ => ?_⟩
  · refine wpAny_Compare1 (filt_eval W i1 el hq hn hl n1 t1 hy hS c S o R ?_) rfl
    intro φ₁ h₁ tk₁ rv st₁ vr
    rw [hf] at st₁
    refine List_ (Calls.spliced_nil (p_newList (s := { s with heap := h₁, toks := tk₁ }) st₁.st .nil (by decide) fun φ₂ h₂ rn st₂ vn => ?_))
    exact p_cmp (s := { s with heap := h₂, toks := tk₁ }) W.t st₂.st (by have := R.2.2.1; omega) (st₂.vr st₁.st vr) vn ca rfl fun tk => hQ φ₂ h₂ _ _ (st₁.trans st₂) (.bool _)
  · simp only [AV.bool.injEq] at ew; subst ew
    refine wpAny_isTrue_Compare1 (filt_eval W i1 el hq hn hl n1 t1 hy hS c S o R ?_) rfl
    intro φ₁ h₁ tk₁ rv st₁ vr
    rw [hf] at st₁
    refine List_ (Calls.spliced_nil (p_newList (s := { s with heap := h₁, toks := tk₁ }) st₁.st .nil (by decide) fun φ₂ h₂ rn st₂ vn => ?_))
    exact p_cmp (s := { s with heap := h₂, toks := tk₁ }) W.t st₂.st (by have := R.2.2.1; omega) (st₂.vr st₁.st vr) vn ca rfl fun tk => wpAny_truthy_bool (hQ φ₂ h₂ _ (st₁.trans st₂))
end
end Mini
end

noncomputable section -- Snd9
set_option autoImplicit false
set_option linter.unusedVariables false
set_option linter.unusedSimpArgs false
open PySem PySem.Calls PyProof.Rows PySem.W
namespace Mini

theorem bnd {α β : Type} {o : Option α} {f : α → Option β} {b : β} (h : (o >>= f) = some b) : ∃ a, o = some a ∧ f a = some b := by
  cases o with
  | none => cases h
  | some a => exact ⟨a, rfl, h⟩
theorem bmap {α β : Type} {o : Option α} {f : α → β} {b : β} (h : o.map f = some b) : ∃ a, o = some a ∧ f a = b := by
  cases o with
  | none => cases h
  | some a => exact ⟨a, rfl, by simpa using h⟩
theorem bcond {α : Type} {c : Prop} [Decidable c] {x : Option α} {b : α} (h : (if c then x else none) = some b) : c ∧ x = some b := by
  split at h
  · exact ⟨by assumption, h⟩
  · cases h
theorem truth_some {a : AV} {t : Bool} (h : truth a = some t) : a = .bool t := by
  cases a <;> simp [truth] at h
  rw [h]
theorem isNone_eq {a : AV} (h : isNone a = true) : a = .none := by cases a <;> simp [isNone] at h; rfl

noncomputable abbrev Sat {A B R : Type} (f : F4 A B R) (Q : Nat → A → B → AHeap → R → Prop) : Prop := ∀ d a b H r, f d a b H = some r → Q d a b H r
section
variable (X : Tx) (P : Prg)
/-- what is said of an evaluator -/
structure Good (f : Ev) : Prop where
  hE : Sat f.e (fun d e ρ H r => OkE X P d e ρ H r ∧ ∀ v, e = .lit v → r = (v, H))
  hL : Sat f.l (fun d l ρ H r => OkL X P d l ρ H r)
  hOr : Sat f.or (fun d l ρ H r => OkB X P .Or d l ρ H r)
  hAnd : Sat f.and (fun d l ρ H r => OkB X P .And d l ρ H r)
  hI : Sat f.i (fun d it ρ H r => OkI X P d it ρ H r)
  hS : Sat f.s (fun d l ρ H r => OkS X P d l ρ H r)
  hSs : Sat f.ss (fun d l ρ H r => OkSs X P d l ρ H r)
  hFor : Sat f.for (fun d b ρ H r => OkFor X P d b.1.1 b.1.2.1 b.1.2.2 b.2.1 b.2.2 ρ H r)
  hWh : Sat f.wh (fun d b ρ H r => OkWhile X P d b.1 b.2.1 b.2.2 ρ H r)
  hC : Sat f.c (fun d f args H r => OkC X d f args H r)
end
section
variable {X : Tx} {P : Prg} {f : Ev}
theorem goodE (W : Wd X P) (g : Good X P f) : Sat (stE P f) (fun d e ρ H r => OkE X P d e ρ H r ∧ ∀ v, e = .lit v → r = (v, H)) := by
  rintro d e ρ H r h
  refine ⟨?_, fun v ev => by subst ev; exact (Option.some.inj h).symm⟩
  cases e with
  | lit v => cases h; exact okE_lit W
  | loc x => obtain ⟨v, h1, rfl⟩ := bmap h; exact okE_loc h1
  | attr e n => obtain ⟨p, h1, h⟩ := bnd h; obtain ⟨v, h2, rfl⟩ := bmap h; exact okE_attr W (g.hE _ _ _ _ _ h1).1 h2
  | sub e i => obtain ⟨p, h1, h⟩ := bnd h; obtain ⟨q, h2, h⟩ := bnd h; obtain ⟨v, h3, rfl⟩ := bmap h; exact okE_sub W (g.hE _ _ _ _ _ h1).1 (g.hE _ _ _ _ _ h2).1 h3
  | slice e lo hi =>
    obtain ⟨p, h1, h⟩ := bnd h; obtain ⟨q, h2, h⟩ := bnd h; obtain ⟨r', h3, h⟩ := bnd h; obtain ⟨l, h4, rfl⟩ := bmap h
    exact okE_slice W (g.hE _ _ _ _ _ h1).1 (g.hE _ _ _ _ _ h2).1 (g.hE _ _ _ _ _ h3).1 (fun z => (g.hE _ _ _ _ _ h2).2 _ z) (fun z => (g.hE _ _ _ _ _ h3).2 _ z) h4
  | bin o a b => obtain ⟨p, h1, h⟩ := bnd h; obtain ⟨q, h2, h⟩ := bnd h; obtain ⟨v, h3, rfl⟩ := bmap h; exact okE_bin W (g.hE _ _ _ _ _ h1).1 (g.hE _ _ _ _ _ h2).1 h3
  | cmp o a b => obtain ⟨p, h1, h⟩ := bnd h; obtain ⟨q, h2, h⟩ := bnd h; obtain ⟨v, h3, rfl⟩ := bmap h; exact okE_cmp W (g.hE _ _ _ _ _ h1).1 (g.hE _ _ _ _ _ h2).1 h3
  | ors l => exact okE_bool (op := .Or) rfl (g.hOr _ _ _ _ _ h)
  | ands l => exact okE_bool (op := .And) rfl (g.hAnd _ _ _ _ _ h)
  | ite c a b =>
    obtain ⟨p, h1, h⟩ := bnd h; obtain ⟨t, h2, h⟩ := bnd h
    refine okE_ite (g.hE _ _ _ _ _ h1).1 (truth_some h2) ?_
    cases t with
    | true => exact (g.hE _ _ _ _ _ h).1
    | false => exact (g.hE _ _ _ _ _ h).1
  | list l => obtain ⟨p, h1, h⟩ := bnd h; obtain ⟨h2, h⟩ := bcond h; cases h; exact okE_list (g.hL _ _ _ _ _ h1) h2
  | tup l => obtain ⟨p, h1, h⟩ := bnd h; obtain ⟨h2, h⟩ := bcond h; cases h; exact okE_tup (g.hL _ _ _ _ _ h1) h2
  | dict0 => cases h; exact okE_dict0 W
  | call f l => obtain ⟨p, h1, h⟩ := bnd h; exact okE_call W (g.hL _ _ _ _ _ h1) (g.hC _ _ _ _ _ h)
  | new c l =>
    obtain ⟨p, h1, h⟩ := bnd h; obtain ⟨f, h2, h⟩ := bnd h; obtain ⟨q, h3, h⟩ := bnd h; obtain ⟨h4, h⟩ := bcond h; cases h
    exact okE_new W h4.2 (g.hL _ _ _ _ _ h1) h2 (g.hC _ _ _ _ _ h3) (isNone_eq h4.1)
  | meth e n l =>
    obtain ⟨p, h1, h⟩ := bnd h; obtain ⟨q, h2, h⟩ := bnd h; obtain ⟨c, h3, h⟩ := bnd h
    split at h
    · cases h
    · rename_i h4
      obtain ⟨f, h5, h⟩ := bnd h
      exact okE_meth W (g.hE _ _ _ _ _ h1).1 (g.hL _ _ _ _ _ h2) h3 (Bool.eq_false_iff.mpr h4) h5 (g.hC _ _ _ _ _ h)
  | len e => obtain ⟨p, h1, h⟩ := bnd h; obtain ⟨n, h2, rfl⟩ := bmap h; exact okE_len W (g.hE _ _ _ _ _ h1).1 h2
  | listRange e =>
    obtain ⟨p, h1, h⟩ := bnd h
    split at h
    · rename_i n hn
      obtain ⟨h2, h⟩ := bcond h; cases h
      exact okE_listRange W (g.hE _ _ _ _ _ h1).1 hn h2.1 h2.2
    · cases h
  | listOf e => obtain ⟨p, h1, h⟩ := bnd h; obtain ⟨l, h2, h⟩ := bnd h; obtain ⟨h3, h⟩ := bcond h; cases h; exact okE_listOf W (g.hE _ _ _ _ _ h1).1 h2 h3
  | tupOf e => obtain ⟨p, h1, h⟩ := bnd h; obtain ⟨l, h2, h⟩ := bnd h; obtain ⟨h3, h⟩ := bcond h; cases h; exact okE_tupOf W (g.hE _ _ _ _ _ h1).1 h2 h3
  | append e x =>
    obtain ⟨p, h1, h⟩ := bnd h; obtain ⟨l', h2, h⟩ := bnd h; obtain ⟨q, h3, h⟩ := bnd h; obtain ⟨l, h4, h⟩ := bnd h; obtain ⟨h5, h⟩ := bcond h; cases h
    exact okE_append W (g.hE _ _ _ _ _ h1).1 h2 (g.hE _ _ _ _ _ h3).1 h4 h5
  | pop e =>
    obtain ⟨p, h1, h⟩ := bnd h; obtain ⟨l, h2, h⟩ := bnd h; obtain ⟨h3, h⟩ := bcond h; obtain ⟨v, h4, rfl⟩ := bmap h
    exact okE_pop W (g.hE _ _ _ _ _ h1).1 h2 h3 h4
  | rev e => obtain ⟨p, h1, h⟩ := bnd h; obtain ⟨l, h2, h⟩ := bnd h; obtain ⟨h3, h⟩ := bcond h; cases h; exact okE_rev W (g.hE _ _ _ _ _ h1).1 h2 h3
  | dget e k v =>
    obtain ⟨p, h1, h⟩ := bnd h; obtain ⟨l', h2, h⟩ := bnd h; obtain ⟨q, h3, h⟩ := bnd h; obtain ⟨r', h4, h⟩ := bnd h; obtain ⟨es, h5, h⟩ := bnd h; obtain ⟨h6, h⟩ := bcond h; cases h
    exact okE_dget W (g.hE _ _ _ _ _ h1).1 h2 (g.hE _ _ _ _ _ h3).1 (g.hE _ _ _ _ _ h4).1 h5 h6
  | filt e n => obtain ⟨p, h1, h⟩ := bnd h; obtain ⟨l, h2, h⟩ := bnd h; obtain ⟨h3, h⟩ := bcond h; cases h; exact okE_filt W (g.hE _ _ _ _ _ h1).1 h2 h3.1 h3.2.1 h3.2.2
theorem goodL (W : Wd X P) (g : Good X P f) : Sat (stL f) (fun d l ρ H r => OkL X P d l ρ H r) := by
  rintro d l ρ H r h
  cases l with
  | nil => cases h; exact okL_nil
  | cons e l => obtain ⟨p, h1, h⟩ := bnd h; obtain ⟨q, h2, h⟩ := bnd h; cases h; exact okL_cons (g.hE _ _ _ _ _ h1).1 (g.hL _ _ _ _ _ h2)
theorem goodOr (W : Wd X P) (g : Good X P f) : Sat (stOr f) (fun d l ρ H r => OkB X P .Or d l ρ H r) := by
  rintro d l ρ H r h
  cases l with
  | nil => cases h
  | cons e l =>
    obtain ⟨p, h1, h⟩ := bnd h; obtain ⟨t, h2, h⟩ := bnd h
    cases l with
    | nil =>
      have : r = (.bool t, p.2) := by cases t <;> cases h <;> rfl
      subst this
      exact okOr_one (g.hE _ _ _ _ _ h1).1 (truth_some h2)
    | cons e' l' =>
      refine okOr_cons (g.hE _ _ _ _ _ h1).1 (truth_some h2) (by simp) ?_
      cases t with
      | false => exact g.hOr _ _ _ _ _ h
      | true => cases h; rfl
theorem goodAnd (W : Wd X P) (g : Good X P f) : Sat (stAnd f) (fun d l ρ H r => OkB X P .And d l ρ H r) := by
  rintro d l ρ H r h
  cases l with
  | nil => cases h
  | cons e l =>
    obtain ⟨p, h1, h⟩ := bnd h; obtain ⟨t, h2, h⟩ := bnd h
    cases l with
    | nil =>
      have : r = (.bool t, p.2) := by cases t <;> cases h <;> rfl
      subst this
      exact okAnd_one (g.hE _ _ _ _ _ h1).1 (truth_some h2)
    | cons e' l' =>
      refine okAnd_cons (g.hE _ _ _ _ _ h1).1 (truth_some h2) (by simp) ?_
      cases t with
      | true => exact g.hAnd _ _ _ _ _ h
      | false => cases h; rfl
theorem goodI (W : Wd X P) (g : Good X P f) : Sat (stI f) (fun d it ρ H r => OkI X P d it ρ H r) := by
  rintro d it ρ H r h
  cases it with
  | e e =>
    obtain ⟨p, h1, h⟩ := bnd h
    split at h
    · rename_i l hl; cases h; exact okI_tup (g.hE _ _ _ _ _ h1).1 hl
    · obtain ⟨l, h2, h⟩ := bnd h; cases h; exact okI_list (g.hE _ _ _ _ _ h1).1 h2
  | range1 b =>
    obtain ⟨p, h1, h⟩ := bnd h
    split at h
    · rename_i n hn; obtain ⟨h2, h⟩ := bcond h; cases h; exact okI_range1 W (g.hE _ _ _ _ _ h1).1 hn h2.1 h2.2
    · cases h
  | range2 a b =>
    obtain ⟨p, h1, h⟩ := bnd h; obtain ⟨q, h2, h⟩ := bnd h
    split at h
    · rename_i k n hk hn; obtain ⟨h3, h⟩ := bcond h; cases h; exact okI_range2 W (g.hE _ _ _ _ _ h1).1 (g.hE _ _ _ _ _ h2).1 hk hn h3.1 h3.2.1 h3.2.2.1 h3.2.2.2
    · cases h
theorem goodS (W : Wd X P) (g : Good X P f) : Sat (stS P f) (fun d l ρ H r => OkS X P d l ρ H r) := by
  rintro d s ρ H r h
  cases s with
  | asg x e => obtain ⟨p, h1, h⟩ := bnd h; cases h; exact okS_asg (g.hE _ _ _ _ _ h1).1
  | sattr o n e =>
    obtain ⟨p, h1, h⟩ := bnd h; obtain ⟨q, h2, h⟩ := bnd h; obtain ⟨c, h3, h⟩ := bnd h
    split at h
    · cases h
    · rename_i h4
      have h4 := Decidable.not_not.mp h4
      cases h
      exact okS_sattr W (g.hE _ _ _ _ _ h1).1 (g.hE _ _ _ _ _ h2).1 h3 h4.1 h4.2
  | sitem o k e =>
    obtain ⟨p, h1, h⟩ := bnd h; obtain ⟨q, h2, h⟩ := bnd h; obtain ⟨r', h3, h⟩ := bnd h; obtain ⟨es, h4, h⟩ := bnd h; obtain ⟨h5, h⟩ := bcond h; cases h
    exact okS_sitem W (g.hE _ _ _ _ _ h1).1 (g.hE _ _ _ _ _ h2).1 (g.hE _ _ _ _ _ h3).1 h4 h5.1 h5.2
  | expr e => obtain ⟨p, h1, h⟩ := bnd h; obtain ⟨h2, h⟩ := bcond h; cases h; exact okS_expr (g.hE _ _ _ _ _ h1).1 h2
  | ifs c a b =>
    obtain ⟨p, h1, h⟩ := bnd h; obtain ⟨t, h2, h⟩ := bnd h
    refine okS_ifs (g.hE _ _ _ _ _ h1).1 (truth_some h2) ?_
    cases t with
    | true => exact g.hSs _ _ _ _ _ h
    | false => exact g.hSs _ _ _ _ _ h
  | for_ x it kill body => obtain ⟨p, h1, h⟩ := bnd h; exact okS_for W (g.hI _ _ _ _ _ h1) (g.hFor _ _ _ _ _ h)
  | while_ c kill body => exact okS_while (g.hWh _ _ _ _ _ h)
  | ret e => obtain ⟨p, h1, h⟩ := bnd h; cases h; exact okS_ret (g.hE _ _ _ _ _ h1).1
  | brk => cases h; exact okS_brk
  | stuck => cases h
theorem goodSs (W : Wd X P) (g : Good X P f) : Sat (stSs f) (fun d l ρ H r => OkSs X P d l ρ H r) := by
  rintro d l ρ H r h
  cases l with
  | nil => cases h; exact okSs_nil
  | cons s l =>
    obtain ⟨p, h1, h⟩ := bnd h
    split at h
    · rename_i hn; exact okSs_cons (g.hS _ _ _ _ _ h1) hn (g.hSs _ _ _ _ _ h)
    · rename_i hn
      cases h
      exact okSs_stop (g.hS _ _ _ _ _ h1) hn
theorem goodFor (W : Wd X P) (g : Good X P f) : Sat (stFor f) (fun d b ρ H r => OkFor X P d b.1.1 b.1.2.1 b.1.2.2 b.2.1 b.2.2 ρ H r) := by
  rintro d ⟨b, s, i⟩ ρ H r h
  obtain ⟨o, h1, h⟩ := bnd h
  cases o with
  | none => cases h; exact okFor_end h1
  | some v =>
    obtain ⟨q, h3, h⟩ := bnd h
    refine okFor_turn h1 (g.hSs _ _ _ _ _ h3) ?_
    split at h
    · rename_i hn; exact .inl ⟨hn, g.hFor _ _ _ _ _ h⟩
    · rename_i hn; exact .inr (.inl ⟨hn, by cases h; rfl⟩)
    · rename_i v hn; exact .inr (.inr ⟨v, hn, by cases h; rfl⟩)
theorem goodWh (W : Wd X P) (g : Good X P f) : Sat (stWh f) (fun d b ρ H r => OkWhile X P d b.1 b.2.1 b.2.2 ρ H r) := by
  rintro d ⟨c, kill, body⟩ ρ H r h
  obtain ⟨p, h1, h⟩ := bnd h; obtain ⟨t, h2, h⟩ := bnd h
  cases t with
  | true =>
    obtain ⟨q, h3, h⟩ := bnd (show (f.ss d body ρ p.2 >>= _) = some r from h)
    refine okWhile_turn (g.hE _ _ _ _ _ h1).1 (truth_some h2) (g.hSs _ _ _ _ _ h3) ?_
    split at h
    · rename_i hn; exact .inl ⟨hn, g.hWh _ _ _ _ _ h⟩
    · rename_i hn; exact .inr (.inl ⟨hn, by cases h; rfl⟩)
    · rename_i v hn; exact .inr (.inr ⟨v, hn, by cases h; rfl⟩)
  | false => cases h; exact okWhile_end (g.hE _ _ _ _ _ h1).1 (truth_some h2)
theorem goodC (W : Wd X P) (g : Good X P f) : Sat (stC P f) (fun d f args H r => OkC X d f args H r) := by
  rintro d k args H r h
  cases d with
  | zero => cases h
  | succ d =>
    obtain ⟨fn, h1, h⟩ := bnd h
    obtain ⟨h2, h⟩ := bcond h
    obtain ⟨q, h3, h⟩ := bnd h
    split at h
    · rename_i v hv; cases h; exact okC_call W h1 h2 (g.hSs _ _ _ _ _ h3) (.inl hv)
    · rename_i hv; cases h; exact okC_call W h1 h2 (g.hSs _ _ _ _ _ h3) (.inr ⟨hv, rfl⟩)
    · cases h
end
open Lean.Order
set_option synthInstance.maxSize 4000
set_option synthInstance.maxHeartbeats 400000
theorem adm4 {A B R : Type} (Q : Nat → A → B → AHeap → R → Prop) : admissible (fun f : F4 A B R => Sat f Q) :=
  admissible_pi_apply (fun d (f : A → B → AHeap → Option R) => ∀ a b H r, f a b H = some r → Q d a b H r) fun d => admissible_pi_apply (fun a (f : B → AHeap → Option R) => ∀ b H r, f b H = some r → Q d a b H r) fun a =>
    admissible_pi_apply (fun b (f : AHeap → Option R) => ∀ H r, f H = some r → Q d a b H r) fun b => admissible_pi_apply (fun H (o : Option R) => ∀ r, o = some r → Q d a b H r) fun H => admissible_pi _ fun r => Option.admissible_eq_some _ r
theorem good_adm (X : Tx) (P : Prg) : admissible (Good X P) := by
  have : Good X P = fun f => Sat f.e (fun d e ρ H r => OkE X P d e ρ H r ∧ ∀ v, e = .lit v → r = (v, H)) ∧ Sat f.l (fun d l ρ H r => OkL X P d l ρ H r) ∧ Sat f.or (fun d l ρ H r => OkB X P .Or d l ρ H r) ∧ Sat f.and (fun d l ρ H r => OkB X P .And d l ρ H r) ∧ Sat f.i (fun d it ρ H r => OkI X P d it ρ H r) ∧ Sat f.s (fun d l ρ H r => OkS X P d l ρ H r) ∧ Sat f.ss (fun d l ρ H r => OkSs X P d l ρ H r) ∧ Sat f.for (fun d b ρ H r => OkFor X P d b.1.1 b.1.2.1 b.1.2.2 b.2.1 b.2.2 ρ H r) ∧ Sat f.wh (fun d b ρ H r => OkWhile X P d b.1 b.2.1 b.2.2 ρ H r) ∧ Sat f.c (fun d f args H r => OkC X d f args H r) := funext fun f => propext ⟨fun g => ⟨g.hE, g.hL, g.hOr, g.hAnd, g.hI, g.hS, g.hSs, g.hFor, g.hWh, g.hC⟩, fun h => ⟨h.1, h.2.1, h.2.2.1, h.2.2.2.1, h.2.2.2.2.1, h.2.2.2.2.2.1, h.2.2.2.2.2.2.1, h.2.2.2.2.2.2.2.1, h.2.2.2.2.2.2.2.2.1, h.2.2.2.2.2.2.2.2.2⟩⟩
  rw [this]
  exact (admissible_and _ _ (admissible_pprod_fst _ (adm4 _)) (admissible_and _ _ (admissible_pprod_snd _ (admissible_pprod_fst _ (adm4 _))) (admissible_and _ _ (admissible_pprod_snd _ (admissible_pprod_snd _ (admissible_pprod_fst _ (adm4 _)))) (admissible_and _ _ (admissible_pprod_snd _ (admissible_pprod_snd _ (admissible_pprod_snd _ (admissible_pprod_fst _ (adm4 _))))) (admissible_and _ _ (admissible_pprod_snd _ (admissible_pprod_snd _ (admissible_pprod_snd _ (admissible_pprod_snd _ (admissible_pprod_fst _ (adm4 _)))))) (admissible_and _ _ (admissible_pprod_snd _ (admissible_pprod_snd _ (admissible_pprod_snd _ (admissible_pprod_snd _ (admissible_pprod_snd _ (admissible_pprod_fst _ (adm4 _))))))) (admissible_and _ _ (admissible_pprod_snd _ (admissible_pprod_snd _ (admissible_pprod_snd _ (admissible_pprod_snd _ (admissible_pprod_snd _ (admissible_pprod_snd _ (admissible_pprod_fst _ (adm4 _)))))))) (admissible_and _ _ (admissible_pprod_snd _ (admissible_pprod_snd _ (admissible_pprod_snd _ (admissible_pprod_snd _ (admissible_pprod_snd _ (admissible_pprod_snd _ (admissible_pprod_snd _ (admissible_pprod_fst _ (adm4 _))))))))) (admissible_and _ _ (admissible_pprod_snd _ (admissible_pprod_snd _ (admissible_pprod_snd _ (admissible_pprod_snd _ (admissible_pprod_snd _ (admissible_pprod_snd _ (admissible_pprod_snd _ (admissible_pprod_snd _ (admissible_pprod_fst _ (adm4 _)))))))))) (admissible_pprod_snd _ (admissible_pprod_snd _ (admissible_pprod_snd _ (admissible_pprod_snd _ (admissible_pprod_snd _ (admissible_pprod_snd _ (admissible_pprod_snd _ (admissible_pprod_snd _ (admissible_pprod_snd _ (adm4 _)))))))))))))))))))
theorem good_ev {X : Tx} {P : Prg} (W : Wd X P) : Good X P (ev' P) :=
  ev'_eq P ▸ fix_induct (step_mono P) (Good X P) (good_adm X P) fun f g => ⟨goodE W g, goodL W g, goodOr W g, goodAnd W g, goodI W g, goodS W g, goodSs W g, goodFor W g, goodWh W g, goodC W g⟩
theorem sound {X : Tx} {P : Prg} (W : Wd X P) :
    (∀ (d : Nat) (e : ME) (ρ : Loc) (H : AHeap) (r : AV × AHeap), evE P d e ρ H = some r → OkE X P d e ρ H r ∧ ∀ v, e = .lit v → r = (v, H)) ∧
    (∀ (d f : Nat) (args : List AV) (H : AHeap) (r : AV × AHeap), callF P d f args H = some r → OkC X d f args H r) ∧
    (∀ (d : Nat) (l : List MS) (ρ : Loc) (H : AHeap) (r : Fl × Loc × AHeap), evSs P d l ρ H = some r → OkSs X P d l ρ H r) :=
  ⟨(good_ev W).hE, (good_ev W).hC, (good_ev W).hSs⟩
end Mini
end

noncomputable section -- Bnd
set_option autoImplicit false
set_option linter.unusedVariables false
open PySem PySem.Calls PyProof.Rows PySem.W
noncomputable section
namespace Mini
theorem zip_look {α : Type} {n : Str} : ∀ {xs : List Str} {vs : List α}, n ∈ xs → vs.length = xs.length → ((xs.zip vs).lookup n).isSome = true
  | x :: xs, v :: vs, h, hl => by
    show (match n == x with | true => some v | false => (xs.zip vs).lookup n).isSome = true
    cases e : n == x with
    | true => rfl
    | false =>
      rcases List.mem_cons.mp h with rfl | h
      · simp at e
      · exact zip_look h (Nat.succ.inj hl)
theorem fm_congr {α β : Type} {f g : α → Option β} : ∀ {l : List α}, (∀ y ∈ l, f y = g y) → l.filterMap f = l.filterMap g
  | [], _ => rfl
  | x :: l, h => by
    have := fm_congr (l := l) fun y hy => h y (.tail _ hy)
    rw [List.filterMap_cons, List.filterMap_cons, h x (.head _), this]
theorem zip_map {α : Type} : ∀ {xs : List Str} {vs : List α}, xs.Nodup → vs.length = xs.length → (xs.filterMap fun n => ((xs.zip vs).lookup n).map (n, ·)) = xs.zip vs
  | [], _, _, _ => rfl
  | x :: xs, v :: vs, nd, hl => by
    have nd' := List.nodup_cons.mp nd
    have e : (((x :: xs).zip (v :: vs)).lookup x).map (x, ·) = some (x, v) := by
      show (match x == x with | true => some v | false => _).map (x, ·) = _
      rw [beq_self_eq_true]; rfl
    refine (List.filterMap_cons_some (f := fun n => (((x :: xs).zip (v :: vs)).lookup n).map (n, ·)) e).trans ?_
    refine congrArg ((x, v) :: ·) (Eq.trans (fm_congr fun y hy => ?_) (zip_map nd'.2 (Nat.succ.inj hl)))
    have : (y == x) = false := by
      rw [beq_eq_false_iff_ne]; rintro rfl; exact nd'.1 hy
    show (match y == x with | true => some v | false => (xs.zip vs).lookup y).map (y, ·) = _
    rw [this]
theorem bind_plain {fd : FuncData} (h1 : fd.params.posonlyargs = []) (h3 : fd.params.kwonlyargs = []) (h4 : fd.params.vararg = none) (h5 : fd.params.kwarg = none) (h6 : fd.defaults = .none) {args : List Value}
    (nd : (fd.params.args.map (·.arg)).Nodup) (hl : args.length = (fd.params.args.map (·.arg)).length) : bindArgs fd ⟨args, []⟩ = pure ((fd.params.args.map (·.arg)).zip args) := by
  obtain ⟨name, qualname, ⟨po, as, va, ko, kd, kw, df⟩, body, scope, globals, closure, defaults⟩ := fd
  dsimp only at h1 h3 h4 h5 h6 nd hl ⊢
  subst h1 h3 h4 h5 h6
  generalize hx : as.map (·.arg) = xs at nd hl
  have hf : (xs.filter fun n => ((xs.zip args).lookup n).isNone) = [] := by
    rw [List.filter_eq_nil_iff]
    intro n hn
    have := zip_look (vs := args) hn hl
    rw [← Option.not_isSome, this]; decide
  unfold bindArgs
  have dn : ∀ n, List.drop n ([] : List Value) = [] := fun n => List.drop_nil
  change (if (decide (args.length > (as.map (·.arg)).length) && true) = true then _ else _) = _
  refine (if_neg (by rw [hx, hl]; simp)).trans ?_
  change (if (!(List.filter (fun n => (((as.map (·.arg)).zip args).lookup n).isNone) (List.take ((as.map (·.arg)).length - (List.drop (0 - (as.map (·.arg)).length) ([] : List Value)).length) (as.map (·.arg)))).isEmpty) = true then _ else _) = _
  refine (if_neg (by rw [dn, hx]; simp [hf])).trans ?_
  have z : ∀ (l : List Str) n, l.zip (List.drop n ([] : List Value)) = [] := fun l n => by rw [dn, List.zip_nil_right]
  change (forIn ((List.drop ((as.map (·.arg)).length - (List.drop (0 - (as.map (·.arg)).length) ([] : List Value)).length) (as.map (·.arg))).zip (List.drop (0 - (as.map (·.arg)).length) ([] : List Value))) ((as.map (·.arg)).zip args) _ >>= _) = _
  rw [z]
  change (pure (((as.map Arg.arg ++ []).filterMap fun n => (((as.map Arg.arg).zip args).lookup n).map (n, ·))) : Sem (List (Str × Value))) = _
  rw [List.append_nil, hx, zip_map nd hl]
end Mini
end

noncomputable section -- Tab
set_option autoImplicit false
open PySem
namespace Mini

/-- the strings -/
noncomputable def tblC : List Str := Str.ofString "[]" :: Str.ofString "." :: Str.ofString "{}" :: Str.ofString "-" :: Str.ofString "+" :: Str.ofString "*" :: Str.ofString "/" :: Str.ofString "," :: Str.ofString "|" :: Str.ofString ";" :: Str.ofString "->" :: Str.ofString "\\+" :: Str.ofString ":-" :: Str.ofString "?-" :: Str.ofString "-->" :: Str.ofString "!" :: Str.ofString "true" :: Str.ofString "fail" :: Str.ofString "false" :: Str.ofString "call" :: Str.ofString "=" :: Str.ofString "^" :: Str.ofString "error" :: Str.ofString "" :: Str.ofString "end_of_file" :: Str.ofString "system" :: Str.ofString "$VAR" :: Str.ofString "catch" :: Str.ofString "throw" :: Str.ofString "texts" :: Str.ofString "atom_numbers" :: Str.ofString "functors" :: Str.ofString "functor_numbers" :: Str.ofString "atom" :: Str.ofString "func" :: Str.ofString "functor" :: Str.ofString "var" :: Str.ofString "key" :: Str.ofString "arity" :: Str.ofString "codes" :: Str.ofString "rows" :: Str.ofString "chains" :: Str.ofString "known" :: Str.ofString "next_label" :: Str.ofString "try" :: Str.ofString "retry" :: Str.ofString "trust" :: Str.ofString "fresh_label" :: Str.ofString "matching_places" :: Str.ofString "chain" :: Str.ofString "variable_places" :: Str.ofString "const" :: Str.ofString "table" :: Str.ofString "struct" :: Str.ofString "list" :: Str.ofString "switch_on_term" :: Str.ofString "label" :: Str.ofString "switch_on_constant" :: Str.ofString "switch_on_structure" :: Str.ofString "chain_rows" :: Str.ofString "instrs" :: Str.ofString "finish" :: Str.ofString "switch" :: Str.ofString "used" :: Str.ofString "p" :: Str.ofString "execute" :: []
noncomputable def v_fixed_atoms : List Str := []
noncomputable def b_fixed_atoms : List MS :=
  [.ret (.tup [(.lit (.sym 0)), (.lit (.sym 1)), (.lit (.sym 2)), (.lit (.sym 3)), (.lit (.sym 4)), (.lit (.sym 5)), (.lit (.sym 6)), (.lit (.sym 7)), (.lit (.sym 8)), (.lit (.sym 9)), (.lit (.sym 10)), (.lit (.sym 11)), (.lit (.sym 12)), (.lit (.sym 13)), (.lit (.sym 14)), (.lit (.sym 15)), (.lit (.sym 16)), (.lit (.sym 17)), (.lit (.sym 18)), (.lit (.sym 19)), (.lit (.sym 20)), (.lit (.sym 21)), (.lit (.sym 22)), (.lit (.sym 23)), (.lit (.sym 24)), (.lit (.sym 25)), (.lit (.sym 26)), (.lit (.sym 27)), (.lit (.sym 28))])]
noncomputable def f_fixed_atoms : Fn := ⟨0, 0, b_fixed_atoms⟩

noncomputable def v_fixed_functors : List Str := []
noncomputable def b_fixed_functors : List MS :=
  [.ret (.tup [(.tup [(.lit (.sym 1)), (.lit (.int 2))]), (.tup [(.lit (.sym 7)), (.lit (.int 2))]), (.tup [(.lit (.sym 9)), (.lit (.int 2))]), (.tup [(.lit (.sym 10)), (.lit (.int 2))]), (.tup [(.lit (.sym 11)), (.lit (.int 1))]), (.tup [(.lit (.sym 12)), (.lit (.int 2))]), (.tup [(.lit (.sym 12)), (.lit (.int 1))]), (.tup [(.lit (.sym 13)), (.lit (.int 1))]), (.tup [(.lit (.sym 14)), (.lit (.int 2))]), (.tup [(.lit (.sym 2)), (.lit (.int 1))]), (.tup [(.lit (.sym 20)), (.lit (.int 2))]), (.tup [(.lit (.sym 21)), (.lit (.int 2))]), (.tup [(.lit (.sym 3)), (.lit (.int 1))]), (.tup [(.lit (.sym 3)), (.lit (.int 2))]), (.tup [(.lit (.sym 4)), (.lit (.int 2))]), (.tup [(.lit (.sym 6)), (.lit (.int 2))]), (.tup [(.lit (.sym 22)), (.lit (.int 2))]), (.tup [(.lit (.sym 26)), (.lit (.int 1))]), (.tup [(.lit (.sym 27)), (.lit (.int 3))]), (.tup [(.lit (.sym 28)), (.lit (.int 1))]), (.tup [(.lit (.sym 15)), (.lit (.int 0))]), (.tup [(.lit (.sym 16)), (.lit (.int 0))]), (.tup [(.lit (.sym 17)), (.lit (.int 0))]), (.tup [(.lit (.sym 18)), (.lit (.int 0))]), (.tup [(.lit (.sym 19)), (.lit (.int 1))]), (.tup [(.lit (.sym 19)), (.lit (.int 2))]), (.tup [(.lit (.sym 19)), (.lit (.int 3))]), (.tup [(.lit (.sym 19)), (.lit (.int 4))]), (.tup [(.lit (.sym 19)), (.lit (.int 5))]), (.tup [(.lit (.sym 19)), (.lit (.int 6))]), (.tup [(.lit (.sym 19)), (.lit (.int 7))]), (.tup [(.lit (.sym 19)), (.lit (.int 8))])])]
noncomputable def f_fixed_functors : Fn := ⟨0, 0, b_fixed_functors⟩

noncomputable def v_Symbols_init : List Str := [Str.ofString "self", Str.ofString "text", Str.ofString "row"]
noncomputable def b_Symbols_init : List MS :=
  [.sattr (.loc 0) 29 (.list []),
  .sattr (.loc 0) 30 .dict0,
  .sattr (.loc 0) 31 (.list []),
  .sattr (.loc 0) 32 .dict0,
  .for_ 1 (.e (.call 0 [])) [1] [.expr (.meth (.loc 0) 33 [(.loc 1)])],
  .for_ 2 (.e (.call 1 [])) [2] [.expr (.meth (.loc 0) 34 [(.sub (.loc 2) (.lit (.int 0))), (.sub (.loc 2) (.lit (.int 1)))])]]
noncomputable def f_Symbols_init : Fn := ⟨1, 3, b_Symbols_init⟩

noncomputable def v_Symbols_atom : List Str := [Str.ofString "self", Str.ofString "text", Str.ofString "found", Str.ofString "number"]
noncomputable def b_Symbols_atom : List MS :=
  [.asg 2 (.dget (.attr (.loc 0) 30) (.loc 1) (.lit (.int (-1)))),
  .ifs (.cmp .ge (.loc 2) (.lit (.int 0))) [.ret (.loc 2)] [],
  .asg 3 (.len (.attr (.loc 0) 29)),
  .expr (.append (.attr (.loc 0) 29) (.loc 1)),
  .sitem (.attr (.loc 0) 30) (.loc 1) (.loc 3),
  .ret (.loc 3)]
noncomputable def f_Symbols_atom : Fn := ⟨2, 4, b_Symbols_atom⟩

noncomputable def v_Symbols_functor : List Str := [Str.ofString "self", Str.ofString "atom", Str.ofString "arity", Str.ofString "key", Str.ofString "found", Str.ofString "number"]
noncomputable def b_Symbols_functor : List MS :=
  [.asg 3 (.tup [(.loc 1), (.loc 2)]),
  .asg 4 (.dget (.attr (.loc 0) 32) (.loc 3) (.lit (.int (-1)))),
  .ifs (.cmp .ge (.loc 4) (.lit (.int 0))) [.ret (.loc 4)] [],
  .asg 5 (.len (.attr (.loc 0) 31)),
  .expr (.append (.attr (.loc 0) 31) (.loc 3)),
  .sitem (.attr (.loc 0) 32) (.loc 3) (.loc 5),
  .ret (.loc 5)]
noncomputable def f_Symbols_functor : Fn := ⟨3, 6, b_Symbols_functor⟩

noncomputable def v_Symbols_func : List Str := [Str.ofString "self", Str.ofString "text", Str.ofString "arity"]
noncomputable def b_Symbols_func : List MS :=
  [.ret (.meth (.loc 0) 35 [(.meth (.loc 0) 33 [(.loc 1)]), (.loc 2)])]
noncomputable def f_Symbols_func : Fn := ⟨3, 3, b_Symbols_func⟩

noncomputable def v_Symbols_arity : List Str := [Str.ofString "self", Str.ofString "functor"]
noncomputable def b_Symbols_arity : List MS :=
  [.ret (.sub (.sub (.attr (.loc 0) 31) (.loc 1)) (.lit (.int 1)))]
noncomputable def f_Symbols_arity : Fn := ⟨2, 2, b_Symbols_arity⟩

noncomputable def v_matching : List Str := [Str.ofString "key", Str.ofString "cell_key"]
noncomputable def b_matching : List MS :=
  [.ifs (.ors [(.cmp .eq (.loc 0) (.lit (.tup [.sym 36]))), (.cmp .eq (.loc 1) (.lit (.tup [.sym 36])))]) [.ret (.lit (.bool true))] [],
  .ret (.cmp .eq (.loc 0) (.loc 1))]
noncomputable def f_matching : Fn := ⟨2, 2, b_matching⟩

noncomputable def v_all_variable : List Str := [Str.ofString "codes", Str.ofString "code"]
noncomputable def b_all_variable : List MS :=
  [.for_ 1 (.e (.loc 0)) [1] [.ifs (.cmp .ne (.attr (.loc 1) 37) (.lit (.tup [.sym 36]))) [.ret (.lit (.bool false))] []],
  .ret (.lit (.bool true))]
noncomputable def f_all_variable : Fn := ⟨1, 2, b_all_variable⟩

noncomputable def v_BlockBuilder_init : List Str := [Str.ofString "self", Str.ofString "arity", Str.ofString "codes"]
noncomputable def b_BlockBuilder_init : List MS :=
  [.sattr (.loc 0) 38 (.loc 1),
  .sattr (.loc 0) 39 (.loc 2),
  .sattr (.loc 0) 40 (.list []),
  .sattr (.loc 0) 41 (.list []),
  .sattr (.loc 0) 42 .dict0,
  .sattr (.loc 0) 43 (.len (.loc 2))]
noncomputable def f_BlockBuilder_init : Fn := ⟨3, 3, b_BlockBuilder_init⟩

noncomputable def v_BlockBuilder_fresh_label : List Str := [Str.ofString "self", Str.ofString "label"]
noncomputable def b_BlockBuilder_fresh_label : List MS :=
  [.asg 1 (.attr (.loc 0) 43),
  .sattr (.loc 0) 43 (.bin .add (.loc 1) (.lit (.int 1))),
  .ret (.loc 1)]
noncomputable def f_BlockBuilder_fresh_label : Fn := ⟨1, 2, b_BlockBuilder_fresh_label⟩

noncomputable def v_BlockBuilder_chain_rows : List Str := [Str.ofString "self", Str.ofString "labels", Str.ofString "rows", Str.ofString "last", Str.ofString "place"]
noncomputable def b_BlockBuilder_chain_rows : List MS :=
  [.asg 2 (.list [(.tup [(.lit (.sym 44)), (.sub (.loc 1) (.lit (.int 0))), (.attr (.loc 0) 38)])]),
  .asg 3 (.bin .sub (.len (.loc 1)) (.lit (.int 1))),
  .for_ 4 (.range2 (.lit (.int 1)) (.loc 3)) [4] [.expr (.append (.loc 2) (.tup [(.lit (.sym 45)), (.sub (.loc 1) (.loc 4))]))],
  .expr (.append (.loc 2) (.tup [(.lit (.sym 46)), (.sub (.loc 1) (.loc 3))])),
  .ret (.loc 2)]
noncomputable def f_BlockBuilder_chain_rows : Fn := ⟨2, 5, b_BlockBuilder_chain_rows⟩

noncomputable def v_BlockBuilder_chain : List Str := [Str.ofString "self", Str.ofString "places", Str.ofString "wanted", Str.ofString "label"]
noncomputable def b_BlockBuilder_chain : List MS :=
  [.ifs (.cmp .eq (.len (.loc 1)) (.lit (.int 0))) [.ret (.lit (.int (-1)))] [],
  .ifs (.cmp .eq (.len (.loc 1)) (.lit (.int 1))) [.ret (.sub (.loc 1) (.lit (.int 0)))] [],
  .asg 2 (.tupOf (.loc 1)),
  .ifs (.cmp .isin (.loc 2) (.attr (.loc 0) 42)) [.ret (.sub (.attr (.loc 0) 42) (.loc 2))] [],
  .asg 3 (.meth (.loc 0) 47 []),
  .sitem (.attr (.loc 0) 42) (.loc 2) (.loc 3),
  .expr (.append (.attr (.loc 0) 41) (.tup [(.loc 3), (.loc 2)])),
  .ret (.loc 3)]
noncomputable def f_BlockBuilder_chain : Fn := ⟨2, 4, b_BlockBuilder_chain⟩

noncomputable def v_BlockBuilder_matching_places : List Str := [Str.ofString "self", Str.ofString "places", Str.ofString "cell_key", Str.ofString "found", Str.ofString "place"]
noncomputable def b_BlockBuilder_matching_places : List MS :=
  [.asg 3 (.list []),
  .for_ 4 (.e (.loc 1)) [4] [.ifs (.call 7 [(.attr (.sub (.attr (.loc 0) 39) (.loc 4)) 37), (.loc 2)]) [.expr (.append (.loc 3) (.loc 4))] []],
  .ret (.loc 3)]
noncomputable def f_BlockBuilder_matching_places : Fn := ⟨3, 5, b_BlockBuilder_matching_places⟩

noncomputable def v_BlockBuilder_variable_places : List Str := [Str.ofString "self", Str.ofString "places", Str.ofString "found", Str.ofString "place"]
noncomputable def b_BlockBuilder_variable_places : List MS :=
  [.asg 2 (.list []),
  .for_ 3 (.e (.loc 1)) [3] [.ifs (.cmp .eq (.attr (.sub (.attr (.loc 0) 39) (.loc 3)) 37) (.lit (.tup [.sym 36]))) [.expr (.append (.loc 2) (.loc 3))] []],
  .ret (.loc 2)]
noncomputable def f_BlockBuilder_variable_places : Fn := ⟨2, 4, b_BlockBuilder_variable_places⟩

noncomputable def v_BlockBuilder_table : List Str := [Str.ofString "self", Str.ofString "places", Str.ofString "kind", Str.ofString "pairs", Str.ofString "seen", Str.ofString "place", Str.ofString "key"]
noncomputable def b_BlockBuilder_table : List MS :=
  [.asg 3 (.list []),
  .asg 4 .dict0,
  .for_ 5 (.e (.loc 1)) [5, 6] [.asg 6 (.attr (.sub (.attr (.loc 0) 39) (.loc 5)) 37),
   .ifs (.ands [(.cmp .eq (.sub (.loc 6) (.lit (.int 0))) (.loc 2)), (.cmp .notin (.sub (.loc 6) (.lit (.int 1))) (.loc 4))]) [.sitem (.loc 4) (.sub (.loc 6) (.lit (.int 1))) (.lit (.bool true)),
    .expr (.append (.loc 3) (.tup [(.sub (.loc 6) (.lit (.int 1))), (.meth (.loc 0) 49 [(.meth (.loc 0) 48 [(.loc 1), (.loc 6)])])]))] []],
  .ret (.tupOf (.loc 3))]
noncomputable def f_BlockBuilder_table : Fn := ⟨3, 7, b_BlockBuilder_table⟩

noncomputable def v_BlockBuilder_switch : List Str := [Str.ofString "self", Str.ofString "places", Str.ofString "default", Str.ofString "constants", Str.ofString "structures", Str.ofString "const_label", Str.ofString "struct_label", Str.ofString "list_label"]
noncomputable def b_BlockBuilder_switch : List MS :=
  [.asg 2 (.meth (.loc 0) 49 [(.meth (.loc 0) 50 [(.loc 1)])]),
  .asg 3 (.meth (.loc 0) 52 [(.loc 1), (.lit (.sym 51))]),
  .asg 4 (.meth (.loc 0) 52 [(.loc 1), (.lit (.sym 53))]),
  .asg 5 (.loc 2),
  .asg 6 (.loc 2),
  .ifs (.cmp .gt (.len (.loc 3)) (.lit (.int 0))) [.asg 5 (.meth (.loc 0) 47 [])] [],
  .ifs (.cmp .gt (.len (.loc 4)) (.lit (.int 0))) [.asg 6 (.meth (.loc 0) 47 [])] [],
  .asg 7 (.meth (.loc 0) 49 [(.meth (.loc 0) 48 [(.loc 1), (.lit (.tup [.sym 54]))])]),
  .expr (.append (.attr (.loc 0) 40) (.tup [(.lit (.sym 55)), (.meth (.loc 0) 49 [(.loc 1)]), (.loc 5), (.loc 7), (.loc 6)])),
  .ifs (.cmp .gt (.len (.loc 3)) (.lit (.int 0))) [.expr (.append (.attr (.loc 0) 40) (.tup [(.lit (.sym 56)), (.loc 5)])),
   .expr (.append (.attr (.loc 0) 40) (.tup [(.lit (.sym 57)), (.loc 3), (.loc 2)]))] [],
  .ifs (.cmp .gt (.len (.loc 4)) (.lit (.int 0))) [.expr (.append (.attr (.loc 0) 40) (.tup [(.lit (.sym 56)), (.loc 6)])),
   .expr (.append (.attr (.loc 0) 40) (.tup [(.lit (.sym 58)), (.loc 4), (.loc 2)]))] []]
noncomputable def f_BlockBuilder_switch : Fn := ⟨2, 8, b_BlockBuilder_switch⟩

noncomputable def v_BlockBuilder_finish : List Str := [Str.ofString "self", Str.ofString "pair", Str.ofString "row", Str.ofString "place"]
noncomputable def b_BlockBuilder_finish : List MS :=
  [.for_ 1 (.e (.attr (.loc 0) 41)) [1, 2] [.expr (.append (.attr (.loc 0) 40) (.tup [(.lit (.sym 56)), (.sub (.loc 1) (.lit (.int 0)))])),
   .for_ 2 (.e (.meth (.loc 0) 59 [(.sub (.loc 1) (.lit (.int 1)))])) [2] [.expr (.append (.attr (.loc 0) 40) (.loc 2))]],
  .for_ 3 (.range1 (.len (.attr (.loc 0) 39))) [2, 3] [.expr (.append (.attr (.loc 0) 40) (.tup [(.lit (.sym 56)), (.loc 3)])),
   .for_ 2 (.e (.attr (.sub (.attr (.loc 0) 39) (.loc 3)) 60)) [2] [.expr (.append (.attr (.loc 0) 40) (.loc 2))]],
  .ret (.attr (.loc 0) 40)]
noncomputable def f_BlockBuilder_finish : Fn := ⟨1, 4, b_BlockBuilder_finish⟩

noncomputable def v_small_block : List Str := [Str.ofString "codes"]
noncomputable def b_small_block : List MS :=
  [.ifs (.cmp .eq (.len (.loc 0)) (.lit (.int 0))) [.ret (.list [(.tup [(.lit (.sym 17))])])] [],
  .ret (.listOf (.attr (.sub (.loc 0) (.lit (.int 0))) 60))]
noncomputable def f_small_block : Fn := ⟨1, 1, b_small_block⟩

noncomputable def v_chain_block : List Str := [Str.ofString "symbols", Str.ofString "functor", Str.ofString "codes", Str.ofString "builder", Str.ofString "row"]
noncomputable def b_chain_block : List MS :=
  [.ifs (.cmp .lt (.len (.loc 2)) (.lit (.int 2))) [.ret (.call 18 [(.loc 2)])] [],
  .asg 3 (.new 1 [(.meth (.loc 0) 38 [(.loc 1)]), (.loc 2)]),
  .for_ 4 (.e (.meth (.loc 3) 59 [(.listRange (.len (.loc 2)))])) [4] [.expr (.append (.attr (.loc 3) 40) (.loc 4))],
  .ret (.meth (.loc 3) 61 [])]
noncomputable def f_chain_block : Fn := ⟨3, 5, b_chain_block⟩

noncomputable def v_index_block : List Str := [Str.ofString "symbols", Str.ofString "functor", Str.ofString "codes", Str.ofString "builder"]
noncomputable def b_index_block : List MS :=
  [.ifs (.cmp .lt (.len (.loc 2)) (.lit (.int 2))) [.ret (.call 18 [(.loc 2)])] [],
  .ifs (.ors [(.cmp .eq (.meth (.loc 0) 38 [(.loc 1)]) (.lit (.int 0))), (.call 8 [(.loc 2)])]) [.ret (.call 19 [(.loc 0), (.loc 1), (.loc 2)])] [],
  .asg 3 (.new 1 [(.meth (.loc 0) 38 [(.loc 1)]), (.loc 2)]),
  .expr (.meth (.loc 3) 62 [(.listRange (.len (.loc 2)))]),
  .ret (.meth (.loc 3) 61 [])]
noncomputable def f_index_block : Fn := ⟨3, 4, b_index_block⟩

noncomputable def v_clause_groups : List Str := [Str.ofString "codes", Str.ofString "groups", Str.ofString "run", Str.ofString "place"]
noncomputable def b_clause_groups : List MS :=
  [.asg 1 (.list []),
  .asg 2 (.list []),
  .for_ 3 (.range1 (.len (.loc 0))) [3] [.ifs (.cmp .eq (.attr (.sub (.loc 0) (.loc 3)) 37) (.lit (.tup [.sym 36]))) [.ifs (.cmp .gt (.len (.loc 2)) (.lit (.int 0))) [.expr (.append (.loc 1) (.loc 2)),
     .asg 2 (.list [])] [],
    .expr (.append (.loc 1) (.list [(.loc 3)]))] [.expr (.append (.loc 2) (.loc 3))]],
  .ifs (.cmp .gt (.len (.loc 2)) (.lit (.int 0))) [.expr (.append (.loc 1) (.loc 2))] [],
  .ret (.loc 1)]
noncomputable def f_clause_groups : Fn := ⟨1, 4, b_clause_groups⟩

noncomputable def v_group_block : List Str := [Str.ofString "symbols", Str.ofString "functor", Str.ofString "codes", Str.ofString "builder", Str.ofString "groups", Str.ofString "labels", Str.ofString "group", Str.ofString "row", Str.ofString "number"]
noncomputable def b_group_block : List MS :=
  [.ifs (.cmp .lt (.len (.loc 2)) (.lit (.int 2))) [.ret (.call 18 [(.loc 2)])] [],
  .ifs (.ors [(.cmp .eq (.meth (.loc 0) 38 [(.loc 1)]) (.lit (.int 0))), (.call 8 [(.loc 2)])]) [.ret (.call 19 [(.loc 0), (.loc 1), (.loc 2)])] [],
  .asg 3 (.new 1 [(.meth (.loc 0) 38 [(.loc 1)]), (.loc 2)]),
  .asg 4 (.call 21 [(.loc 2)]),
  .ifs (.cmp .eq (.len (.loc 4)) (.lit (.int 1))) [.expr (.meth (.loc 3) 62 [(.sub (.loc 4) (.lit (.int 0)))]),
   .ret (.meth (.loc 3) 61 [])] [],
  .asg 5 (.list []),
  .for_ 6 (.e (.loc 4)) [6] [.ifs (.cmp .eq (.len (.loc 6)) (.lit (.int 1))) [.expr (.append (.loc 5) (.sub (.loc 6) (.lit (.int 0))))] [.expr (.append (.loc 5) (.meth (.loc 3) 47 []))]],
  .for_ 7 (.e (.meth (.loc 3) 59 [(.loc 5)])) [7] [.expr (.append (.attr (.loc 3) 40) (.loc 7))],
  .for_ 8 (.range1 (.len (.loc 4))) [8] [.ifs (.cmp .gt (.len (.sub (.loc 4) (.loc 8))) (.lit (.int 1))) [.expr (.append (.attr (.loc 3) 40) (.tup [(.lit (.sym 56)), (.sub (.loc 5) (.loc 8))])),
    .expr (.meth (.loc 3) 62 [(.sub (.loc 4) (.loc 8))])] []],
  .ret (.meth (.loc 3) 61 [])]
noncomputable def f_group_block : Fn := ⟨3, 9, b_group_block⟩

noncomputable def v_label_places : List Str := [Str.ofString "block", Str.ofString "where", Str.ofString "place"]
noncomputable def b_label_places : List MS :=
  [.asg 1 .dict0,
  .for_ 2 (.range1 (.len (.loc 0))) [2] [.ifs (.cmp .eq (.sub (.sub (.loc 0) (.loc 2)) (.lit (.int 0))) (.lit (.sym 56))) [.sitem (.loc 1) (.sub (.sub (.loc 0) (.loc 2)) (.lit (.int 1))) (.loc 2)] []],
  .ret (.loc 1)]
noncomputable def f_label_places : Fn := ⟨1, 3, b_label_places⟩

noncomputable def v_switch_target : List Str := [Str.ofString "ins", Str.ofString "key", Str.ofString "kind"]
noncomputable def b_switch_target : List MS :=
  [.asg 2 (.sub (.loc 1) (.lit (.int 0))),
  .ifs (.cmp .eq (.loc 2) (.lit (.sym 51))) [.ret (.sub (.loc 0) (.lit (.int 2)))] [],
  .ifs (.cmp .eq (.loc 2) (.lit (.sym 54))) [.ret (.sub (.loc 0) (.lit (.int 3)))] [],
  .ifs (.cmp .eq (.loc 2) (.lit (.sym 53))) [.ret (.sub (.loc 0) (.lit (.int 4)))] [],
  .ret (.sub (.loc 0) (.lit (.int 1)))]
noncomputable def f_switch_target : Fn := ⟨2, 3, b_switch_target⟩

noncomputable def v_table_target : List Str := [Str.ofString "ins", Str.ofString "key", Str.ofString "pair"]
noncomputable def b_table_target : List MS :=
  [.for_ 2 (.e (.sub (.loc 0) (.lit (.int 1)))) [2] [.ifs (.cmp .eq (.sub (.loc 2) (.lit (.int 0))) (.sub (.loc 1) (.lit (.int 1)))) [.ret (.sub (.loc 2) (.lit (.int 1)))] []],
  .ret (.sub (.loc 0) (.lit (.int 2)))]
noncomputable def f_table_target : Fn := ⟨2, 3, b_table_target⟩

noncomputable def v_tried_clauses : List Str := [Str.ofString "block", Str.ofString "count", Str.ofString "key", Str.ofString "where", Str.ofString "found", Str.ofString "pending", Str.ofString "place", Str.ofString "ins", Str.ofString "name", Str.ofString "target"]
noncomputable def b_tried_clauses : List MS :=
  [.ifs (.cmp .eq (.loc 1) (.lit (.int 0))) [.ret (.list [])] [],
  .ifs (.cmp .eq (.loc 1) (.lit (.int 1))) [.ret (.list [(.lit (.int 0))])] [],
  .asg 3 (.call 23 [(.loc 0)]),
  .asg 4 (.list []),
  .asg 5 (.list [(.lit (.int 0))]),
  .while_ (.cmp .gt (.len (.loc 5)) (.lit (.int 0))) [6, 7, 8, 9] [.asg 6 (.pop (.loc 5)),
   .asg 7 (.sub (.loc 0) (.loc 6)),
   .asg 8 (.sub (.loc 7) (.lit (.int 0))),
   .asg 9 (.lit (.int (-1))),
   .ifs (.cmp .eq (.loc 8) (.lit (.sym 56))) [.ifs (.cmp .lt (.sub (.loc 7) (.lit (.int 1))) (.loc 1)) [.expr (.append (.loc 4) (.sub (.loc 7) (.lit (.int 1))))] [.expr (.append (.loc 5) (.bin .add (.loc 6) (.lit (.int 1))))]] [.ifs (.ors [(.cmp .eq (.loc 8) (.lit (.sym 44))), (.cmp .eq (.loc 8) (.lit (.sym 45)))]) [.expr (.append (.loc 5) (.bin .add (.loc 6) (.lit (.int 1)))),
     .asg 9 (.sub (.loc 7) (.lit (.int 1)))] [.ifs (.cmp .eq (.loc 8) (.lit (.sym 46))) [.asg 9 (.sub (.loc 7) (.lit (.int 1)))] [.ifs (.cmp .eq (.loc 8) (.lit (.sym 55))) [.asg 9 (.call 24 [(.loc 7), (.loc 2)])] [.ifs (.ors [(.cmp .eq (.loc 8) (.lit (.sym 57))), (.cmp .eq (.loc 8) (.lit (.sym 58)))]) [.asg 9 (.call 25 [(.loc 7), (.loc 2)])] [.stuck]]]]],
   .ifs (.cmp .ne (.loc 9) (.lit (.int (-1)))) [.expr (.append (.loc 5) (.sub (.loc 3) (.loc 9)))] []],
  .ret (.loc 4)]
noncomputable def f_tried_clauses : Fn := ⟨3, 10, b_tried_clauses⟩

noncomputable def v_ClauseCode_init : List Str := [Str.ofString "self", Str.ofString "functor", Str.ofString "key", Str.ofString "instrs", Str.ofString "used"]
noncomputable def b_ClauseCode_init : List MS :=
  [.sattr (.loc 0) 35 (.loc 1),
  .sattr (.loc 0) 37 (.loc 2),
  .sattr (.loc 0) 60 (.loc 3),
  .sattr (.loc 0) 63 (.loc 4)]
noncomputable def f_ClauseCode_init : Fn := ⟨5, 5, b_ClauseCode_init⟩

noncomputable def v_law_figures : List Str := [Str.ofString "script", Str.ofString "figures", Str.ofString "cell", Str.ofString "whole", Str.ofString "turn"]
noncomputable def b_law_figures : List MS :=
  [.asg 1 (.list []),
  .for_ 2 (.e (.slice (.loc 0) (.lit .none) (.lit (.int 30)))) [2, 3, 4] [.asg 3 (.ite (.cmp .ge (.loc 2) (.lit (.int 0))) (.loc 2) (.bin .sub (.lit (.int 3)) (.bin .mul (.lit (.int 5)) (.loc 2)))),
   .for_ 4 (.range1 (.lit (.int 24))) [4] [.expr (.append (.loc 1) (.bin .mod (.loc 3) (.lit (.int 997)))),
    .asg 3 (.bin .fdiv (.loc 3) (.lit (.int 997))),
    .ifs (.cmp .eq (.loc 3) (.lit (.int 0))) [.brk] []]],
  .asg 1 (.slice (.loc 1) (.lit .none) (.lit (.int 90))),
  .expr (.rev (.loc 1)),
  .ret (.loc 1)]
noncomputable def f_law_figures : Fn := ⟨1, 5, b_law_figures⟩

noncomputable def v_law_draw : List Str := [Str.ofString "figures", Str.ofString "many"]
noncomputable def b_law_draw : List MS :=
  [.ifs (.cmp .eq (.loc 0) (.list [])) [.ret (.lit (.int 0))] [],
  .ret (.bin .mod (.pop (.loc 0)) (.loc 1))]
noncomputable def f_law_draw : Fn := ⟨2, 2, b_law_draw⟩

noncomputable def v_law_key_drawn : List Str := [Str.ofString "figures", Str.ofString "kind"]
noncomputable def b_law_key_drawn : List MS :=
  [.asg 1 (.call 29 [(.loc 0), (.lit (.int 5))]),
  .ifs (.cmp .eq (.loc 1) (.lit (.int 1))) [.ret (.tup [(.lit (.sym 36))])] [],
  .ifs (.cmp .eq (.loc 1) (.lit (.int 2))) [.ret (.tup [(.lit (.sym 54))])] [],
  .ifs (.cmp .eq (.loc 1) (.lit (.int 3))) [.ret (.tup [(.lit (.sym 53)), (.bin .add (.lit (.int 40)) (.call 29 [(.loc 0), (.lit (.int 2))]))])] [],
  .ret (.tup [(.lit (.sym 51)), (.tup [(.ite (.cmp .eq (.loc 1) (.lit (.int 0))) (.lit (.int 5)) (.lit (.int 4))), (.call 29 [(.loc 0), (.lit (.int 2))])])])]
noncomputable def f_law_key_drawn : Fn := ⟨1, 2, b_law_key_drawn⟩

noncomputable def v_law : List Str := [Str.ofString "script", Str.ofString "figures", Str.ofString "signs", Str.ofString "wide", Str.ofString "name", Str.ofString "keys", Str.ofString "codes", Str.ofString "place", Str.ofString "many", Str.ofString "groups", Str.ofString "home", Str.ofString "flat", Str.ofString "number", Str.ofString "block", Str.ofString "other", Str.ofString "calls", Str.ofString "key", Str.ofString "call", Str.ofString "due", Str.ofString "fitting", Str.ofString "group", Str.ofString "fits"]
noncomputable def b_law : List MS :=
  [.asg 1 (.call 28 [(.loc 0)]),
  .asg 2 (.new 0 []),
  .asg 3 (.sub (.list [(.lit (.int 1)), (.lit (.int 2)), (.lit (.int 3)), (.lit (.int 0))]) (.call 29 [(.loc 1), (.lit (.int 4))])),
  .asg 4 (.meth (.loc 2) 34 [(.lit (.sym 64)), (.loc 3)]),
  .asg 5 (.list []),
  .asg 6 (.list []),
  .for_ 7 (.range1 (.sub (.list [(.lit (.int 2)), (.lit (.int 3)), (.lit (.int 4)), (.lit (.int 5)), (.lit (.int 1)), (.lit (.int 0))]) (.call 29 [(.loc 1), (.lit (.int 6))]))) [7] [.expr (.append (.loc 5) (.ite (.cmp .gt (.loc 3) (.lit (.int 0))) (.call 30 [(.loc 1)]) (.tup [(.lit (.sym 36))]))),
   .expr (.append (.loc 6) (.new 2 [(.loc 4), (.sub (.loc 5) (.loc 7)), (.list [(.tup [(.lit (.sym 65)), (.loc 7)])]), (.loc 3)]))],
  .asg 8 (.len (.loc 6)),
  .asg 9 (.call 21 [(.loc 6)]),
  .asg 10 (.list []),
  .asg 11 (.list []),
  .for_ 12 (.range1 (.len (.loc 9))) [7, 12] [.for_ 7 (.e (.sub (.loc 9) (.loc 12))) [7] [.expr (.append (.loc 10) (.loc 12)),
    .expr (.append (.loc 11) (.loc 7))]],
  .ifs (.ors [(.cmp .isin (.list []) (.loc 9)), (.cmp .ne (.loc 11) (.listRange (.loc 8)))]) [.ret (.lit (.bool false))] [],
  .for_ 7 (.range2 (.lit (.int 1)) (.loc 8)) [7] [.ifs (.cmp .ne (.cmp .eq (.sub (.loc 10) (.bin .sub (.loc 7) (.lit (.int 1)))) (.sub (.loc 10) (.loc 7))) (.cmp .notin (.tup [(.lit (.sym 36))]) (.slice (.loc 5) (.bin .sub (.loc 7) (.lit (.int 1))) (.bin .add (.loc 7) (.lit (.int 1)))))) [.ret (.lit (.bool false))] []],
  .ifs (.cmp .ne (.call 8 [(.loc 6)]) (.filt (.loc 5) 36)) [.ret (.lit (.bool false))] [],
  .asg 13 (.call 22 [(.loc 2), (.loc 4), (.loc 6)]),
  .asg 14 (.call 20 [(.loc 2), (.loc 4), (.loc 6)]),
  .asg 15 (.list [(.tup [(.lit (.sym 36))]), (.tup [(.lit (.sym 54))]), (.tup [(.lit (.sym 51)), (.tup [(.lit (.int 5)), (.lit (.int 100000000000000000000))])]), (.tup [(.lit (.sym 53)), (.lit (.int 77))])]),
  .for_ 16 (.e (.loc 5)) [16] [.ifs (.cmp .notin (.loc 16) (.loc 15)) [.expr (.append (.loc 15) (.loc 16))] []],
  .for_ 17 (.e (.loc 15)) [7, 17, 18, 19, 20, 21] [.asg 18 (.list []),
   .asg 19 (.list []),
   .for_ 20 (.e (.loc 9)) [7, 20, 21] [.for_ 7 (.e (.loc 20)) [7, 21] [.asg 21 (.ors [(.cmp .eq (.sub (.loc 5) (.loc 7)) (.tup [(.lit (.sym 36))])), (.cmp .eq (.loc 17) (.tup [(.lit (.sym 36))])), (.cmp .eq (.sub (.loc 5) (.loc 7)) (.loc 17))]),
     .ifs (.ors [(.loc 21), (.cmp .eq (.len (.loc 20)) (.lit (.int 1)))]) [.expr (.append (.loc 18) (.loc 7))] [],
     .ifs (.ors [(.loc 21), (.cmp .eq (.loc 8) (.lit (.int 1)))]) [.expr (.append (.loc 19) (.loc 7))] []]],
   .ifs (.ors [(.cmp .ne (.call 26 [(.loc 13), (.loc 8), (.loc 17)]) (.loc 18)), (.cmp .ne (.call 26 [(.loc 14), (.loc 8), (.loc 17)]) (.loc 19))]) [.ret (.lit (.bool false))] []],
  .ret (.lit (.bool true))]
noncomputable def f_law : Fn := ⟨1, 22, b_law⟩

noncomputable def fnC : List Fn := [f_fixed_atoms, f_fixed_functors, f_Symbols_init, f_Symbols_atom, f_Symbols_functor, f_Symbols_func, f_Symbols_arity, f_matching, f_all_variable, f_BlockBuilder_init, f_BlockBuilder_fresh_label, f_BlockBuilder_chain_rows, f_BlockBuilder_chain, f_BlockBuilder_matching_places, f_BlockBuilder_variable_places, f_BlockBuilder_table, f_BlockBuilder_switch, f_BlockBuilder_finish, f_small_block, f_chain_block, f_index_block, f_clause_groups, f_group_block, f_label_places, f_switch_target, f_table_target, f_tried_clauses, f_ClauseCode_init, f_law_figures, f_law_draw, f_law_key_drawn]
noncomputable def atsC : List (List Nat) := [[29, 30, 31, 32], [38, 39, 40, 41, 42, 43], [35, 37, 60, 63]]
noncomputable def methC : List (List (Nat × Nat)) := [[(33, 3), (35, 4), (34, 5), (38, 6)], [(47, 10), (59, 11), (49, 12), (48, 13), (50, 14), (52, 15), (62, 16), (61, 17)], []]
noncomputable def initC : List Nat := [2, 9, 27]
noncomputable def theP : Prg := ⟨66, fun c n => (atsC.getD c []).contains n, fun f => fnC[f]?, fun c => initC[c]?, fun c n => (methC.getD c []).lookup n⟩
end Mini
end

noncomputable section -- Ck
set_option autoImplicit false
set_option linter.unusedVariables false
set_option maxRecDepth 100000
open PySem PySem.Calls PyProof.Rows PySem.W
noncomputable section
namespace Mini

/-! ### a check that bears its proof -/
inductive Yes (p : Prop) : Type
  | no
  | yes (h : p)
noncomputable def Yes.ok {p : Prop} : Yes p → Bool
  | .no => false
  | .yes _ => true
theorem Yes.get {p : Prop} {y : Yes p} (e : y.ok = true) : p := by cases y with
  | no => cases e
  | yes h => exact h
noncomputable def Yes.bind {p q : Prop} (y : Yes p) (f : p → Yes q) : Yes q := match y with
  | .no => .no
  | .yes h => f h
noncomputable def ckD (p : Prop) [d : Decidable p] : Yes p := match d with
  | .isTrue h => .yes h
  | .isFalse _ => .no
noncomputable def ckB (b : Bool) : Yes (b = true) := match b with
  | true => .yes rfl
  | false => .no
noncomputable def ckS (a b : Str) : Yes (a = b) := (ckB (Fast.sEq a b)).bind fun h => .yes (Fast.sEq_iff.mp h)
noncomputable def ckSs : (a b : List Str) → Yes (a = b)
  | [], b => match b with
    | [] => .yes rfl
    | _ => .no
  | x :: a, b => match b with
    | [] => .no
    | y :: b => (ckS x y).bind fun h => (ckSs a b).bind fun h2 => .yes (by rw [h, h2])
noncomputable def ckAll {α : Type} {p : α → Prop} (f : (a : α) → Yes (p a)) : (l : List α) → Yes (∀ a ∈ l, p a)
  | [] => .yes fun _ h => nomatch h
  | x :: l => (f x).bind fun h => (ckAll f l).bind fun h2 => .yes fun a ha => (List.mem_cons.mp ha).elim (fun e => e ▸ h) (h2 a)
theorem beq_sEq (a b : Str) : (a == b) = Fast.sEq a b := by rw [Bool.eq_iff_iff, beq_iff_eq, Fast.sEq_iff]
noncomputable def flook {β : Type} (x : Str) : List (Str × β) → Option β
  | [] => none
  | (y, v) :: r => match Fast.sEq x y with
    | true => some v
    | false => flook x r
theorem flook_eq {β : Type} (x : Str) : ∀ l : List (Str × β), flook x l = l.lookup x
  | [] => rfl
  | (y, v) :: r => by
    show _ = (match x == y with | true => some v | false => r.lookup x)
    rw [beq_sEq, ← flook_eq x r]; rfl
theorem flook_mem {β : Type} {x : Str} {v : β} : ∀ {l : List (Str × β)}, flook x l = some v → (x, v) ∈ l
  | (y, u) :: r, e => by
    unfold flook at e
    cases h : Fast.sEq x y with
    | true => rw [h] at e; cases e; rw [Fast.sEq_iff.mp h]; exact .head _
    | false => rw [h] at e; exact .tail _ (flook_mem e)
noncomputable def ckO {α : Type} {p : α → Prop} (o : Option α) (f : (a : α) → Yes (p a)) : Yes (∃ a, o = some a ∧ p a) := match o with
  | some a => (f a).bind fun h => .yes ⟨a, rfl, h⟩
  | none => .no
noncomputable def ckN (a b : Nat) : Yes (a = b) := ckD _

/-! ### the text's names -/
noncomputable def glC : List (Str × Nat) := [("fixed_atoms", 61),("fixed_functors", 68),("matching", 168),("all_variable", 175),("small_block", 259),("chain_block", 266),("index_block", 273),("clause_groups", 280),("group_block", 287),("label_places", 294),("switch_target", 301),("table_target", 308),("tried_clauses", 315),("_law_figures", 343),("_law_draw", 350),("_law_key_drawn", 357),("Symbols", 155),("BlockBuilder", 248),("ClauseCode", 332)]
noncomputable def gvC : List (Str × AV) := [("VAR_KEY", .tup [.sym 36]), ("LIST_KEY", .tup [.sym 54]), ("FAIL_LABEL", .int (-1)), ("CON", .int 4), ("INT", .int 5)]
noncomputable def GV (X : Tx) (x : Str) (v : AV) : Prop := ∃ rv, X.mg x = some rv ∧ ∀ (h : Heap) (φ : List Lc), (∀ b o, X.h₀.get? b = some o → h.get? b = some o) → VR X h φ rv v
structure E0 (X : Tx) : Prop where
  G : ∀ p ∈ glC, X.mg p.1 = some (.ref p.2)
  V : ∀ p ∈ gvC, GV X p.1 p.2
  len : X.mg "len" = none ∧ X.mb "len" = some (.builtin "len")
  list : X.mg "list" = none ∧ X.mb "list" = some (.type "list")
  range : X.mg "range" = none ∧ X.mb "range" = some (.type "range")
  tuple : X.mg "tuple" = none ∧ X.mb "tuple" = some (.type "tuple")

section
variable {X : Tx} (E : E0 X) (P : Prg) (sc : Scope) (vars : List Str)
noncomputable def ckT (X : Tx) (n : Nat) (x : Str) : Yes (X.tbl[n]? = some x) := (ckO X.tbl[n]? fun y => ckS y x).bind fun h => .yes (h.elim fun y e => e.2 ▸ e.1)
noncomputable def ckV (i : Nat) (x : Str) : Yes (vars[i]? = some x) := (ckO vars[i]? fun y => ckS y x).bind fun h => .yes (h.elim fun y e => e.2 ▸ e.1)
noncomputable def ckL (x : Str) (k : NameKind) : Yes (sc.names.lookup x = some k ∧ (x == ("__debug__" : Str)) = false) :=
  (ckO (flook x sc.names) fun y => ckD (y = k)).bind fun h => (ckB (!Fast.sEq x "__debug__")).bind fun h2 => .yes ⟨h.elim fun y e => (flook_eq x sc.names).symm.trans (e.2 ▸ e.1), by rw [beq_sEq]; simpa using h2⟩
noncomputable def ckGF (x : Str) (a : Addr) : Yes (GlobF X sc x a) := (ckL sc x .globalImplicit).bind fun h => (ckO (flook x glC) fun b => ckN b a).bind fun h2 => .yes ⟨h.1, h.2, h2.elim fun b e => e.2 ▸ E.G _ (flook_mem e.1)⟩
noncomputable def ckGV (x : Str) (v : AV) : Yes (GlobV X sc x v) := (ckL sc x .globalImplicit).bind fun h => (ckO (flook x gvC) fun b => ckD (b = v)).bind fun h2 => .yes ⟨h.1, h.2, h2.elim fun b e => e.2 ▸ E.V _ (flook_mem e.1)⟩
noncomputable def ckGB (x : Str) (v : Value) (e : X.mg x = none ∧ X.mb x = some v) : Yes (GlobB X sc x v) := (ckL sc x .globalImplicit).bind fun h => .yes ⟨h.1, h.2, e.1, e.2⟩
noncomputable def ckSc (s : Scope) (x : Str) : Yes (ScOk s x) :=
  (ckAll (fun y : Str × NameKind => ckD (y.2 = .local)) s.names).bind fun h1 => (ckD (s.kind = .function)).bind fun h2 => (ckAll (fun y : Str × NameKind => ckL s y.1 .local) s.names).bind fun h3 => (ckL s x .local).bind fun h4 => .yes ⟨h1, h2, fun y hy => (h3 y hy).1, h4.1, h4.2⟩
noncomputable def ckNone (me : ME) : Yes (me = .lit .none) := match me with
  | .lit .none => .yes rfl
  | _ => .no
noncomputable def ckOpt {me : ME} (f : (e : Expr) → Yes (TE X P sc vars e me)) (o : Option Expr) : Yes (o.elim (me = .lit .none) fun x => TE X P sc vars x me) := match o with
  | none => ckNone me
  | some x => f x
noncomputable def ckLit (v : AV) (Ex : Expr) : Yes (TL X sc Ex v) := match Ex with
  | .Constant c k p => (match c with
    | .int i => (ckD (v = .int i)).bind fun h => .yes (.inl ⟨i, k, p, rfl, h⟩)
    | .str x => (match v with
      | .sym n => (ckT X n x).bind fun h => .yes (.inr (.inl ⟨x, n, k, p, rfl, rfl, h⟩))
      | _ => .no)
    | .bool b => (ckD (v = .bool b)).bind fun h => .yes (.inr (.inr (.inl ⟨b, k, p, rfl, h⟩)))
    | _ => .no)
  | .UnaryOp .USub (.Constant (.int i) k p) p' => (ckD (v = .int (-i))).bind fun h => .yes (.inr (.inr (.inr (.inl ⟨i, k, p, p', rfl, h⟩))))
  | .BinOp (.Constant (.int a) k p) .Pow (.Constant (.int b) k' p') p'' => (ckD (a = 10)).bind fun h1 => (ckD (b = 20)).bind fun h2 => (ckD (v = .int 100000000000000000000)).bind fun h => .yes (.inr (.inr (.inr (.inr (.inl ⟨k, k', p, p', p'', by rw [h1, h2], h⟩)))))
  | .Name x p => (ckGV E sc x v).bind fun h => .yes (.inr (.inr (.inr (.inr (.inr ⟨x, p, rfl, h⟩)))))
  | _ => .no
noncomputable def ckEs (ck : (me : ME) → (Ex : Expr) → Yes (TE X P sc vars Ex me)) : (ml : List ME) → (l : List Expr) → Yes (TEs X P sc vars l ml)
  | [], l => match l with
    | [] => .yes rfl
    | _ => .no
  | m :: r, l => match l with
    | e :: s => (ckB (nice e)).bind fun n => (ck m e).bind fun h1 => (ckEs ck r s).bind fun h2 => .yes ⟨e, s, rfl, n, h1, h2⟩
    | _ => .no
noncomputable def ckE0 (ck : (me : ME) → (Ex : Expr) → Yes (TE X P sc vars Ex me)) (me : ME) (Ex : Expr) : Yes (TE X P sc vars Ex me) := match me with
  | .lit v => ckLit E sc v Ex
  | .loc i => match Ex with
    | .Name x p => (ckV vars i x).bind fun h => .yes ⟨x, p, rfl, h⟩
    | _ => .no
  | .attr me n => match Ex with
    | .Attribute e a p => (ck me e).bind fun h1 => (ckT X n a).bind fun h2 => (ckB (plainBase e)).bind fun h3 => .yes ⟨e, a, p, rfl, h1, h2, h3⟩
    | _ => .no
  | .sub me mi => match Ex with
    | .Subscript e i p => (ck me e).bind fun h1 => (ckB (nice i)).bind fun n => (ck mi i).bind fun h2 => .yes ⟨e, i, p, rfl, h1, n, h2⟩
    | _ => .no
  | .slice me ml mh => match Ex with
    | .Subscript e (.Slice lo hi none p') p => (ck me e).bind fun h1 => (ckOpt P sc vars (fun x => ck ml x) lo).bind fun h2 => (ckOpt P sc vars (fun x => ck mh x) hi).bind fun h3 => .yes ⟨e, lo, hi, p, p', rfl, h1, h2, h3⟩
    | _ => .no
  | .bin o ma mb => match Ex with
    | .BinOp a op b p => (ckD (op = opOf o)).bind fun h => (ck ma a).bind fun h1 => (ck mb b).bind fun h2 => .yes ⟨a, b, p, by rw [h], h1, h2⟩
    | _ => .no
  | .cmp o ma mb => match Ex with
    | .Compare a [op] [b] p => (ckD (op = copOf o)).bind fun h => (ck ma a).bind fun h1 => (ckB (nice b)).bind fun n => (ck mb b).bind fun h2 => .yes ⟨a, b, p, by rw [h], h1, n, h2⟩
    | _ => .no
  | .ors ml => match Ex with
    | .BoolOp .Or l p => (ckEs P sc vars ck ml l).bind fun h => .yes ⟨l, p, rfl, h⟩
    | _ => .no
  | .ands ml => match Ex with
    | .BoolOp .And l p => (ckEs P sc vars ck ml l).bind fun h => .yes ⟨l, p, rfl, h⟩
    | _ => .no
  | .ite mc ma mb => match Ex with
    | .IfExp c a b p => (ck mc c).bind fun h1 => (ck ma a).bind fun h2 => (ck mb b).bind fun h3 => .yes ⟨c, a, b, p, rfl, h1, h2, h3⟩
    | _ => .no
  | .list ml => match Ex with
    | .List l p => (ckEs P sc vars ck ml l).bind fun h => .yes ⟨l, p, rfl, h⟩
    | _ => .no
  | .tup ml => match Ex with
    | .Tuple l k p => (ckEs P sc vars ck ml l).bind fun h => .yes ⟨l, k, p, rfl, h⟩
    | _ => .no
  | .dict0 => match Ex with
    | .Dict [] [] p => .yes ⟨p, rfl⟩
    | _ => .no
  | .call f ml => match Ex with
    | .Call (.Name x p') l [] p => (ckGF E sc x (X.fnA f)).bind fun h1 => (ckB (P.fn f).isSome).bind fun h2 => (ckEs P sc vars ck ml l).bind fun h3 => .yes ⟨x, l, p, p', rfl, h1, h2, h3⟩
    | _ => .no
  | .new c ml => match Ex with
    | .Call (.Name x p') l [] p => (ckGF E sc x (X.cls c)).bind fun h1 => (ckB (P.init c).isSome).bind fun h2 => (ckEs P sc vars ck ml l).bind fun h3 => .yes ⟨x, l, p, p', rfl, h1, h2, h3⟩
    | _ => .no
  | .meth me n ml => match Ex with
    | .Call (.Attribute e a p') l [] p => (ck me e).bind fun h1 => (ckT X n a).bind fun h2 => (ckB (plainBase e)).bind fun h3 => (ckB (p'.endLine == p.line)).bind fun h4 => (ckD (l.length < 20)).bind fun h5 => (ckEs P sc vars ck ml l).bind fun h6 => .yes ⟨e, a, l, p, p', rfl, h1, h2, h3, h4, h5, h6⟩
    | _ => .no
  | .len me => match Ex with
    | .Call (.Name x p') [e] [] p => (ckS x "len").bind fun h => (ckGB sc "len" _ E.len).bind fun h1 => (ckB (nice e)).bind fun n => (ck me e).bind fun h2 => .yes ⟨e, p, p', by rw [h], h1, n, h2⟩
    | _ => .no
  | .listRange me => match Ex with
    | .Call (.Name x p') [.Call (.Name y q') [e] [] q] [] p => (ckS x "list").bind fun h => (ckS y "range").bind fun h' => (ckGB sc "list" _ E.list).bind fun h1 => (ckGB sc "range" _ E.range).bind fun h2 => (ckB (nice e)).bind fun n => (ck me e).bind fun h3 => .yes ⟨e, p, p', q, q', by rw [h, h'], h1, h2, n, h3⟩
    | _ => .no
  | .listOf me => match Ex with
    | .Call (.Name x p') [e] [] p => (ckS x "list").bind fun h => (ckGB sc "list" _ E.list).bind fun h1 => (ckB (nice e)).bind fun n => (ck me e).bind fun h2 => .yes ⟨e, p, p', by rw [h], h1, n, h2⟩
    | _ => .no
  | .tupOf me => match Ex with
    | .Call (.Name x p') [e] [] p => (ckS x "tuple").bind fun h => (ckGB sc "tuple" _ E.tuple).bind fun h1 => (ckB (nice e)).bind fun n => (ck me e).bind fun h2 => .yes ⟨e, p, p', by rw [h], h1, n, h2⟩
    | _ => .no
  | .append me mx => match Ex with
    | .Call (.Attribute e a p') [x] [] p => (ckS a "append").bind fun h => (ck me e).bind fun h1 => (ckB (nice x)).bind fun n => (ck mx x).bind fun h2 => (ckB (plainBase e)).bind fun h3 => (ckB (p'.endLine == p.line)).bind fun h4 => .yes ⟨e, x, p, p', by rw [h], h1, n, h2, h3, h4⟩
    | _ => .no
  | .pop me => match Ex with
    | .Call (.Attribute e a p') [] [] p => (ckS a "pop").bind fun h => (ck me e).bind fun h1 => (ckB (plainBase e)).bind fun h3 => (ckB (p'.endLine == p.line)).bind fun h4 => .yes ⟨e, p, p', by rw [h], h1, h3, h4⟩
    | _ => .no
  | .rev me => match Ex with
    | .Call (.Attribute e a p') [] [] p => (ckS a "reverse").bind fun h => (ck me e).bind fun h1 => (ckB (plainBase e)).bind fun h3 => (ckB (p'.endLine == p.line)).bind fun h4 => .yes ⟨e, p, p', by rw [h], h1, h3, h4⟩
    | _ => .no
  | .dget me mk md => match Ex with
    | .Call (.Attribute e a p') [k, d] [] p => (ckS a "get").bind fun h => (ck me e).bind fun h1 => (ckB (nice k)).bind fun n => (ckB (nice d)).bind fun n' => (ck mk k).bind fun h2 => (ck md d).bind fun h3 => (ckB (plainBase e)).bind fun h4 => (ckB (p'.endLine == p.line)).bind fun h5 => .yes ⟨e, k, d, p, p', by rw [h], h1, n, n', h2, h3, h4, h5⟩
    | _ => .no
  | .filt me n => match Ex with
    | .Compare (.ListComp (.Name x q) [⟨.Name x2 q', e, [.Compare (.Name x3 r) [.NotEq] [.Tuple [.Constant (.str y) k u] k' u'] r'], ia⟩] s v) [.Eq] [.List [] p'] p =>
      (ckS x2 x).bind fun e1 => (ckS x3 x).bind fun e2 => (ckD (ia = 0)).bind fun e3 => (ckB (nice e)).bind fun n' => (ck me e).bind fun h1 => (ckT X n y).bind fun h2 => (ckSc s x).bind fun h3 => .yes ⟨x, y, e, s, k, k', p, p', q, q', r, r', u, u', v, by rw [e1, e2, e3], n', h1, h2, h3⟩
    | _ => .no
noncomputable def ckE : Nat → (me : ME) → (Ex : Expr) → Yes (TE X P sc vars Ex me)
  | 0, _, _ => .no
  | n + 1, me, Ex => ckE0 E P sc vars (ckE n) me Ex
end
end Mini
end

noncomputable section -- Ck2
set_option autoImplicit false
set_option linter.unusedVariables false
set_option maxRecDepth 100000
open PySem PySem.Calls PyProof.Rows PySem.W
noncomputable section
namespace Mini
section
variable {X : Tx} (E : E0 X) (P : Prg) (sc : Scope) (vars : List Str)
noncomputable def ckI (n : Nat) (mi : MI) (Ex : Expr) : Yes (TI X P sc vars Ex mi) := match mi with
  | .e me => (ckB (nice Ex)).bind fun h => (ckE E P sc vars n me Ex).bind fun h2 => .yes ⟨h, h2⟩
  | .range1 me => match Ex with
    | .Call (.Name x p') [e] [] p => (ckS x "range").bind fun h => (ckGB sc "range" _ E.range).bind fun h1 => (ckB (nice e)).bind fun k => (ckE E P sc vars n me e).bind fun h2 => .yes ⟨e, p, p', by rw [h], h1, k, h2⟩
    | _ => .no
  | .range2 ma mb => match Ex with
    | .Call (.Name x p') [a, b] [] p => (ckS x "range").bind fun h => (ckGB sc "range" _ E.range).bind fun h1 => (ckB (nice a)).bind fun k => (ckB (nice b)).bind fun k' => (ckE E P sc vars n ma a).bind fun h2 => (ckE E P sc vars n mb b).bind fun h3 => .yes ⟨a, b, p, p', by rw [h], h1, k, k', h2, h3⟩
    | _ => .no
noncomputable def ckTs (ck : (ms : MS) → (S : Stmt) → Yes (TS X P sc vars S ms)) : (ml : List MS) → (l : List Stmt) → Yes (TSs X P sc vars l ml)
  | [], l => match l with
    | [] => .yes rfl
    | _ => .no
  | m :: r, l => match l with
    | e :: s => (ck m e).bind fun h1 => (ckTs ck r s).bind fun h2 => .yes ⟨e, s, rfl, h1, h2⟩
    | _ => .no
noncomputable def ckT0 (n : Nat) (ck : (ms : MS) → (S : Stmt) → Yes (TS X P sc vars S ms)) (ms : MS) (S : Stmt) : Yes (TS X P sc vars S ms) := match ms with
  | .asg i me => match S with
    | .Assign [.Name x p'] e p => (ckV vars i x).bind fun h1 => (ckB (nice e)).bind fun k => (ckE E P sc vars n me e).bind fun h2 => .yes ⟨x, e, p, p', rfl, h1, k, h2⟩
    | _ => .no
  | .sattr mo k me => match S with
    | .Assign [.Attribute o a p'] e p => (ckE E P sc vars n mo o).bind fun h1 => (ckT X k a).bind fun h2 => (ckB (nice e)).bind fun k => (ckE E P sc vars n me e).bind fun h3 => .yes ⟨o, e, a, p, p', rfl, h1, h2, k, h3⟩
    | _ => .no
  | .sitem mo mk me => match S with
    | .Assign [.Subscript o k p'] e p => (ckE E P sc vars n mo o).bind fun h1 => (ckE E P sc vars n mk k).bind fun h2 => (ckB (nice e)).bind fun q => (ckE E P sc vars n me e).bind fun h3 => .yes ⟨o, k, e, p, p', rfl, h1, h2, q, h3⟩
    | _ => .no
  | .expr me => match S with
    | .Expr e p => (ckB (nice e)).bind fun q => (ckE E P sc vars n me e).bind fun h => .yes ⟨e, p, rfl, q, h⟩
    | _ => .no
  | .ifs mc ma mb => match S with
    | .If c a b p => (ckE E P sc vars n mc c).bind fun h1 => (ckTs P sc vars ck ma a).bind fun h2 => (ckTs P sc vars ck mb b).bind fun h3 => .yes ⟨c, a, b, p, rfl, h1, h2, h3⟩
    | _ => .no
  | .for_ i mi kill mb => match S with
    | .For (.Name x p') it body [] p => (ckV vars i x).bind fun h1 => (ckI E P sc vars n mi it).bind fun h2 => (ckTs P sc vars ck mb body).bind fun h3 => .yes ⟨x, it, body, p, p', rfl, h1, h2, h3⟩
    | _ => .no
  | .while_ mc kill mb => match S with
    | .While c body [] p => (ckE E P sc vars n mc c).bind fun h1 => (ckTs P sc vars ck mb body).bind fun h2 => .yes ⟨c, body, p, rfl, h1, h2⟩
    | _ => .no
  | .ret me => match S with
    | .Return (some e) p => (ckE E P sc vars n me e).bind fun h => .yes ⟨e, p, rfl, h⟩
    | _ => .no
  | .brk => match S with
    | .Break p => .yes ⟨p, rfl⟩
    | _ => .no
  | .stuck => .yes trivial
noncomputable def ckSt : Nat → (ms : MS) → (S : Stmt) → Yes (TS X P sc vars S ms)
  | 0, _, _ => .no
  | n + 1, ms, S => ckT0 E P sc vars (n + 1) (ckSt n) ms S
noncomputable def ckBody (ml : List MS) (l : List Stmt) : Yes (TSs X P sc vars l ml) := ckTs P sc vars (ckSt E P sc vars 40) ml l
end

noncomputable def ckTy (a b : String) : Yes (a = b) := match Fast.strDec a b with
  | .isTrue h => .yes h
  | .isFalse _ => .no
noncomputable def ckNd : (l : List Str) → Yes l.Nodup
  | [] => .yes .nil
  | x :: l => (ckAll (fun y => ckB (!Fast.sEq x y)) l).bind fun h => (ckNd l).bind fun h2 => .yes (.cons (fun y hy e => by have := h y hy; rw [Fast.sEq_iff.mpr e] at this; cases this) h2)
noncomputable def ckNil {α : Type} (l : List α) : Yes (l = []) := match l with
  | [] => .yes rfl
  | _ => .no
noncomputable def ckEmp {α : Type} (o : Option α) : Yes (o = none) := match o with
  | none => .yes rfl
  | _ => .no
noncomputable def ckGet {α : Type} {p : Prop} (o : Option α) (k : (a : α) → o = some a → Yes p) : Yes p := match o with
  | some a => k a rfl
  | none => .no
noncomputable def ckRef (v : Value) (a : Addr) : Yes (v = .ref a) := match v with
  | .ref b => (ckN b a).bind fun h => .yes (h ▸ rfl)
  | _ => .no
noncomputable def ckAt {α : Type} (o : Option α) {v : α} (f : (a : α) → Yes (a = v)) : Yes (o = some v) := (ckO o f).bind fun h => .yes (h.elim fun _ e => e.2 ▸ e.1)
noncomputable def onBody {p : Prop} (b : FuncBody) (k : (l : List Stmt) → b = .stmts l → Yes p) : Yes p := match b with
  | .stmts l => k l rfl
  | _ => .no
theorem bind_vars {fd : FuncData} {vars : List Str} {np nl : Nat} (h1 : fd.params.posonlyargs = []) (h3 : fd.params.kwonlyargs = []) (h4 : fd.params.vararg = none) (h5 : fd.params.kwarg = none) (h6 : fd.defaults = .none) (nd : vars.Nodup) (hl : vars.length = nl) (hn : np ≤ nl)
    (e : fd.params.args.map Arg.arg = vars.take np) (args : List Value) (ha : args.length = np) : bindArgs fd ⟨args, []⟩ = pure ((vars.take np).zip args) :=
  e ▸ bind_plain h1 h3 h4 h5 h6 (e ▸ (List.take_sublist _ _).nodup nd) (by rw [e, List.length_take, hl, ha, Nat.min_eq_left hn])
theorem tl_fast {x : Str} {y : Option Value} (h : fastLookup "object" x = some y) : typeLookup (.type "object") x = pure y := by rw [typeLookup_type, builtinLookup_eq_fast, h]
section
variable {X : Tx} (E : E0 X) (P : Prg)
noncomputable def ckFd (f : Nat) (fn : Fn) (vars : List Str) (t : String) (d : Option Addr) (fd : FuncData) (sl : Array (Option Value)) (hob : X.h₀.get? (X.fnA f) = some ⟨.type t, d, .func fd, sl⟩) (body : List Stmt) (hbody : fd.body = .stmts body) : Yes (FnOk X P f fn) :=
  (ckTy t "function").bind fun ht => (ckB (X.h₀.codeRecOk fd.code fd.qualname)).bind fun hc => (ckNil fd.params.posonlyargs).bind fun h1 => (ckNil fd.params.kwonlyargs).bind fun h3 => (ckEmp fd.params.vararg).bind fun h4 => (ckEmp fd.params.kwarg).bind fun h5 =>
  (ckD (fd.defaults = .none)).bind fun h6 => (ckNd vars).bind fun nd => (ckN vars.length fn.nl).bind fun hl => (ckD (fn.np ≤ fn.nl)).bind fun hn => (ckSs (fd.params.args.map Arg.arg) (vars.take fn.np)).bind fun e =>
  (ckD (fd.scope.isCoroutine = false)).bind fun s1 => (ckD (fd.scope.isGenerator = false)).bind fun s2 => (ckD (fd.scope.kind = .function)).bind fun s3 => (ckAll (fun x : Str × NameKind => ckD (x.2 ≠ .cell)) fd.scope.names).bind fun s4 =>
  (ckAll (fun x => ckL fd.scope x .local) vars).bind fun v => (ckN fd.globals mainGlobals).bind fun g => (ckN fd.builtins builtinsNs).bind fun b => (ckBody E P fd.scope vars fn.body body).bind fun hb =>
  .yes ⟨_, fd, body, vars, hob, by rw [ht], rfl, .of_ok hc, hbody, bind_vars h1 h3 h4 h5 h6 nd hl hn e, s1, s2, s3, s4, hl, nd, hn, v, g, b, hb⟩
noncomputable def ckFn (f : Nat) (fn : Fn) (vars : List Str) : Yes (FnOk X P f fn) :=
  ckGet (X.h₀.get? (X.fnA f)) fun ob => match ob with
    | ⟨.type t, d, .func fd, sl⟩ => fun hob => onBody fd.body fun body hbody => ckFd E P f fn vars t d fd sl hob body hbody
    | _ => fun _ => .no
noncomputable def ckFns : (l : List Fn) → List (List Str) → (n : Nat) → Yes (∀ i fn, l[i]? = some fn → FnOk X P (n + i) fn)
  | [], _, _ => .yes fun i fn e => by simp at e
  | fn :: l, vs, n => (ckFn E P n fn vs.head!).bind fun h => (ckFns l vs.tail (n + 1)).bind fun h2 => .yes fun i fn' e => by
    cases i with
    | zero => cases e; exact h
    | succ i => have := h2 i fn' e; rwa [Nat.add_right_comm] at this

noncomputable def NsOk (X : Tx) (P : Prg) (c N : Nat) (ml : List (Nat × Nat)) (al : List Nat) : Prop :=
  X.h₀.isNs N = true ∧ X.h₀.nsMap N "__getattribute__" = none ∧ X.h₀.nsMap N "__getattr__" = none ∧ X.h₀.nsMap N "__setattr__" = none ∧ (∃ f, P.init c = some f ∧ X.h₀.nsMap N "__init__" = some (.ref (X.fnA f))) ∧
  (∀ p ∈ ml, ∃ x, X.tbl[p.1]? = some x ∧ X.h₀.nsMap N x = some (.ref (X.fnA p.2)) ∧ ∃ y, fastLookup "object" x = some y ∧ True) ∧ ∀ n ∈ al, ∃ x, X.tbl[n]? = some x ∧ X.h₀.nsMap N x = none ∧ fastLookup "object" x = some none
noncomputable def ckNs (c N : Nat) (ml : List (Nat × Nat)) (al : List Nat) : Yes (NsOk X P c N ml al) :=
  (ckB (X.h₀.isNs N)).bind fun h1 => (ckEmp (X.h₀.nsMap N "__getattribute__")).bind fun h2 => (ckEmp (X.h₀.nsMap N "__getattr__")).bind fun h3 => (ckEmp (X.h₀.nsMap N "__setattr__")).bind fun h4 =>
  (ckO (P.init c) fun f => ckAt (X.h₀.nsMap N "__init__") fun v => ckRef v (X.fnA f)).bind fun h5 =>
  (ckAll (fun p : Nat × Nat => ckO X.tbl[p.1]? fun x => (ckAt (X.h₀.nsMap N x) fun v => ckRef v (X.fnA p.2)).bind fun a => (ckO (p := fun _ => True) (fastLookup "object" x) fun _ => .yes trivial).bind fun b => .yes ⟨a, b⟩) ml).bind fun h6 =>
  (ckAll (fun n : Nat => ckO X.tbl[n]? fun x => (ckEmp (X.h₀.nsMap N x)).bind fun a => (ckAt (v := none) (fastLookup "object" x) fun v => ckEmp v).bind fun b => .yes ⟨a, b⟩) al).bind fun h7 => .yes ⟨h1, h2, h3, h4, h5, h6, h7⟩
noncomputable def ckCd (c : Nat) (ml : List (Nat × Nat)) (al : List Nat) (t : String) (dd : Option Addr) (nm : Str) (bs : List Value) (C : Addr) (o : String) (ns : Addr) (q : Str) (hd : Bool) (sn : List Str) (sub : List Value) (ab : Bool) (col : Option Bool) (hdel : Bool) (k0 k1 k2 k3 k5 : Option Value) (id : String)
    (hob : X.h₀.get? (X.cls c) = some ⟨.type t, dd, .cls ⟨nm, bs, [.ref C, .type o], ns, q, hd, sn, sub, ab, col, hdel⟩, ⟨[k0, k1, k2, k3, some (.builtin id), k5]⟩⟩)
    (hm : ∀ n f, P.meth c n = some f → (n, f) ∈ ml) (ha : ∀ n, P.ats c n = true → n ∈ al) : Yes (ClsOk X P c) :=
  (ckTy t "type").bind fun e1 => (ckN C (X.cls c)).bind fun e2 => (ckTy o "object").bind fun e3 => (ckD (hd = true)).bind fun e4 => (ckD (ab = false)).bind fun e5 => (ckD (hdel = false)).bind fun e6 => (ckTy id "object.__new__").bind fun e7 => (ckNs P c ns ml al).bind fun h =>
  .yes ⟨ns, X.h₀.nsMap ns, ⟨⟨nm, q, bs, sn, sub, col, dd, k0, k1, k2, k3, k5, by rw [hob, e1, e2, e3, e4, e5, e6, e7]⟩, .of_isNs h.1⟩, h.2.1, h.2.2.1, h.2.2.2.1, fun f e => by
    obtain ⟨f', e', q⟩ := h.2.2.2.2.1; rw [e] at e'; cases e'; exact q, fun n f e => by
    obtain ⟨x, a, b, y, q, _⟩ := h.2.2.2.2.2.1 _ (hm n f e); exact ⟨x, a, b, y, tl_fast q⟩, fun n e => by
    obtain ⟨x, a, b, q⟩ := h.2.2.2.2.2.2 _ (ha n e); exact ⟨x, a, b, tl_fast q⟩⟩
noncomputable def ckCls (c : Nat) (ml : List (Nat × Nat)) (al : List Nat) (hm : ∀ n f, P.meth c n = some f → (n, f) ∈ ml) (ha : ∀ n, P.ats c n = true → n ∈ al) : Yes (ClsOk X P c) :=
  ckGet (X.h₀.get? (X.cls c)) fun ob => match ob with
    | ⟨.type t, dd, .cls ⟨nm, bs, [.ref C, .type o], ns, q, hd, sn, sub, ab, col, hdel⟩, ⟨[k0, k1, k2, k3, some (.builtin id), k5]⟩⟩ => fun hob => ckCd P c ml al t dd nm bs C o ns q hd sn sub ab col hdel k0 k1 k2 k3 k5 id hob hm ha
    | _ => fun _ => .no
/-- a global value of the text -/
noncomputable def ckVal (rv : Value) (v : AV) : Yes (∀ (h : Heap) (φ : List Lc), (∀ b o, X.h₀.get? b = some o → h.get? b = some o) → VR X h φ rv v) := match rv with
  | .int i t => (ckD (v = .int i)).bind fun e => .yes fun h φ _ => e ▸ .int i t
  | .ref a => (match v with
    | .tup [.sym n] => ckGet (X.h₀.get? a) fun ob => match ob with
      | ⟨.type t, d, .seq ⟨[.str y k]⟩ m, sl⟩ => fun hob => (ckTy t "tuple").bind fun e => (ckT X n y).bind fun e2 => .yes fun h φ hk => .tup (hk _ _ hob) (by rw [e]) rfl (.cons (.sym k e2) .nil)
      | _ => fun _ => .no
    | _ => .no)
  | _ => .no
noncomputable def ckBl (o : Option Value) (s : String) : Yes (o = some (.builtin s)) := ckAt o fun v => match v with
  | .builtin t => (ckTy t s).bind fun h => .yes (h ▸ rfl)
  | _ => .no
noncomputable def ckBt (o : Option Value) (s : String) : Yes (o = some (.type s)) := ckAt o fun v => match v with
  | .type t => (ckTy t s).bind fun h => .yes (h ▸ rfl)
  | _ => .no
noncomputable def ckEnv (X : Tx) : Yes (E0 X) :=
  (ckAll (fun p : Str × Nat => ckAt (X.mg p.1) fun v => ckRef v p.2) glC).bind fun h1 => (ckAll (p := fun p : Str × AV => GV X p.1 p.2) (fun p => ckO (X.mg p.1) fun v => ckVal v p.2) gvC).bind fun h2 =>
  (ckEmp (X.mg "len")).bind fun a1 => (ckBl (X.mb "len") "len").bind fun b1 => (ckEmp (X.mg "list")).bind fun a2 => (ckBt (X.mb "list") "list").bind fun b2 =>
  (ckEmp (X.mg "range")).bind fun a3 => (ckBt (X.mb "range") "range").bind fun b3 => (ckEmp (X.mg "tuple")).bind fun a4 => (ckBt (X.mb "tuple") "tuple").bind fun b4 => .yes ⟨h1, h2, ⟨a1, b1⟩, ⟨a2, b2⟩, ⟨a3, b3⟩, ⟨a4, b4⟩⟩
end
end Mini
end

noncomputable section -- Ck3
set_option autoImplicit false
set_option linter.unusedVariables false
set_option maxRecDepth 100000
open PySem PySem.Calls PyProof.Rows PySem.W
noncomputable section
namespace Mini
theorem lookup_mem' {n f : Nat} : ∀ {l : List (Nat × Nat)}, l.lookup n = some f → (n, f) ∈ l
  | (a, b) :: l, e => by
    simp only [List.lookup] at e
    split at e
    · rename_i q; cases e; rw [eq_of_beq q]; exact .head _
    · exact .tail _ (lookup_mem' e)
noncomputable def fnAt : List Nat := [61, 68, 82, 89, 103, 110, 124, 168, 175, 189, 196, 203, 210, 217, 224, 231, 238, 245, 259, 266, 273, 280, 287, 294, 301, 308, 315, 329, 343, 350, 357]
noncomputable def clsAt : List Nat := [155, 248, 332]
noncomputable def vsC : List (List Str) := [v_fixed_atoms, v_fixed_functors, v_Symbols_init, v_Symbols_atom, v_Symbols_functor, v_Symbols_func, v_Symbols_arity, v_matching, v_all_variable, v_BlockBuilder_init, v_BlockBuilder_fresh_label, v_BlockBuilder_chain_rows, v_BlockBuilder_chain, v_BlockBuilder_matching_places, v_BlockBuilder_variable_places, v_BlockBuilder_table, v_BlockBuilder_switch, v_BlockBuilder_finish, v_small_block, v_chain_block, v_index_block, v_clause_groups, v_group_block, v_label_places, v_switch_target, v_table_target, v_tried_clauses, v_ClauseCode_init, v_law_figures, v_law_draw, v_law_key_drawn]
noncomputable def mkX (w : World) (h : Heap) : Tx := ⟨PySem.Challenge.pw_rh0080_01, w, h, tblC, fun c => clsAt.getD c 0, fun f => fnAt.getD f 0, h.nsMap mainGlobals, h.nsMap builtinsNs⟩
/-- what the heap behind the top bears -/
structure Laid0 (w : World) (h : Heap) : Prop where
  E : E0 (mkX w h)
  F : ∀ i fn, fnC[i]? = some fn → FnOk (mkX w h) theP (0 + i) fn
  C : ∀ c ∈ List.range 3, ClsOk (mkX w h) theP c
  g : h.isNs mainGlobals = true
  b : h.isNs builtinsNs = true
  lim : h.isNs cStatics = true ∧ h.nsMap cStatics "sys.recursionlimit" = none
  seer : h.noSeerOk = true
  bm : h.bmainOk = true
noncomputable def ckW (w : World) (h : Heap) : Yes (Laid0 w h) :=
  (ckEnv (mkX w h)).bind fun E => (ckFns E theP fnC vsC 0).bind fun F =>
  (ckAll (fun c => ckCls (X := mkX w h) theP c (methC.getD c []) (atsC.getD c []) (fun n f e => lookup_mem' e) fun n e => List.contains_iff_mem.mp e) (List.range 3)).bind fun C =>
  (ckB (h.isNs mainGlobals)).bind fun g => (ckB (h.isNs builtinsNs)).bind fun b => (ckB (h.isNs cStatics)).bind fun l1 => (ckEmp (h.nsMap cStatics "sys.recursionlimit")).bind fun l2 => (ckB h.noSeerOk).bind fun s => (ckB h.bmainOk).bind fun m =>
  .yes ⟨E, F, C, g, b, ⟨l1, l2⟩, s, m⟩

theorem Laid0.wd {w : World} {h : Heap} (L : Laid0 w h) (hb : ∀ x : Str, x ≠ "__name__" → h.nsMap builtinsNs x = bootBuiltins x) : Wd (mkX w h) theP where
  t := {
    T := ⟨rfl, by show tblC.Nodup; decide +kernel, by show ∀ x ∈ tblC, PyData.strOk x = true; decide +kernel⟩
    cls := fun c e => L.C c (List.mem_range.mpr (Nat.lt_of_not_le fun q => by
      have : initC[c]? = none := List.getElem?_eq_none q
      rw [show (theP.init c) = initC[c]? from rfl, this] at e; cases e))
    ini := fun c n e => by
      match c, e with
      | 0, _ | 1, _ | 2, _ => rfl
      | _ + 3, e => cases e
    inm := fun c n f e => by
      match c, e with
      | 0, _ | 1, _ | 2, _ => rfl
      | _ + 3, e => cases e
    g := .of_isNs L.g
    b := .of_isNs L.b
    lim := ⟨_, .of_isNs L.lim.1, L.lim.2⟩
    seer := by
      have e9 := L.seer
      unfold Heap.noSeerOk at e9
      simp only [Bool.and_eq_true, Option.isNone_iff_eq_none] at e9
      obtain ⟨⟨⟨⟨c1, c2⟩, c3⟩, m1⟩, m2⟩ := e9
      obtain ⟨bm, ob, b1, _, b3, b4, b5, _⟩ := Heap.bmainOk_spec L.bm
      exact ⟨⟨_, .of_isNs c1, c2, c3⟩, ⟨_, .of_isNs m1, m2⟩, ⟨_, .of_isNs L.b, hb⟩, ⟨_, bm, ob, .of_isNs L.g, b1, b3, b4, b5⟩⟩ }
  fn := fun f fn e => by have := L.F f fn e; rwa [Nat.zero_add] at this
  ini := fun c f e => by
    have : f ∈ initC := List.mem_of_getElem? e
    exact (show ∀ f ∈ initC, (theP.fn f).isSome = true by decide) f this
  inm := fun c n f e => by
    match c, e with
    | 0, e => exact (show ∀ p ∈ methC.getD 0 [], (theP.fn p.2).isSome = true by decide) (n, f) (lookup_mem' e)
    | 1, e => exact (show ∀ p ∈ methC.getD 1 [], (theP.fn p.2).isSome = true by decide) (n, f) (lookup_mem' e)
    | 2, e => cases e
    | _ + 3, e => cases e
  tree := rfl
end Mini
end

noncomputable section -- H1
open PySem PySem.W PyProof.Rows PySem.Challenge
set_option maxRecDepth 100000
set_option Elab.async false
namespace Mini
noncomputable section
noncomputable def keepL : List Nat := [0, 2, 3, 4, 5, 6, 8, 9, 10, 11, 12, 13, 14, 15, 16, 17, 18, 19, 20, 21, 22, 23, 24, 26, 28, 29, 30, 31]
noncomputable def vq : Program := view pw_rh0080_01 keepL
noncomputable def loose0 : List Str := ["LinkFault"]
noncomputable def xt (s : Shared) : Bool := xlAt vq [] s && recOk (RowW.records rw_rh0080_01.row.toRowW) s

theorem bootF (w : World) : (fencedOpening treeTable pw_rh0080_01 w 5000).map (fun s => (s.heap, s.gens, s.drawn, s.toks)) = some (boot_heap w.params, Array.mk [], boot_drawn, boot_toks) :=
  boot_open (by kernel_rfl) (by decide) (fun s => by kernel_rfl) w

/-- the top's run over a tree of objects -/
noncomputable def topT (p : Program) (w : World) (n₀ : Nat) (ann : Option Value) : Nat → SharedT → Thread → Option SharedT
  | 0, _, _ => none
  | n + 1, s, t => match through t with
    | true => some s
    | false => match Fast.tw6613529449190102663 n₀ ann t with
      | false => none
      | true => match Fast.tw10156331382660048174 (Fast.tw11892475500146522536 Fast.tw14364793385576792824) p w s t with
        | some (s', t') => topT p w n₀ ann n s' t'
        | none => none
theorem topT_spec {p : Program} {w : World} {n₀ : Nat} {ann : Option Value} : ∀ {n : Nat} {s s' : SharedT} {t : Thread}, topT p w n₀ ann n s t = some s' → topRun treeTable p w n₀ ann n s.abs t = some s'.abs
  | 0, _, _, _, h => by cases h
  | n + 1, s, s', t, h => by
    unfold topT at h
    rw [← Fast.te6613529449190102663, ← Fast.te10156331382660048174, ← Fast.te11892475500146522536, ← Fast.te14364793385576792824] at h
    unfold topRun
    cases e1 : through t with
    | true => rw [e1] at h; cases h; rfl
    | false =>
      rw [e1] at h
      cases e2 : stepOk n₀ ann t with
      | false => rw [e2] at h; cases h
      | true =>
        rw [e2] at h
        cases e3 : stepT (denote treeTable) p w s t with
        | none => rw [e3] at h; cases h
        | some r => obtain ⟨s₂, t₂⟩ := r; rw [e3] at h; rw [stepT_spec e3]; exact topT_spec h

noncomputable def putAll : List Obj → Nat → BT → BT
  | [], _, t => t
  | o :: l, n, t => putAll l (n + 1) (t.ins n o)
noncomputable def bootS (w : World) (os : OsState) : SharedT := ⟨putAll (boot_heap w.params).objs.toList 0 .nil, (boot_heap w.params).objs.size, (boot_heap w.params).life, Array.mk [], boot_drawn, boot_toks, os⟩
theorem bootS_abs (w : World) (os : OsState) : (bootS w os).abs = ⟨boot_heap w.params, Array.mk [], boot_drawn, boot_toks, os⟩ := by kernel_rfl


noncomputable abbrev goT (p : Program) (w : World) (N : Nat) (os : OsState) : Option SharedT := topT p w (boot_heap w.params).objs.size ((boot_heap w.params).nsMap mainGlobals "__annotations__") N (bootS w os) (topStub p)
noncomputable def keptOk (p : Program) (w : World) (s₁ : Shared) : Bool := staticsOk (importedModules p.main.body) (boot_heap w.params) s₁.heap && namesBound p s₁.heap && gensDone s₁ && laidKept (boot_heap w.params) s₁.heap
theorem left_boot {p q : Program} {loose : List Str} {Xt : Shared → Bool} {α : Type} {Yf : Shared → α} {Ya : World → α} {N : Nat}
    (hb : ∀ w, (fencedOpening treeTable p w N).map (fun s => (s.heap, s.gens, s.drawn, s.toks)) = some (boot_heap w.params, Array.mk [], boot_drawn, boot_toks))
    (h0 : ∀ w : World, (boot_heap w.params).isNs mainGlobals = true)
    (h1 : ∀ w os, (goT p w N os).map (fun s₁ => (keptOk p w s₁.abs, Yf s₁.abs)) = some (true, Ya w))
    (h2 : ∀ w os, (goT p w N os).map (fun s₁ => Fast.tw4187177175401517315 q loose (importedModules p.main.body) Xt true s₁.abs) = some (openGood q loose)) : LeftO p q loose Xt Yf Ya N := fun w => by
  obtain ⟨s, hs, hv⟩ := Option.map_eq_some_iff.mp (hb w)
  obtain ⟨hh, g, d, t, os⟩ := s
  simp only [Prod.mk.injEq] at hv
  obtain ⟨rfl, rfl, rfl, rfl⟩ := hv
  obtain ⟨s₁, e2, k1⟩ := Option.map_eq_some_iff.mp (h1 w os)
  obtain ⟨s₂, e2', k2⟩ := Option.map_eq_some_iff.mp (h2 w os)
  obtain rfl := Option.some.inj (e2.symm.trans e2')
  rw [← Fast.te4187177175401517315] at k2
  obtain ⟨k1, k3⟩ := Prod.mk.inj k1
  have e3 := topT_spec e2
  rw [bootS_abs] at e3
  unfold openEnds
  rw [hs]
  show ((topFrom treeTable p w N _).map _) = _
  unfold topFrom
  dsimp only
  rw [h0]
  show Option.map _ (Option.bind (topRun treeTable p w _ _ N _ (topStub p)) _) = _
  rw [e3]
  unfold keptOk at k1
  dsimp only [Option.bind]
  rw [k1, ← k2, ← k3]
  rfl

/-- the hook: the heap behind the top passes the check -/
noncomputable def hkC : Hook where
  α := World → Bool
  obs := fun s w => (ckW w s.heap).ok
  val := fun _ _ => true
  says := fun w h => ∃ h₀, Laid0 w h₀ ∧ ∀ b o, h₀.get? b = some o → h.get? b = some o
  of := fun w s e => ⟨s.heap, Yes.get (congrFun e w), fun _ _ q => q⟩
  keeps := fun w h h' x k => let ⟨h₀, a, b⟩ := x; ⟨h₀, a, fun b' o e => k _ _ (b b' o e)⟩
theorem run1 (w : World) (os : OsState) : (goT pw_rh0080_01 w 5000 os).map (fun s₁ => (keptOk pw_rh0080_01 w s₁.abs, hkC.obs s₁.abs)) = some (true, hkC.val w) := by kernel_rfl
theorem run2 (w : World) (os : OsState) : (goT pw_rh0080_01 w 5000 os).map (fun s₁ => Fast.tw4187177175401517315 vq loose0 (importedModules pw_rh0080_01.main.body) xt true s₁.abs) = some (openGood vq loose0) := by kernel_rfl
theorem left0 : LeftO pw_rh0080_01 vq loose0 xt hkC.obs hkC.val 5000 := left_boot bootF (fun w => by kernel_rfl) run1 run2
end
end Mini
end

noncomputable section -- EvEq
set_option autoImplicit false
namespace Mini
section
variable {P : Prg} {ρ : Loc} {H : AHeap} {d : Nat}
theorem evE_st (d e ρ H) : evE P d e ρ H = stE P (ev' P) d e ρ H := congrArg (fun f : Ev => f.e d e ρ H) (ev_step P)
theorem evL_st (d e ρ H) : evL P d e ρ H = stL (ev' P) d e ρ H := congrArg (fun f : Ev => f.l d e ρ H) (ev_step P)
theorem evOr_st (d e ρ H) : evOr P d e ρ H = stOr (ev' P) d e ρ H := congrArg (fun f : Ev => f.or d e ρ H) (ev_step P)
theorem evAnd_st (d e ρ H) : evAnd P d e ρ H = stAnd (ev' P) d e ρ H := congrArg (fun f : Ev => f.and d e ρ H) (ev_step P)
theorem evI_st (d e ρ H) : evI P d e ρ H = stI (ev' P) d e ρ H := congrArg (fun f : Ev => f.i d e ρ H) (ev_step P)
theorem evS_st (d e ρ H) : evS P d e ρ H = stS P (ev' P) d e ρ H := congrArg (fun f : Ev => f.s d e ρ H) (ev_step P)
theorem evSs_st (d e ρ H) : evSs P d e ρ H = stSs (ev' P) d e ρ H := congrArg (fun f : Ev => f.ss d e ρ H) (ev_step P)
theorem evFor_st (d b s i ρ H) : evFor P d b s i ρ H = stFor (ev' P) d (b, s, i) ρ H := congrArg (fun f : Ev => f.for d (b, s, i) ρ H) (ev_step P)
theorem evWhile_st (d c k b ρ H) : evWhile P d c k b ρ H = stWh (ev' P) d (c, k, b) ρ H := congrArg (fun f : Ev => f.wh d (c, k, b) ρ H) (ev_step P)
theorem callF_st (d f a H) : callF P d f a H = stC P (ev' P) d f a H := congrArg (fun g : Ev => g.c d f a H) (ev_step P)
theorem e_lit (v : AV) : evE P d (.lit v) ρ H = (some (v, H)) := evE_st _ _ _ _
theorem e_loc (x : Nat) : evE P d (.loc x) ρ H = ((ρ[x]?.join).map fun v => (v, H)) := evE_st _ _ _ _
theorem e_attr (e : ME) (n : Nat) : evE P d (.attr e n) ρ H = ((evE P d e ρ H) >>= fun p => (attrOf P p.2 p.1 n).map fun v => (v, p.2)) := evE_st _ _ _ _
theorem e_sub (e : ME) (i : ME) : evE P d (.sub e i) ρ H = ((evE P d e ρ H) >>= fun p => (evE P d i ρ p.2) >>= fun q => (subOf P q.2 p.1 q.1).map fun v => (v, q.2)) := evE_st _ _ _ _
theorem e_slice (e : ME) (lo : ME) (hi : ME) : evE P d (.slice e lo hi) ρ H = ((evE P d e ρ H) >>= fun p => (evE P d lo ρ p.2) >>= fun q => (evE P d hi ρ q.2) >>= fun r =>
      (sliceOf r.2 p.1 q.1 r.1).map fun l => (.obj r.2.length, r.2 ++ [.list l])) := evE_st _ _ _ _
theorem e_bin (o : Bop) (a : ME) (b : ME) : evE P d (.bin o a b) ρ H = ((evE P d a ρ H) >>= fun p => (evE P d b ρ p.2) >>= fun q => (binOf o p.1 q.1).map fun v => (v, q.2)) := evE_st _ _ _ _
theorem e_cmp (o : Cop) (a : ME) (b : ME) : evE P d (.cmp o a b) ρ H = ((evE P d a ρ H) >>= fun p => (evE P d b ρ p.2) >>= fun q => (cmpOf P q.2 o p.1 q.1).map fun v => (.bool v, q.2)) := evE_st _ _ _ _
theorem e_ors (l : List ME) : evE P d (.ors l) ρ H = (evOr P d l ρ H) := evE_st _ _ _ _
theorem e_ands (l : List ME) : evE P d (.ands l) ρ H = (evAnd P d l ρ H) := evE_st _ _ _ _
theorem e_ite (c : ME) (a : ME) (b : ME) : evE P d (.ite c a b) ρ H = ((evE P d c ρ H) >>= fun p => (truth p.1) >>= fun t => if t then evE P d a ρ p.2 else evE P d b ρ p.2) := evE_st _ _ _ _
theorem e_list (l : List ME) : evE P d (.list l) ρ H = ((evL P d l ρ H) >>= fun p => if p.1.length < big then some (.obj p.2.length, p.2 ++ [.list p.1]) else none) := evE_st _ _ _ _
theorem e_tup (l : List ME) : evE P d (.tup l) ρ H = ((evL P d l ρ H) >>= fun p => if p.1.length < big then some (.tup p.1, p.2) else none) := evE_st _ _ _ _
theorem e_dict0  : evE P d (.dict0) ρ H = (some (.obj H.length, H ++ [.dict []])) := evE_st _ _ _ _
theorem e_call (f : Nat) (l : List ME) : evE P d (.call f l) ρ H = ((evL P d l ρ H) >>= fun p => callF P d f p.1 p.2) := evE_st _ _ _ _
theorem e_new (c : Nat) (l : List ME) : evE P d (.new c l) ρ H = ((evL P d l ρ H) >>= fun p => (P.init c) >>= fun f => (callF P (d - 1) f (.obj p.2.length :: p.1) (p.2 ++ [.inst c []])) >>= fun q =>
      if isNone q.1 = true ∧ 0 < d then some (.obj p.2.length, q.2) else none) := evE_st _ _ _ _
theorem e_meth (e : ME) (n : Nat) (l : List ME) : evE P d (.meth e n l) ρ H = ((evE P d e ρ H) >>= fun p => (evL P d l ρ p.2) >>= fun q => (instAt p.2 p.1) >>= fun c => if (c.2.2.lookup n).isSome then none else (P.meth c.2.1 n) >>= fun f => callF P d f (p.1 :: q.1) q.2) := evE_st _ _ _ _
theorem e_len (e : ME) : evE P d (.len e) ρ H = ((evE P d e ρ H) >>= fun p => (lenOf p.2 p.1).map fun n => (.int n, p.2)) := evE_st _ _ _ _
theorem e_listRange (e : ME) : evE P d (.listRange e) ρ H = ((evE P d e ρ H) >>= fun p => match p.1 with
    | .int n => if -1 ≤ n ∧ n < big then some (.obj p.2.length, p.2 ++ [.list (rints 0 n)]) else none
    | _ => none) := evE_st _ _ _ _
theorem e_listOf (e : ME) : evE P d (.listOf e) ρ H = ((evE P d e ρ H) >>= fun p => (listAt p.2 p.1) >>= fun l => if l.2.length < big then some (.obj p.2.length, p.2 ++ [.list l.2]) else none) := evE_st _ _ _ _
theorem e_tupOf (e : ME) : evE P d (.tupOf e) ρ H = ((evE P d e ρ H) >>= fun p => (listAt p.2 p.1) >>= fun l => if l.2.length < big then some (.tup l.2, p.2) else none) := evE_st _ _ _ _
theorem e_append (e : ME) (x : ME) : evE P d (.append e x) ρ H = ((evE P d e ρ H) >>= fun p => (listAt p.2 p.1) >>= fun _ => (evE P d x ρ p.2) >>= fun q => (listAt q.2 p.1) >>= fun l =>
      if l.2.length < big then some (.none, q.2.set l.1 (.list (l.2 ++ [q.1]))) else none) := evE_st _ _ _ _
theorem e_pop (e : ME) : evE P d (.pop e) ρ H = ((evE P d e ρ H) >>= fun p => (listAt p.2 p.1) >>= fun l => if l.2.length < big then (l.2.getLast?).map fun v => (v, p.2.set l.1 (.list l.2.dropLast)) else none) := evE_st _ _ _ _
theorem e_rev (e : ME) : evE P d (.rev e) ρ H = ((evE P d e ρ H) >>= fun p => (listAt p.2 p.1) >>= fun l => if l.2.length < big then some (.none, p.2.set l.1 (.list l.2.reverse)) else none) := evE_st _ _ _ _
theorem e_dget (e : ME) (k : ME) (v : ME) : evE P d (.dget e k v) ρ H = ((evE P d e ρ H) >>= fun p => (dictAt p.2 p.1) >>= fun _ => (evE P d k ρ p.2) >>= fun q => (evE P d v ρ q.2) >>= fun r => (dictAt r.2 p.1) >>= fun es =>
      if keyFits P es.2 q.1 then some ((dlook es.2 q.1).getD r.1, r.2) else none) := evE_st _ _ _ _
theorem e_filt (e : ME) (n : Nat) : evE P d (.filt e n) ρ H = ((evE P d e ρ H) >>= fun p => (listAt p.2 p.1) >>= fun l => if eqOks P 4 l.2 = true ∧ n < P.syms ∧ l.2.length < big then
      some (.bool (decide ((l.2.filter fun v => !decide (v = .tup [.sym n])) = [])), (p.2 ++ [.list (l.2.filter fun v => !decide (v = .tup [.sym n]))]) ++ [.list []]) else none) := evE_st _ _ _ _
theorem t_asg (x : Nat) (e : ME) : evS P d (.asg x e) ρ H = ((evE P d e ρ H) >>= fun p => some (.next, ρ.set x (some p.1), p.2)) := evS_st _ _ _ _
theorem t_sattr (o : ME) (n : Nat) (e : ME) : evS P d (.sattr o n e) ρ H = ((evE P d e ρ H) >>= fun p => (evE P d o ρ p.2) >>= fun q => (instAt q.2 q.1) >>= fun c => if ¬ (c.2.2.length < big ∧ P.ats c.2.1 n = true) then none else
      some (.next, ρ, q.2.set c.1 (.inst c.2.1 (putAttr c.2.2 n p.1)))) := evS_st _ _ _ _
theorem t_sitem (o : ME) (k : ME) (e : ME) : evS P d (.sitem o k e) ρ H = ((evE P d e ρ H) >>= fun p => (evE P d o ρ p.2) >>= fun q => (evE P d k ρ q.2) >>= fun r => (dictAt r.2 q.1) >>= fun es =>
      if keyFits P es.2 r.1 = true ∧ es.2.length < big then some (.next, ρ, r.2.set es.1 (.dict (dput es.2 r.1 p.1))) else none) := evS_st _ _ _ _
theorem t_expr (e : ME) : evS P d (.expr e) ρ H = ((evE P d e ρ H) >>= fun p => if isFlat p.1 = true then some (.next, ρ, p.2) else none) := evS_st _ _ _ _
theorem t_ifs (c : ME) (a : List MS) (b : List MS) : evS P d (.ifs c a b) ρ H = ((evE P d c ρ H) >>= fun p => (truth p.1) >>= fun t => if t then evSs P d a ρ p.2 else evSs P d b ρ p.2) := evS_st _ _ _ _
theorem t_for_ (x : Nat) (it : MI) (kill : List Nat) (body : List MS) : evS P d (.for_ x it kill body) ρ H = ((evI P d it ρ H) >>= fun p => evFor P d (x, kill, body) p.1 0 (killAll kill ρ) p.2) := evS_st _ _ _ _
theorem t_while_ (c : ME) (kill : List Nat) (body : List MS) : evS P d (.while_ c kill body) ρ H = (evWhile P d c kill body (killAll kill ρ) H) := evS_st _ _ _ _
theorem t_ret (e : ME) : evS P d (.ret e) ρ H = ((evE P d e ρ H) >>= fun p => some (.ret p.1, ρ, p.2)) := evS_st _ _ _ _
theorem t_brk  : evS P d (.brk) ρ H = (some (.brk, ρ, H)) := evS_st _ _ _ _
theorem t_stuck  : evS P d (.stuck) ρ H = (none) := evS_st _ _ _ _
theorem l_nil : evL P d [] ρ H = some ([], H) := evL_st _ _ _ _
theorem l_cons (e : ME) (r : List ME) : evL P d (e :: r) ρ H = ((evE P d e ρ H) >>= fun p => (evL P d r ρ p.2) >>= fun q => some (p.1 :: q.1, q.2)) := evL_st _ _ _ _
theorem o_one (e : ME) : evOr P d [e] ρ H = ((evE P d e ρ H) >>= fun p => (truth p.1) >>= fun t => if t then some (.bool true, p.2) else some (.bool false, p.2)) := evOr_st _ _ _ _
theorem o_cons (e e' : ME) (r : List ME) : evOr P d (e :: e' :: r) ρ H = ((evE P d e ρ H) >>= fun p => (truth p.1) >>= fun t => if t then some (.bool true, p.2) else evOr P d (e' :: r) ρ p.2) := evOr_st _ _ _ _
theorem a_one (e : ME) : evAnd P d [e] ρ H = ((evE P d e ρ H) >>= fun p => (truth p.1) >>= fun t => if t then some (.bool true, p.2) else some (.bool false, p.2)) := evAnd_st _ _ _ _
theorem a_cons (e e' : ME) (r : List ME) : evAnd P d (e :: e' :: r) ρ H = ((evE P d e ρ H) >>= fun p => (truth p.1) >>= fun t => if t then evAnd P d (e' :: r) ρ p.2 else some (.bool false, p.2)) := evAnd_st _ _ _ _
theorem i_e (e : ME) : evI P d (.e e) ρ H = ((evE P d e ρ H) >>= fun p => match p.1 with
    | .tup l => some (.vals l, p.2)
    | v => (listAt p.2 v) >>= fun l => some (.lst l.1, p.2)) := evI_st _ _ _ _
theorem i_range1 (b : ME) : evI P d (.range1 b) ρ H = ((evE P d b ρ H) >>= fun p => match p.1 with
    | .int n => if -1 ≤ n ∧ n < big then some (.vals (rints 0 n), p.2) else none
    | _ => none) := evI_st _ _ _ _
theorem i_range2 (a b : ME) : evI P d (.range2 a b) ρ H = ((evE P d a ρ H) >>= fun p => (evE P d b ρ p.2) >>= fun q => match p.1, q.1 with
    | .int m, .int n => if 0 ≤ m ∧ m < big ∧ -1 ≤ n ∧ n < big then some (.vals (rints m n), q.2) else none
    | _, _ => none) := evI_st _ _ _ _
theorem ss_nil : evSs P d [] ρ H = some (.next, ρ, H) := evSs_st _ _ _ _
theorem ss_cons (s : MS) (r : List MS) : evSs P d (s :: r) ρ H = ((evS P d s ρ H) >>= fun p => match p.1 with
    | .next => evSs P d r p.2.1 p.2.2
    | f => some (f, p.2.1, p.2.2)) := evSs_st _ _ _ _
theorem for_end {x : Nat} {kill : List Nat} {body : List MS} {s : Src} {i : Nat} (e : srcAt H s i = some none) : evFor P d (x, kill, body) s i ρ H = some (.next, ρ, H) := by rw [evFor_st]; unfold stFor; rw [show srcAt H s i = _ from e]; rfl
theorem for_turn {x : Nat} {kill : List Nat} {body : List MS} {s : Src} {i : Nat} {v : AV} (e : srcAt H s i = some (some v)) : evFor P d (x, kill, body) s i ρ H = ((evSs P d body (ρ.set x (some v)) H) >>= fun r => match r.1 with
      | .next => evFor P d (x, kill, body) s (i + 1) (killAll kill r.2.1) r.2.2
      | .brk => some (.next, killAll kill r.2.1, r.2.2)
      | .ret v => some (.ret v, r.2.1, r.2.2)) := by rw [evFor_st]; unfold stFor; rw [show srcAt H s i = _ from e]; rfl
theorem while_eq (c : ME) (kill : List Nat) (body : List MS) : evWhile P d c kill body ρ H = ((evE P d c ρ H) >>= fun p => (truth p.1) >>= fun t => if t then (evSs P d body ρ p.2) >>= fun r => match r.1 with
      | .next => evWhile P d c kill body (killAll kill r.2.1) r.2.2
      | .brk => some (.next, killAll kill r.2.1, r.2.2)
      | .ret v => some (.ret v, r.2.1, r.2.2) else some (.next, ρ, p.2)) := evWhile_st _ _ _ _ _ _
theorem c_succ (f : Nat) (args : List AV) : callF P (d + 1) f args H = ((P.fn f) >>= fun fn => if args.length = fn.np then
      (evSs P d fn.body (args.map some ++ List.replicate (fn.nl - fn.np) none) H) >>= fun r => match r.1 with
        | .ret v => some (v, r.2.2)
        | .next => some (.none, r.2.2)
        | .brk => none
      else none) := callF_st _ _ _ _
/-- a call of a known function -/
theorem c_fn {f : Nat} {fn : Fn} {args : List AV} (e : P.fn f = some fn) (h : args.length = fn.np) : callF P (d + 1) f args H = ((evSs P d fn.body (args.map some ++ List.replicate (fn.nl - fn.np) none) H) >>= fun r => match r.1 with
        | .ret v => some (v, r.2.2)
        | .next => some (.none, r.2.2)
        | .brk => none) := by rw [c_succ, e]; simp only [bind, Option.bind_some]; rw [if_pos h]
end
end Mini
end

noncomputable section -- Rules
set_option autoImplicit false
set_option linter.unusedVariables false
namespace Mini
section
variable {P : Prg} {ρ ρ₁ : Loc} {H H₁ H₂ H₃ : AHeap} {d : Nat}

theorem r_lit {v : AV} : evE P d (.lit v) ρ H = some (v, H) := e_lit v
theorem r_loc {x : Nat} {v : AV} (h : ρ[x]? = some (some v)) : evE P d (.loc x) ρ H = some (v, H) := by rw [e_loc, h]; rfl
theorem r_attr {e : ME} {n : Nat} {v w : AV} (h : evE P d e ρ H = some (v, H₁)) (hw : attrOf P H₁ v n = some w) : evE P d (.attr e n) ρ H = some (w, H₁) := by rw [e_attr, h]; show (attrOf P H₁ v n).map _ = _; rw [hw]; rfl
theorem r_sub {e i : ME} {v k w : AV} (h : evE P d e ρ H = some (v, H₁)) (h2 : evE P d i ρ H₁ = some (k, H₂)) (hw : subOf P H₂ v k = some w) : evE P d (.sub e i) ρ H = some (w, H₂) := by
  rw [e_sub, h]; show (evE P d i ρ H₁ >>= _) = _; rw [h2]; show (subOf P H₂ v k).map _ = _; rw [hw]; rfl
theorem r_slice {e a b : ME} {v x y : AV} {l : List AV} (h : evE P d e ρ H = some (v, H₁)) (h2 : evE P d a ρ H₁ = some (x, H₂)) (h3 : evE P d b ρ H₂ = some (y, H₃)) (hw : sliceOf H₃ v x y = some l) : evE P d (.slice e a b) ρ H = some (.obj H₃.length, H₃ ++ [.list l]) := by
  rw [e_slice, h]; show (evE P d a ρ H₁ >>= _) = _; rw [h2]; show (evE P d b ρ H₂ >>= _) = _; rw [h3]; show (sliceOf H₃ v x y).map _ = _; rw [hw]; rfl
theorem r_bin {o : Bop} {a b : ME} {x y w : AV} (h : evE P d a ρ H = some (x, H₁)) (h2 : evE P d b ρ H₁ = some (y, H₂)) (hw : binOf o x y = some w) : evE P d (.bin o a b) ρ H = some (w, H₂) := by
  rw [e_bin, h]; show (evE P d b ρ H₁ >>= _) = _; rw [h2]; show (binOf o x y).map _ = _; rw [hw]; rfl
theorem r_cmp {o : Cop} {a b : ME} {x y : AV} {t : Bool} (h : evE P d a ρ H = some (x, H₁)) (h2 : evE P d b ρ H₁ = some (y, H₂)) (hw : cmpOf P H₂ o x y = some t) : evE P d (.cmp o a b) ρ H = some (.bool t, H₂) := by
  rw [e_cmp, h]; show (evE P d b ρ H₁ >>= _) = _; rw [h2]; show (cmpOf P H₂ o x y).map _ = _; rw [hw]; rfl
theorem r_ors {l : List ME} {r : AV × AHeap} (h : evOr P d l ρ H = some r) : evE P d (.ors l) ρ H = some r := by rw [e_ors, h]
theorem r_ands {l : List ME} {r : AV × AHeap} (h : evAnd P d l ρ H = some r) : evE P d (.ands l) ρ H = some r := by rw [e_ands, h]
theorem or_one {e : ME} {b : Bool} (h : evE P d e ρ H = some (.bool b, H₁)) : evOr P d [e] ρ H = some (.bool b, H₁) := by
  rw [o_one, h]; cases b <;> rfl
theorem or_t {e : ME} {r : List ME} (h : evE P d e ρ H = some (.bool true, H₁)) : evOr P d (e :: r) ρ H = some (.bool true, H₁) := by
  cases r with
  | nil => rw [o_one, h]; rfl
  | cons e' r => rw [o_cons, h]; rfl
theorem or_f {e e' : ME} {r : List ME} {q : AV × AHeap} (h : evE P d e ρ H = some (.bool false, H₁)) (h2 : evOr P d (e' :: r) ρ H₁ = some q) : evOr P d (e :: e' :: r) ρ H = some q := by
  rw [o_cons, h]; exact h2
/-- the heap stays: the value alone -/
theorem or_two {e e' : ME} {r : List ME} {a b : Bool} (h : evE P d e ρ H = some (.bool a, H)) (h2 : evOr P d (e' :: r) ρ H = some (.bool b, H)) : evOr P d (e :: e' :: r) ρ H = some (.bool (a || b), H) := by
  rw [o_cons, h]; cases a
  · exact h2
  · rfl
theorem and_two {e e' : ME} {r : List ME} {a b : Bool} (h : evE P d e ρ H = some (.bool a, H)) (h2 : evAnd P d (e' :: r) ρ H = some (.bool b, H)) : evAnd P d (e :: e' :: r) ρ H = some (.bool (a && b), H) := by
  rw [a_cons, h]; cases a
  · rfl
  · exact h2
theorem and_one {e : ME} {b : Bool} (h : evE P d e ρ H = some (.bool b, H₁)) : evAnd P d [e] ρ H = some (.bool b, H₁) := by
  rw [a_one, h]; cases b <;> rfl
theorem and_f {e e' : ME} {r : List ME} (h : evE P d e ρ H = some (.bool false, H₁)) : evAnd P d (e :: e' :: r) ρ H = some (.bool false, H₁) := by
  rw [a_cons, h]; rfl
theorem and_t {e e' : ME} {r : List ME} {q : AV × AHeap} (h : evE P d e ρ H = some (.bool true, H₁)) (h2 : evAnd P d (e' :: r) ρ H₁ = some q) : evAnd P d (e :: e' :: r) ρ H = some q := by
  rw [a_cons, h]; exact h2
theorem r_ite {c a b : ME} {t : Bool} {q : AV × AHeap} (h : evE P d c ρ H = some (.bool t, H₁)) (h2 : (if t then evE P d a ρ H₁ else evE P d b ρ H₁) = some q) : evE P d (.ite c a b) ρ H = some q := by
  rw [e_ite, h]; exact h2
theorem r_list {l : List ME} {vs : List AV} (h : evL P d l ρ H = some (vs, H₁)) (hl : vs.length < big) : evE P d (.list l) ρ H = some (.obj H₁.length, H₁ ++ [.list vs]) := by
  rw [e_list, h]; exact if_pos hl
theorem r_tup {l : List ME} {vs : List AV} (h : evL P d l ρ H = some (vs, H₁)) (hl : vs.length < big) : evE P d (.tup l) ρ H = some (.tup vs, H₁) := by
  rw [e_tup, h]; exact if_pos hl
theorem r_dict0 : evE P d .dict0 ρ H = some (.obj H.length, H ++ [.dict []]) := e_dict0
theorem r_call {f : Nat} {l : List ME} {vs : List AV} {q : AV × AHeap} (h : evL P d l ρ H = some (vs, H₁)) (h2 : callF P d f vs H₁ = some q) : evE P d (.call f l) ρ H = some q := by rw [e_call, h]; exact h2
theorem r_new {c f : Nat} {l : List ME} {vs : List AV} (h : evL P (d + 1) l ρ H = some (vs, H₁)) (hi : P.init c = some f) (h2 : callF P d f (.obj H₁.length :: vs) (H₁ ++ [.inst c []]) = some (.none, H₂)) : evE P (d + 1) (.new c l) ρ H = some (.obj H₁.length, H₂) := by
  rw [e_new, h]; show (P.init c >>= _) = _; rw [hi]; show (callF P d f _ _ >>= _) = _; rw [h2]; show (if isNone AV.none = true ∧ 0 < d + 1 then some (AV.obj H₁.length, H₂) else none) = _; exact if_pos ⟨rfl, Nat.succ_pos _⟩
theorem r_meth {e : ME} {n i c f : Nat} {ats : List (Nat × AV)} {l : List ME} {vs : List AV} {q : AV × AHeap} (h : evE P d e ρ H = some (.obj i, H₁)) (hi : H₁[i]? = some (.inst c ats)) (h2 : evL P d l ρ H₁ = some (vs, H₂)) (hn : (ats.lookup n).isSome = false) (hm : P.meth c n = some f)
    (h3 : callF P d f (.obj i :: vs) H₂ = some q) : evE P d (.meth e n l) ρ H = some q := by
  rw [e_meth, h]; show (evL P d l ρ H₁ >>= _) = _; rw [h2]; show (instAt H₁ (.obj i) >>= _) = _
  have : instAt H₁ (.obj i) = some (i, c, ats) := by simp [instAt, hi]
  rw [this]; show (if (ats.lookup n).isSome = true then _ else _) = _; rw [hn]; show (P.meth c n >>= _) = _; rw [hm]; exact h3
theorem r_len {e : ME} {v : AV} {n : Int} (h : evE P d e ρ H = some (v, H₁)) (hn : lenOf H₁ v = some n) : evE P d (.len e) ρ H = some (.int n, H₁) := by rw [e_len, h]; show (lenOf H₁ v).map _ = _; rw [hn]; rfl
theorem r_listRange {e : ME} {n : Int} (h : evE P d e ρ H = some (.int n, H₁)) (hn : -1 ≤ n ∧ n < big) : evE P d (.listRange e) ρ H = some (.obj H₁.length, H₁ ++ [.list (rints 0 n)]) := by rw [e_listRange, h]; exact if_pos hn
theorem listAt_of {i : Nat} {l : List AV} (h : H[i]? = some (.list l)) : listAt H (.obj i) = some (i, l) := by simp [listAt, h]
theorem dictAt_of {i : Nat} {l : List (AV × AV)} (h : H[i]? = some (.dict l)) : dictAt H (.obj i) = some (i, l) := by simp [dictAt, h]
theorem r_listOf {e : ME} {i : Nat} {l : List AV} (h : evE P d e ρ H = some (.obj i, H₁)) (hi : H₁[i]? = some (.list l)) (hl : l.length < big) : evE P d (.listOf e) ρ H = some (.obj H₁.length, H₁ ++ [.list l]) := by
  rw [e_listOf, h]; show (listAt H₁ (.obj i) >>= _) = _; rw [listAt_of hi]; exact if_pos hl
theorem r_tupOf {e : ME} {i : Nat} {l : List AV} (h : evE P d e ρ H = some (.obj i, H₁)) (hi : H₁[i]? = some (.list l)) (hl : l.length < big) : evE P d (.tupOf e) ρ H = some (.tup l, H₁) := by
  rw [e_tupOf, h]; show (listAt H₁ (.obj i) >>= _) = _; rw [listAt_of hi]; exact if_pos hl
theorem r_append {e x : ME} {i : Nat} {v : AV} {l l' : List AV} (h : evE P d e ρ H = some (.obj i, H₁)) (hi : H₁[i]? = some (.list l')) (h2 : evE P d x ρ H₁ = some (v, H₂)) (hi2 : H₂[i]? = some (.list l)) (hl : l.length < big) :
    evE P d (.append e x) ρ H = some (.none, H₂.set i (.list (l ++ [v]))) := by
  rw [e_append, h]; show (listAt H₁ (.obj i) >>= _) = _; rw [listAt_of hi]; show (evE P d x ρ H₁ >>= _) = _; rw [h2]; show (listAt H₂ (.obj i) >>= _) = _; rw [listAt_of hi2]; exact if_pos hl
theorem r_pop {e : ME} {i : Nat} {v : AV} {l : List AV} (h : evE P d e ρ H = some (.obj i, H₁)) (hi : H₁[i]? = some (.list (l ++ [v]))) (hl : (l ++ [v]).length < big) : evE P d (.pop e) ρ H = some (v, H₁.set i (.list l)) := by
  rw [e_pop, h]; show (listAt H₁ (.obj i) >>= _) = _; rw [listAt_of hi]; refine (if_pos hl).trans ?_
  simp
theorem r_rev {e : ME} {i : Nat} {l : List AV} (h : evE P d e ρ H = some (.obj i, H₁)) (hi : H₁[i]? = some (.list l)) (hl : l.length < big) : evE P d (.rev e) ρ H = some (.none, H₁.set i (.list l.reverse)) := by
  rw [e_rev, h]; show (listAt H₁ (.obj i) >>= _) = _; rw [listAt_of hi]; exact if_pos hl
theorem r_dget {e k v : ME} {i : Nat} {x y : AV} {es es' : List (AV × AV)} (h : evE P d e ρ H = some (.obj i, H₁)) (hi : H₁[i]? = some (.dict es')) (h2 : evE P d k ρ H₁ = some (x, H₂)) (h3 : evE P d v ρ H₂ = some (y, H₃)) (hi2 : H₃[i]? = some (.dict es)) (hf : keyFits P es x = true) :
    evE P d (.dget e k v) ρ H = some ((dlook es x).getD y, H₃) := by
  rw [e_dget, h]; show (dictAt H₁ (.obj i) >>= _) = _; rw [dictAt_of hi]; show (evE P d k ρ H₁ >>= _) = _; rw [h2]; show (evE P d v ρ H₂ >>= _) = _; rw [h3]; show (dictAt H₃ (.obj i) >>= _) = _; rw [dictAt_of hi2]; exact if_pos hf
theorem r_filt {e : ME} {n i : Nat} {l : List AV} (h : evE P d e ρ H = some (.obj i, H₁)) (hi : H₁[i]? = some (.list l)) (hc : eqOks P 4 l = true ∧ n < P.syms ∧ l.length < big) :
    evE P d (.filt e n) ρ H = some (.bool (decide ((l.filter fun v => !decide (v = .tup [.sym n])) = [])), (H₁ ++ [.list (l.filter fun v => !decide (v = .tup [.sym n]))]) ++ [.list []]) := by
  rw [e_filt, h]; show (listAt H₁ (.obj i) >>= _) = _; rw [listAt_of hi]; exact if_pos hc
theorem rl_nil : evL P d [] ρ H = some ([], H) := l_nil
theorem rl_cons {e : ME} {r : List ME} {v : AV} {vs : List AV} (h : evE P d e ρ H = some (v, H₁)) (h2 : evL P d r ρ H₁ = some (vs, H₂)) : evL P d (e :: r) ρ H = some (v :: vs, H₂) := by rw [l_cons, h]; show (evL P d r ρ H₁ >>= _) = _; rw [h2]; rfl

/-! leaves -/
theorem at_of {i n c : Nat} {ats : List (Nat × AV)} {w : AV} (h : H[i]? = some (.inst c ats)) (ha : P.ats c n = true) (hw : ats.lookup n = some w) : attrOf P H (.obj i) n = some w := by simp [attrOf, h, ha, hw]
theorem sub_l {i : Nat} {l : List AV} {k : Int} {w : AV} (h : H[i]? = some (.list l)) (hw : idx k l = some w) : subOf P H (.obj i) (.int k) = some w := by simp [subOf, h, hw]
theorem sub_t {l : List AV} {k : Int} {w : AV} (hw : idx k l = some w) : subOf P H (.tup l) (.int k) = some w := hw
theorem sub_d {i : Nat} {es : List (AV × AV)} {k w : AV} (h : H[i]? = some (.dict es)) (hf : keyFits P es k = true) (hw : dlook es k = some w) : subOf P H (.obj i) k = some w := by simp [subOf, h, hf, hw]
theorem idx_nat {l : List AV} {k : Int} {w : AV} (h0 : 0 ≤ k) (hk : k < 2 ^ 62) (hw : l[k.toNat]? = some w) : idx k l = some w := by unfold idx; rw [if_pos ⟨h0, hk⟩, hw]
theorem len_l {i : Nat} {l : List AV} (h : H[i]? = some (.list l)) (hl : l.length < big) : lenOf H (.obj i) = some (l.length : Int) := by simp [lenOf, h, hl]
theorem len_t {l : List AV} (hl : l.length < big) : lenOf H (.tup l) = some (l.length : Int) := by simp [lenOf, hl]
theorem c_int {a b : Int} : cmpOf P H .eq (.int a) (.int b) = some (decide (a = b)) := by simp [cmpOf, deepEq, eqOk]
theorem c_intn {a b : Int} : cmpOf P H .ne (.int a) (.int b) = some (!decide (a = b)) := by simp [cmpOf, deepEq, eqOk]
theorem c_sym {a b : Nat} (ha : a < P.syms) (hb : b < P.syms) : cmpOf P H .eq (.sym a) (.sym b) = some (decide (a = b)) := by simp [cmpOf, deepEq, eqOk, ha, hb]
theorem c_booln {a b : Bool} : cmpOf P H .ne (.bool a) (.bool b) = some (!(a == b)) := by simp [cmpOf, deepEq]
theorem deep_ok {a b : AV} (ha : eqOk P 4 a = true) (hb : eqOk P 4 b = true) : deepEq P H a b = some (decide (a = b)) := by
  cases a <;> cases b <;> first | (simp [eqOk] at ha; done) | (simp [eqOk] at hb; done) | (simp only [deepEq, ha, hb, Bool.and_self, if_true])
theorem c_eq {a b : AV} (ha : eqOk P 4 a = true) (hb : eqOk P 4 b = true) : cmpOf P H .eq a b = some (decide (a = b)) := deep_ok ha hb
theorem c_ne {a b : AV} (ha : eqOk P 4 a = true) (hb : eqOk P 4 b = true) : cmpOf P H .ne a b = some (!decide (a = b)) := by
  show (deepEq P H a b).map _ = _; rw [deep_ok ha hb]; rfl
theorem deep_l {i j : Nat} {l r : List AV} (hi : H[i]? = some (.list l)) (hj : H[j]? = some (.list r)) (hl : eqOks P 4 l = true) (hr : eqOks P 4 r = true) : deepEq P H (.obj i) (.obj j) = some (decide (l = r)) := by
  simp [deepEq, hi, hj, hl, hr]
theorem any_ok {x : AV} (hx : eqOk P 4 x = true) : ∀ {l : List AV}, eqOks P 4 l = true → anyEq P H x l = some (decide (x ∈ l))
  | [], _ => rfl
  | a :: l, h => by
    rw [eqOks, Bool.and_eq_true] at h
    simp only [anyEq, deep_ok h.1 hx, any_ok hx h.2, Option.bind_some, Option.map_some, List.mem_cons]
    by_cases e : a = x
    · subst e; simp
    · have : ¬ x = a := fun z => e z.symm
      simp [e, this]

/-! statements -/
theorem s_next {s : MS} {r : List MS} {q : Fl × Loc × AHeap} (h : evS P d s ρ H = some (.next, ρ₁, H₁)) (h2 : evSs P d r ρ₁ H₁ = some q) : evSs P d (s :: r) ρ H = some q := by rw [ss_cons, h]; exact h2
theorem s_ret {s : MS} {r : List MS} {v : AV} (h : evS P d s ρ H = some (.ret v, ρ₁, H₁)) : evSs P d (s :: r) ρ H = some (.ret v, ρ₁, H₁) := by rw [ss_cons, h]; rfl
theorem s_brk {s : MS} {r : List MS} (h : evS P d s ρ H = some (.brk, ρ₁, H₁)) : evSs P d (s :: r) ρ H = some (.brk, ρ₁, H₁) := by rw [ss_cons, h]; rfl
theorem s_nil : evSs P d [] ρ H = some (.next, ρ, H) := ss_nil
theorem t_asg' {x : Nat} {e : ME} {v : AV} (h : evE P d e ρ H = some (v, H₁)) : evS P d (.asg x e) ρ H = some (.next, ρ.set x (some v), H₁) := by rw [t_asg, h]; rfl
theorem t_ret' {e : ME} {v : AV} (h : evE P d e ρ H = some (v, H₁)) : evS P d (.ret e) ρ H = some (.ret v, ρ, H₁) := by rw [t_ret, h]; rfl
theorem t_expr' {e : ME} {v : AV} (h : evE P d e ρ H = some (v, H₁)) (hf : isFlat v = true) : evS P d (.expr e) ρ H = some (.next, ρ, H₁) := by rw [t_expr, h]; exact if_pos hf
theorem t_brk' : evS P d .brk ρ H = some (.brk, ρ, H) := t_brk
theorem t_ifT {c : ME} {a b : List MS} {q : Fl × Loc × AHeap} (h : evE P d c ρ H = some (.bool true, H₁)) (h2 : evSs P d a ρ H₁ = some q) : evS P d (.ifs c a b) ρ H = some q := by rw [t_ifs, h]; exact h2
theorem t_ifF {c : ME} {a b : List MS} {q : Fl × Loc × AHeap} (h : evE P d c ρ H = some (.bool false, H₁)) (h2 : evSs P d b ρ H₁ = some q) : evS P d (.ifs c a b) ρ H = some q := by rw [t_ifs, h]; exact h2
theorem t_sattr' {o e : ME} {n i c : Nat} {ats : List (Nat × AV)} {v : AV} (h : evE P d e ρ H = some (v, H₁)) (h2 : evE P d o ρ H₁ = some (.obj i, H₂)) (hi : H₂[i]? = some (.inst c ats)) (hl : ats.length < big) (ha : P.ats c n = true) :
    evS P d (.sattr o n e) ρ H = some (.next, ρ, H₂.set i (.inst c (putAttr ats n v))) := by
  rw [t_sattr, h]; show (evE P d o ρ H₁ >>= _) = _; rw [h2]; show (instAt H₂ (.obj i) >>= _) = _
  have : instAt H₂ (.obj i) = some (i, c, ats) := by simp [instAt, hi]
  rw [this]; exact if_neg (Decidable.not_not.mpr ⟨hl, ha⟩)
theorem t_sitem' {o k e : ME} {i : Nat} {es : List (AV × AV)} {x v : AV} (h : evE P d e ρ H = some (v, H₁)) (h2 : evE P d o ρ H₁ = some (.obj i, H₂)) (h3 : evE P d k ρ H₂ = some (x, H₃)) (hi : H₃[i]? = some (.dict es)) (hf : keyFits P es x = true) (hl : es.length < big) :
    evS P d (.sitem o k e) ρ H = some (.next, ρ, H₃.set i (.dict (dput es x v))) := by
  rw [t_sitem, h]; show (evE P d o ρ H₁ >>= _) = _; rw [h2]; show (evE P d k ρ H₂ >>= _) = _; rw [h3]; show (dictAt H₃ (.obj i) >>= _) = _; rw [dictAt_of hi]; exact if_pos ⟨hf, hl⟩
theorem t_for' {x : Nat} {it : MI} {kill : List Nat} {body : List MS} {src : Src} {q : Fl × Loc × AHeap} (h : evI P d it ρ H = some (src, H₁)) (h2 : evFor P d (x, kill, body) src 0 (killAll kill ρ) H₁ = some q) : evS P d (.for_ x it kill body) ρ H = some q := by rw [t_for_, h]; exact h2
theorem t_while' {c : ME} {kill : List Nat} {body : List MS} {q : Fl × Loc × AHeap} (h2 : evWhile P d c kill body (killAll kill ρ) H = some q) : evS P d (.while_ c kill body) ρ H = some q := by rw [t_while_]; exact h2
theorem ri_tup {e : ME} {l : List AV} (h : evE P d e ρ H = some (.tup l, H₁)) : evI P d (.e e) ρ H = some (.vals l, H₁) := by rw [i_e, h]; rfl
theorem ri_lst {e : ME} {i : Nat} {l : List AV} (h : evE P d e ρ H = some (.obj i, H₁)) (hi : H₁[i]? = some (.list l)) : evI P d (.e e) ρ H = some (.lst i, H₁) := by rw [i_e, h]; show (listAt H₁ (.obj i) >>= _) = _; rw [listAt_of hi]; rfl
theorem ri_range1 {e : ME} {n : Int} (h : evE P d e ρ H = some (.int n, H₁)) (hn : -1 ≤ n ∧ n < big) : evI P d (.range1 e) ρ H = some (.vals (rints 0 n), H₁) := by rw [i_range1, h]; exact if_pos hn
theorem ri_range2 {a b : ME} {m n : Int} (h : evE P d a ρ H = some (.int m, H₁)) (h2 : evE P d b ρ H₁ = some (.int n, H₂)) (hn : 0 ≤ m ∧ m < big ∧ -1 ≤ n ∧ n < big) : evI P d (.range2 a b) ρ H = some (.vals (rints m n), H₂) := by rw [i_range2, h]; show (evE P d b ρ H₁ >>= _) = _; rw [h2]; exact if_pos hn
theorem k_ret {f : Nat} {fn : Fn} {args : List AV} {v : AV} (e : P.fn f = some fn) (hl : args.length = fn.np) (h : evSs P d fn.body (args.map some ++ List.replicate (fn.nl - fn.np) none) H = some (.ret v, ρ₁, H₁)) : callF P (d + 1) f args H = some (v, H₁) := by rw [c_fn e hl, h]; rfl
theorem k_next {f : Nat} {fn : Fn} {args : List AV} (e : P.fn f = some fn) (hl : args.length = fn.np) (h : evSs P d fn.body (args.map some ++ List.replicate (fn.nl - fn.np) none) H = some (.next, ρ₁, H₁)) : callF P (d + 1) f args H = some (.none, H₁) := by rw [c_fn e hl, h]; rfl

/-! loops -/
theorem for_vals {x : Nat} {kill : List Nat} {body : List MS} {l : List AV} (I : Nat → Loc → AHeap → Prop)
    (step : ∀ i v ρ H, l[i]? = some v → I i ρ H → ∃ ρ₁ H₁, evSs P d body (ρ.set x (some v)) H = some (.next, ρ₁, H₁) ∧ I (i + 1) (killAll kill ρ₁) H₁) :
    ∀ (n i : Nat) (ρ : Loc) (H : AHeap), n + i = l.length → I i ρ H → ∃ ρ' H', evFor P d (x, kill, body) (.vals l) i ρ H = some (.next, ρ', H') ∧ I l.length ρ' H' := by
  intro n
  induction n with
  | zero =>
    intro i ρ H hi hI
    have : i = l.length := by omega
    subst this
    exact ⟨ρ, H, for_end (by simp [srcAt]), hI⟩
  | succ n ih =>
    intro i ρ H hi hI
    have hlt : i < l.length := by omega
    obtain ⟨ρ₁, H₁, e, hI'⟩ := step i l[i] ρ H (by simp [hlt]) hI
    obtain ⟨ρ', H', e', hI''⟩ := ih (i + 1) _ _ (by omega) hI'
    refine ⟨ρ', H', ?_, hI''⟩
    rw [for_turn (v := l[i]) (by simp [srcAt, hlt]), e]
    exact e'
theorem for_lst {x o : Nat} {kill : List Nat} {body : List MS} {l : List AV} (I : Nat → Loc → AHeap → Prop) (hl : ∀ i ρ H, I i ρ H → H[o]? = some (.list l))
    (step : ∀ i v ρ H, l[i]? = some v → I i ρ H → ∃ ρ₁ H₁, evSs P d body (ρ.set x (some v)) H = some (.next, ρ₁, H₁) ∧ I (i + 1) (killAll kill ρ₁) H₁) :
    ∀ (n i : Nat) (ρ : Loc) (H : AHeap), n + i = l.length → I i ρ H → ∃ ρ' H', evFor P d (x, kill, body) (.lst o) i ρ H = some (.next, ρ', H') ∧ I l.length ρ' H' := by
  intro n
  induction n with
  | zero =>
    intro i ρ H hi hI
    have : i = l.length := by omega
    subst this
    exact ⟨ρ, H, for_end (by simp [srcAt, hl _ _ _ hI]), hI⟩
  | succ n ih =>
    intro i ρ H hi hI
    have hlt : i < l.length := by omega
    obtain ⟨ρ₁, H₁, e, hI'⟩ := step i l[i] ρ H (by simp [hlt]) hI
    obtain ⟨ρ', H', e', hI''⟩ := ih (i + 1) _ _ (by omega) hI'
    refine ⟨ρ', H', ?_, hI''⟩
    rw [for_turn (v := l[i]) (by simp [srcAt, hl _ _ _ hI, hlt]), e]
    exact e'
end
end Mini
end

noncomputable section -- PB1
set_option autoImplicit false
set_option linter.unusedVariables false
set_option linter.unusedSimpArgs false
namespace Mini

inductive Key where
  | var | list | struct (i : Int) | const (t i : Int)
  deriving DecidableEq
noncomputable def Key.av : Key → AV
  | .var => .tup [.sym 36]
  | .list => .tup [.sym 54]
  | .struct i => .tup [.sym 53, .int i]
  | .const t i => .tup [.sym 51, .tup [.int t, .int i]]
theorem Key.ok (k : Key) : eqOk theP 4 k.av = true := by cases k <;> rfl
theorem Key.inj {a b : Key} : a.av = b.av ↔ a = b := by cases a <;> cases b <;> simp [Key.av]
noncomputable def fit (a b : Key) : Bool := decide (a = .var) || decide (b = .var) || decide (a = b)

theorem var_iff {k : Key} : k.av = .tup [.sym 36] ↔ k = .var := Key.inj (b := .var)
theorem r_isvar {d : Nat} {H H₁ : AHeap} {ρ : Loc} {e : ME} {k : Key} (h : evE theP d e ρ H = some (k.av, H₁)) : evE theP d (.cmp .eq e (.lit (.tup [.sym 36]))) ρ H = some (.bool (decide (k = .var)), H₁) := by
  have := r_cmp (P := theP) h r_lit (c_eq k.ok (b := .tup [.sym 36]) rfl)
  simpa only [var_iff] using this
theorem r_notvar {d : Nat} {H H₁ : AHeap} {ρ : Loc} {e : ME} {k : Key} (h : evE theP d e ρ H = some (k.av, H₁)) : evE theP d (.cmp .ne e (.lit (.tup [.sym 36]))) ρ H = some (.bool (!decide (k = .var)), H₁) := by
  have := r_cmp (P := theP) h r_lit (c_ne k.ok (b := .tup [.sym 36]) rfl)
  simpa only [var_iff] using this
theorem s_matching {d : Nat} {H : AHeap} (a b : Key) : callF theP (d + 1) 7 [a.av, b.av] H = some (.bool (fit a b), H) := by
  have h1 := or_two (r_isvar (d := d) (H := H) (ρ := [some a.av, some b.av]) (k := a) (r_loc (x := 0) rfl)) (or_one (r_isvar (H := H) (k := b) (r_loc (x := 1) rfl)))
  cases h : (decide (a = .var) || decide (b = .var)) with
  | true =>
    have hf : fit a b = true := by simp [fit, h]
    rw [hf]; rw [h] at h1
    exact k_ret rfl rfl (s_ret (t_ifT (r_ors h1) (s_ret (t_ret' r_lit))))
  | false =>
    have hf : fit a b = decide (a = b) := by simp [fit, h]
    rw [hf]; rw [h] at h1
    have h2 := r_cmp (P := theP) (d := d) (H := H) (r_loc (ρ := [some a.av, some b.av]) (x := 0) rfl) (r_loc (x := 1) rfl) (c_eq a.ok b.ok)
    simp only [Key.inj] at h2
    exact k_ret rfl rfl (s_next (t_ifF (r_ors h1) s_nil) (s_ret (t_ret' h2)))
end Mini
end

noncomputable section -- PB2
set_option autoImplicit false
set_option linter.unusedVariables false
set_option linter.unusedSimpArgs false
namespace Mini

/-! heaps -/
theorem get_app {H : AHeap} {l : List AObj} {j : Nat} {o : AObj} (h : H[j]? = some o) : (H ++ l)[j]? = some o := by
  rw [List.getElem?_append_left (List.getElem?_eq_some_iff.mp h).1]; exact h
theorem get_last {H : AHeap} {o : AObj} : (H ++ [o])[H.length]? = some o := by simp
theorem set_last {H : AHeap} {o o' : AObj} : (H ++ [o]).set H.length o' = H ++ [o'] := by simp
theorem get_lt {H : AHeap} {j : Nat} {o : AObj} (h : H[j]? = some o) : j < H.length := (List.getElem?_eq_some_iff.mp h).1
theorem get_set_ne {H : AHeap} {i j : Nat} {o o' : AObj} (h : H[j]? = some o) (n : i ≠ j) : (H.set i o')[j]? = some o := by rw [List.getElem?_set_ne n]; exact h
theorem get_set {H : AHeap} {i : Nat} {o o' : AObj} (h : H[i]? = some o) : (H.set i o')[i]? = some o' := by rw [List.getElem?_set_self (get_lt h)]

/-- old places stay but for N..N+3 -/
structure Fr (N : Nat) (H H' : AHeap) : Prop where
  len : H.length ≤ H'.length
  same : ∀ j o, H[j]? = some o → (j < N ∨ N + 3 < j) → H'[j]? = some o
theorem Fr.refl {N : Nat} {H : AHeap} : Fr N H H := ⟨Nat.le_refl _, fun _ _ e _ => e⟩
theorem Fr.trans {N : Nat} {H H' H'' : AHeap} (a : Fr N H H') (b : Fr N H' H'') : Fr N H H'' := ⟨Nat.le_trans a.len b.len, fun j o e h => b.same j o (a.same j o e h) h⟩
theorem Fr.app {N : Nat} {H : AHeap} {l : List AObj} : Fr N H (H ++ l) := ⟨by simp, fun j o e _ => get_app e⟩
theorem Fr.set {N i : Nat} {H : AHeap} {o : AObj} (h : N ≤ i) (h' : i ≤ N + 3) : Fr N H (H.set i o) := ⟨by simp, fun j o e hj => get_set_ne e (by omega)⟩

inductive Row where
  | lab (l : Int) | tri (l a : Int) | retry (l : Int) | trust (l : Int) | sot (v c l s : Int) | soc (ps : List (AV × Int)) (d : Int) | sos (ps : List (AV × Int)) (d : Int) | exec (i : Int) | fail
noncomputable def pairAv (p : AV × Int) : AV := .tup [p.1, .int p.2]
noncomputable def Row.av : Row → AV
  | .lab l => .tup [.sym 56, .int l]
  | .tri l a => .tup [.sym 44, .int l, .int a]
  | .retry l => .tup [.sym 45, .int l]
  | .trust l => .tup [.sym 46, .int l]
  | .sot v c l s => .tup [.sym 55, .int v, .int c, .int l, .int s]
  | .soc ps d => .tup [.sym 57, .tup (ps.map pairAv), .int d]
  | .sos ps d => .tup [.sym 58, .tup (ps.map pairAv), .int d]
  | .exec i => .tup [.sym 65, .int i]
  | .fail => .tup [.sym 17]

structure BSt where
  ar : Int
  rows : List Row
  chains : List (Int × List Int)
  next : Int
noncomputable def chAv (p : Int × List Int) : AV := .tup [.int p.1, .tup (p.2.map AV.int)]
noncomputable def knAv (p : Int × List Int) : AV × AV := (.tup (p.2.map AV.int), .int p.1)
structure BS (H : AHeap) (N c : Nat) (st : BSt) : Prop where
  b : H[N]? = some (.inst 1 [(38, .int st.ar), (39, .obj c), (40, .obj (N + 1)), (41, .obj (N + 2)), (42, .obj (N + 3)), (43, .int st.next)])
  r : H[N + 1]? = some (.list (st.rows.map Row.av))
  ch : H[N + 2]? = some (.list (st.chains.map chAv))
  kn : H[N + 3]? = some (.dict (st.chains.map knAv))
theorem BS.app {H : AHeap} {N c : Nat} {st : BSt} {l : List AObj} (h : BS H N c st) : BS (H ++ l) N c st := ⟨get_app h.b, get_app h.r, get_app h.ch, get_app h.kn⟩

/-- the codes: a list of instances, all below B -/
noncomputable def CS (H : AHeap) (B c : Nat) (keys : List Key) : Prop := c < B ∧ ∃ ids : List Nat, ids.length = keys.length ∧ H[c]? = some (.list (ids.map AV.obj)) ∧
  ∀ (i : Nat) (k : Key), keys[i]? = some k → ∃ id q a b, ids[i]? = some id ∧ id < B ∧ q < B ∧ H[id]? = some (.inst 2 [(35, a), (37, k.av), (60, .obj q), (63, b)]) ∧ H[q]? = some (.list [(Row.exec i).av])
theorem CS.mono {H H' : AHeap} {B c : Nat} {keys : List Key} (h : CS H B c keys) (k : ∀ j o, j < B → H[j]? = some o → H'[j]? = some o) : CS H' B c keys := by
  obtain ⟨h0, ids, h1, h2, h3⟩ := h
  refine ⟨h0, ids, h1, k _ _ h0 h2, fun i x e => ?_⟩
  obtain ⟨id, q, a, b, f1, f2, f3, f4, f5⟩ := h3 i x e
  exact ⟨id, q, a, b, f1, f2, f3, k _ _ f2 f4, k _ _ f3 f5⟩
theorem CS.fr {H H' : AHeap} {B c N : Nat} {keys : List Key} (h : CS H B c keys) (f : Fr N H H') (hN : B ≤ N) : CS H' B c keys := h.mono fun j o hj e => f.same j o e (.inl (by omega))
theorem CS.app {H : AHeap} {l : List AObj} {B c : Nat} {keys : List Key} (h : CS H B c keys) : CS (H ++ l) B c keys := h.mono fun j o hj e => get_app e

noncomputable def kat (keys : List Key) (p : Int) : Key := keys.getD p.toNat .var
noncomputable def InR (keys : List Key) (ps : List Int) : Prop := ∀ p ∈ ps, 0 ≤ p ∧ p < keys.length
theorem InR.kat {keys : List Key} {ps : List Int} {p : Int} (h : InR keys ps) (hp : p ∈ ps) : keys[p.toNat]? = some (kat keys p) := by
  obtain ⟨h1, h2⟩ := h p hp
  have : p.toNat < keys.length := by omega
  simp [Mini.kat, this]

section
variable {d N c B : Nat} {st : BSt} {H : AHeap} {ρ : Loc} {keys : List Key}

theorem b_fresh (h : BS H N c st) : ∃ H', callF theP (d + 1) 10 [.obj N] H = some (.int st.next, H') ∧ BS H' N c { st with next := st.next + 1 } ∧ Fr N H H' := by
  refine ⟨_, k_ret rfl rfl (s_next (t_asg' (r_attr (r_loc rfl) (at_of h.b rfl rfl))) (s_next (t_sattr' (r_bin (r_loc rfl) r_lit rfl) (r_loc rfl) h.b (show 6 < big by decide) rfl) (s_ret (t_ret' (r_loc rfl))))), ⟨get_set h.b, get_set_ne h.r (by omega), get_set_ne h.ch (by omega), get_set_ne h.kn (by omega)⟩, .set (Nat.le_refl _) (by omega)⟩

noncomputable def chainF (st : BSt) (ps : List Int) : Int × BSt := match ps with
  | [] => (-1, st)
  | [x] => (x, st)
  | ps => match st.chains.find? fun p => decide (p.2 = ps) with
    | some p => (p.1, st)
    | none => (st.next, { st with chains := st.chains ++ [(st.next, ps)], next := st.next + 1 })

theorem ints_all (ps : List Int) : (ps.map AV.int).all isInt = true := by
  rw [List.all_eq_true]; intro a ha; obtain ⟨i, _, rfl⟩ := List.mem_map.mp ha; rfl
theorem ints_inj {a b : List Int} : a.map AV.int = b.map AV.int ↔ a = b := by
  constructor
  · intro h
    induction a generalizing b with
    | nil => cases b with | nil => rfl | cons => simp at h
    | cons x a ih => cases b with
      | nil => simp at h
      | cons y b => simp at h; rw [h.1, ih (by simpa using h.2)]
  · rintro rfl; rfl
theorem kn_fits (ch : List (Int × List Int)) (ps : List Int) : keyFits theP (ch.map knAv) (.tup (ps.map AV.int)) = true := by
  have hk : ∀ ps : List Int, keyKind theP (.tup (ps.map AV.int)) = some 2 := fun ps => by simp only [keyKind, ints_all, if_true]
  unfold keyFits
  rw [hk]
  simp only [Option.isSome_some, Bool.true_and, List.all_map, List.all_eq_true]
  intro p _
  show (keyKind theP (.tup (p.2.map AV.int)) == some 2) = true
  rw [hk]; rfl
theorem kn_look (ch : List (Int × List Int)) (ps : List Int) : dlook (ch.map knAv) (.tup (ps.map AV.int)) = (ch.find? fun p => decide (p.2 = ps)).map fun p => AV.int p.1 := by
  unfold dlook
  induction ch with
  | nil => rfl
  | cons p ch ih =>
    have : decide ((knAv p).1 = .tup (ps.map AV.int)) = decide (p.2 = ps) := by
      have e : ((knAv p).1 = .tup (ps.map AV.int)) ↔ p.2 = ps := by show (AV.tup _ = _) ↔ _; rw [AV.tup.injEq, ints_inj]
      simp only [e]
    simp only [List.map_cons, List.find?_cons, this]
    cases decide (p.2 = ps) with
    | true => rfl
    | false => exact ih

theorem idx_ints {ps : List Int} {i : Nat} {x : Int} (h : ps[i]? = some x) (hi : i < big) : idx (i : Int) (ps.map AV.int) = some (.int x) := idx_nat (by omega) (by unfold big at hi; omega) (by simp [h])

theorem b_chain (h : BS H N c st) {p : Nat} {ps : List Int} (hp : H[p]? = some (.list (ps.map AV.int))) (ho : p < N ∨ N + 3 < p) (hl : ps.length < big) (hc : st.chains.length < big) :
    ∃ H', callF theP (d + 2) 12 [.obj N, .obj p] H = some (.int (chainF st ps).1, H') ∧ BS H' N c (chainF st ps).2 ∧ Fr N H H' := by
  have hlen : ∀ ρ : Loc, ρ[1]? = some (some (.obj p)) → evE theP (d + 1) (.len (.loc 1)) ρ H = some (.int (ps.length : Int), H) := fun ρ e => by
    have := r_len (P := theP) (d := d + 1) (r_loc (H := H) e) (len_l hp (by simpa using hl))
    simpa using this
  match ps, hp, hl, hlen with
  | [], hp, hl, hlen => exact ⟨H, k_ret rfl rfl (s_ret (t_ifT (r_cmp (hlen _ rfl) r_lit c_int) (s_ret (t_ret' r_lit)))), h, .refl⟩
  | [x], hp, hl, hlen => exact ⟨H, k_ret rfl rfl (s_next (t_ifF (r_cmp (hlen _ rfl) r_lit c_int) s_nil) (s_ret (t_ifT (r_cmp (hlen _ rfl) r_lit c_int) (s_ret (t_ret' (r_sub (r_loc rfl) r_lit (sub_l hp rfl))))))), h, .refl⟩
  | x :: y :: ps, hp, hl, hlen =>
    have e0 : decide (((x :: y :: ps).length : Int) = 0) = false := by simp; omega
    have e1 : decide (((x :: y :: ps).length : Int) = 1) = false := by simp; omega
    generalize hq : x :: y :: ps = qs at hp hl hlen e0 e1
    have hcf : chainF st qs = match st.chains.find? fun p => decide (p.2 = qs) with
      | some p => (p.1, st)
      | none => (st.next, { st with chains := st.chains ++ [(st.next, qs)], next := st.next + 1 }) := by subst hq; rfl
    rw [hcf]
    have t0 := r_cmp (P := theP) (d := d + 1) (hlen ([.obj N, .obj p].map some ++ List.replicate 2 none) rfl) r_lit (c_int (b := 0))
    have t1 := r_cmp (P := theP) (d := d + 1) (hlen ([.obj N, .obj p].map some ++ List.replicate 2 none) rfl) r_lit (c_int (b := 1))
    rw [e0] at t0; rw [e1] at t1
    have t2 := t_asg' (x := 2) (r_tupOf (P := theP) (d := d + 1) (r_loc (ρ := [.obj N, .obj p].map some ++ List.replicate 2 none) (x := 1) rfl) hp (by simpa using hl))
    have look := kn_look st.chains qs
    have t3 := r_cmp (P := theP) (d := d + 1) (r_loc (H := H) (ρ := [some (.obj N), some (.obj p), some (.tup (qs.map AV.int)), none]) (x := 2) rfl) (r_attr (n := 42) (r_loc (x := 0) rfl) (at_of h.b rfl rfl))
      (show cmpOf theP H .isin _ _ = some (dlook (st.chains.map knAv) (.tup (qs.map AV.int))).isSome by simp only [cmpOf, inOf, h.kn, kn_fits, if_true])
    cases hf : st.chains.find? fun p => decide (p.2 = qs) with
    | some q =>
      rw [hf] at look
      rw [look] at t3
      refine ⟨H, k_ret rfl rfl (s_next (t_ifF t0 s_nil) (s_next (t_ifF t1 s_nil) (s_next t2 (s_ret (t_ifT t3 (s_ret (t_ret' (r_sub (r_attr (r_loc rfl) (at_of h.b rfl rfl)) (r_loc rfl) (sub_d h.kn (kn_fits _ _) look))))))))), h, .refl⟩
    | none =>
      rw [hf] at look
      rw [look] at t3
      obtain ⟨H₁, f1, f2, f3⟩ := b_fresh (d := d) h
      have put : dput (st.chains.map knAv) (.tup (qs.map AV.int)) (.int st.next) = (st.chains ++ [(st.next, qs)]).map knAv := by
        unfold dput; rw [look]; simp [knAv]
      have g1 : (H₁.set (N + 3) (.dict ((st.chains ++ [(st.next, qs)]).map knAv)))[N + 2]? = some (.list (st.chains.map chAv)) := get_set_ne f2.ch (by omega)
      have b1 : (H₁.set (N + 3) (.dict ((st.chains ++ [(st.next, qs)]).map knAv)))[N]? = some _ := get_set_ne f2.b (by omega)
      have s6 := t_sitem' (P := theP) (d := d + 1) (o := .attr (.loc 0) 42) (k := .loc 2) (e := .loc 3) (ρ := [some (.obj N), some (.obj p), some (.tup (qs.map AV.int)), some (.int st.next)]) (r_loc rfl) (r_attr (r_loc rfl) (at_of f2.b rfl rfl)) (r_loc rfl) f2.kn (kn_fits _ _) (by simpa using hc)
      rw [put] at s6
      have s7 := t_expr' (r_append (P := theP) (d := d + 1) (e := .attr (.loc 0) 41) (x := .tup [.loc 3, .loc 2]) (ρ := [some (.obj N), some (.obj p), some (.tup (qs.map AV.int)), some (.int st.next)]) (r_attr (r_loc rfl) (at_of b1 rfl rfl)) g1 (r_tup (rl_cons (r_loc rfl) (rl_cons (r_loc rfl) rl_nil)) (show 2 < big by decide)) g1 (by simpa using hc)) rfl
      refine ⟨_, k_ret rfl rfl (s_next (t_ifF t0 s_nil) (s_next (t_ifF t1 s_nil) (s_next t2 (s_next (t_ifF t3 s_nil) (s_next (t_asg' (r_meth (r_loc rfl) h.b rl_nil rfl rfl f1)) (s_next s6 (s_next s7 (s_ret (t_ret' (r_loc rfl)))))))))), ?_⟩
      refine ⟨⟨get_set_ne (get_set_ne f2.b (by omega)) (by omega), get_set_ne (get_set_ne f2.r (by omega)) (by omega), ?_, get_set_ne (get_set f2.kn) (by omega)⟩, f3.trans ((Fr.set (by omega) (by omega)).trans (Fr.set (by omega) (by omega)))⟩
      rw [get_set g1]; simp [chAv]
end
end Mini
end

noncomputable section -- PB3
set_option autoImplicit false
set_option linter.unusedVariables false
set_option linter.unusedSimpArgs false
namespace Mini
section
variable {d N c B : Nat} {st : BSt} {H : AHeap} {ρ : Loc} {keys : List Key}

theorem code_at (hc : CS H B c keys) (hn : keys.length < big) {x : Int} (h0 : 0 ≤ x) (hx : x < keys.length) : ∃ id q a b, id < B ∧ q < B ∧ subOf theP H (.obj c) (.int x) = some (.obj id) ∧ H[id]? = some (.inst 2 [(35, a), (37, (kat keys x).av), (60, .obj q), (63, b)]) ∧ H[q]? = some (.list [(Row.exec x).av]) := by
  obtain ⟨_, ids, h1, h2, h3⟩ := hc
  have hx' : x.toNat < keys.length := by omega
  obtain ⟨id, q, a, b, f1, f2, f3, f4, f5⟩ := h3 x.toNat (kat keys x) (by simp [kat, hx'])
  refine ⟨id, q, a, b, f2, f3, sub_l h2 (idx_nat h0 (by unfold big at hn; omega) (by simp [f1])), f4, ?_⟩
  rw [f5]; simp [Row.av, Int.toNat_of_nonneg h0]
theorem r_code (hc : CS H B c keys) (hn : keys.length < big) {x : Int} (h0 : 0 ≤ x) (hx : x < keys.length) {e i : ME} (he : evE theP d e ρ H = some (.obj c, H)) (hi : evE theP d i ρ H = some (.int x, H)) : evE theP d (.attr (.sub e i) 37) ρ H = some ((kat keys x).av, H) := by
  obtain ⟨id, q, a, b, _, _, g1, g2, _⟩ := code_at hc hn h0 hx
  exact r_attr (r_sub he hi g1) (at_of g2 rfl rfl)
theorem r_codes (h : BS H N c st) (e : ρ[0]? = some (some (.obj N))) : evE theP d (.attr (.loc 0) 39) ρ H = some (.obj c, H) := r_attr (r_loc e) (at_of h.b rfl rfl)

noncomputable def matchP (keys : List Key) (ps : List Int) (k : Key) : List Int := ps.filter fun p => fit (kat keys p) k
noncomputable def varP (keys : List Key) (ps : List Int) : List Int := ps.filter fun p => decide (kat keys p = .var)
theorem take_more {α : Type} {l : List α} {i : Nat} {x : α} (h : l[i]? = some x) : l.take (i + 1) = l.take i ++ [x] := by rw [List.take_add_one, h]; rfl
theorem len_filter {α : Type} (l : List α) (f : α → Bool) : (l.filter f).length ≤ l.length := List.length_filter_le f l

theorem b_match (h : BS H N c st) (hc : CS H B c keys) (hn : keys.length < big) {p : Nat} {ps : List Int} (hp : H[p]? = some (.list (ps.map AV.int))) (hr : InR keys ps) (hl : ps.length < big) (k : Key) :
    callF theP (d + 2) 13 [.obj N, .obj p, k.av] H = some (.obj H.length, H ++ [.list ((matchP keys ps k).map AV.int)]) := by
  obtain ⟨ρ', H', e, e1, e2⟩ := for_lst (P := theP) (d := d + 1) (x := 4) (o := p) (kill := [4]) (body := [.ifs (.call 7 [(.attr (.sub (.attr (.loc 0) 39) (.loc 4)) 37), (.loc 2)]) [.expr (.append (.loc 3) (.loc 4))] []]) (l := ps.map AV.int)
    (fun i ρ Hh => ρ = [some (.obj N), some (.obj p), some k.av, some (.obj H.length), none] ∧ Hh = H ++ [.list ((matchP keys (ps.take i) k).map AV.int)])
    (fun i ρ Hh hI => by rw [hI.2]; exact get_app hp)
    (fun i v ρ Hh hv hI => by
      obtain ⟨rfl, rfl⟩ := hI
      obtain ⟨x, hx, rfl⟩ : ∃ x, ps[i]? = some x ∧ AV.int x = v := by simpa using hv
      have hm := hr x (List.mem_of_getElem? hx)
      have key := r_code (d := d + 1) (ρ := [some (.obj N), some (.obj p), some k.av, some (.obj H.length), some (.int x)]) (hc.app (l := [.list ((matchP keys (ps.take i) k).map AV.int)])) hn hm.1 hm.2 (r_codes h.app rfl) (r_loc (x := 4) rfl)
      have cl := r_call (f := 7) (rl_cons key (rl_cons (r_loc (x := 2) (v := k.av) rfl) rl_nil)) (s_matching (kat keys x) k)
      have ht : matchP keys (ps.take (i + 1)) k = matchP keys (ps.take i) k ++ (if fit (kat keys x) k = true then [x] else []) := by
        unfold matchP; rw [take_more hx, List.filter_append]; simp [List.filter_cons]
      rw [ht]
      cases hf : fit (kat keys x) k with
      | true =>
        rw [hf] at cl
        refine ⟨_, _, s_next (t_ifT cl (s_next (t_expr' (r_append (r_loc rfl) get_last (r_loc rfl) get_last ?_) rfl) s_nil)) s_nil, rfl, ?_⟩
        · have := len_filter (ps.take i) fun p => fit (kat keys p) k
          have := List.length_take (i := i) (l := ps)
          simp only [List.length_map]; unfold matchP; omega
        · rw [set_last]; simp
      | false =>
        rw [hf] at cl
        exact ⟨_, _, s_next (t_ifF cl s_nil) s_nil, rfl, by simp⟩)
    ps.length 0 _ _ (by simp) ⟨rfl, rfl⟩
  rw [List.length_map, List.take_length] at e2
  subst e1 e2
  exact k_ret rfl rfl (s_next (t_asg' (r_list rl_nil (show 0 < big by decide))) (s_next (t_for' (ri_lst (r_loc rfl) (get_app hp)) e) (s_ret (t_ret' (r_loc rfl)))))
theorem b_varp (h : BS H N c st) (hc : CS H B c keys) (hn : keys.length < big) {p : Nat} {ps : List Int} (hp : H[p]? = some (.list (ps.map AV.int))) (hr : InR keys ps) (hl : ps.length < big) :
    callF theP (d + 1) 14 [.obj N, .obj p] H = some (.obj H.length, H ++ [.list ((varP keys ps).map AV.int)]) := by
  obtain ⟨ρ', H', e, e1, e2⟩ := for_lst (P := theP) (d := d) (x := 3) (o := p) (kill := [3]) (body := [.ifs (.cmp .eq (.attr (.sub (.attr (.loc 0) 39) (.loc 3)) 37) (.lit (.tup [.sym 36]))) [.expr (.append (.loc 2) (.loc 3))] []]) (l := ps.map AV.int)
    (fun i ρ Hh => ρ = [some (.obj N), some (.obj p), some (.obj H.length), none] ∧ Hh = H ++ [.list ((varP keys (ps.take i)).map AV.int)])
    (fun i ρ Hh hI => by rw [hI.2]; exact get_app hp)
    (fun i v ρ Hh hv hI => by
      obtain ⟨rfl, rfl⟩ := hI
      obtain ⟨x, hx, rfl⟩ : ∃ x, ps[i]? = some x ∧ AV.int x = v := by simpa using hv
      have hm := hr x (List.mem_of_getElem? hx)
      have cl := r_isvar (r_code (d := d) (ρ := [some (.obj N), some (.obj p), some (.obj H.length), some (.int x)]) (hc.app (l := [.list ((varP keys (ps.take i)).map AV.int)])) hn hm.1 hm.2 (r_codes h.app rfl) (r_loc (x := 3) rfl))
      have ht : varP keys (ps.take (i + 1)) = varP keys (ps.take i) ++ (if decide (kat keys x = .var) = true then [x] else []) := by
        unfold varP; rw [take_more hx, List.filter_append]; simp [List.filter_cons]
      rw [ht]
      cases hf : decide (kat keys x = .var) with
      | true =>
        rw [hf] at cl
        refine ⟨_, _, s_next (t_ifT cl (s_next (t_expr' (r_append (r_loc rfl) get_last (r_loc rfl) get_last ?_) rfl) s_nil)) s_nil, rfl, ?_⟩
        · have := len_filter (ps.take i) fun p => decide (kat keys p = .var)
          have := List.length_take (i := i) (l := ps)
          simp only [List.length_map]; unfold varP; omega
        · rw [set_last]; simp
      | false =>
        rw [hf] at cl
        exact ⟨_, _, s_next (t_ifF cl s_nil) s_nil, rfl, by simp⟩)
    ps.length 0 _ _ (by simp) ⟨rfl, rfl⟩
  rw [List.length_map, List.take_length] at e2
  subst e1 e2
  exact k_ret rfl rfl (s_next (t_asg' (r_list rl_nil (show 0 < big by decide))) (s_next (t_for' (ri_lst (r_loc rfl) (get_app hp)) e) (s_ret (t_ret' (r_loc rfl)))))
end
end Mini
end

noncomputable section -- PB4
set_option autoImplicit false
set_option linter.unusedVariables false
set_option linter.unusedSimpArgs false
namespace Mini
noncomputable def Key.kd : Key → Nat
  | .var => 36
  | .list => 54
  | .struct _ => 53
  | .const _ _ => 51
noncomputable def Key.snd : Key → AV
  | .struct i => .int i
  | .const t i => .tup [.int t, .int i]
  | _ => .none
noncomputable def tabStep (keys : List Key) (all : List Int) (kd : Nat) (s : List (AV × Int) × BSt) (x : Int) : List (AV × Int) × BSt :=
  if (kat keys x).kd = kd ∧ (s.1.any fun p => decide (p.1 = (kat keys x).snd)) = false then
    (s.1 ++ [((kat keys x).snd, (chainF s.2 (matchP keys all (kat keys x))).1)], (chainF s.2 (matchP keys all (kat keys x))).2) else s
noncomputable def tableF (keys : List Key) (st : BSt) (ps : List Int) (kd : Nat) : List (AV × Int) × BSt := ps.foldl (tabStep keys ps kd) ([], st)

theorem chainF_len (st : BSt) (ps : List Int) : (chainF st ps).2.chains.length ≤ st.chains.length + 1 := by
  unfold chainF
  split
  · simp
  · simp
  · split <;> simp
theorem chainF_rows (st : BSt) (ps : List Int) : (chainF st ps).2.rows = st.rows := by
  unfold chainF
  split
  · rfl
  · rfl
  · split <;> rfl
theorem kd_kind {k : Key} {kd : Nat} (h : k.kd = kd) (hk : kd = 51 ∨ kd = 53) : keyKind theP k.snd = some (if kd = 51 then 2 else 1) := by
  cases k <;> simp [Key.kd] at h <;> subst h <;> simp at hk <;> rfl
section
variable {d N c B : Nat} {st : BSt} {H : AHeap} {ρ : Loc} {keys : List Key}
theorem r_kd {k : Key} {e : ME} (h : evE theP d e ρ H = some (k.av, H)) : evE theP d (.sub e (.lit (.int 0))) ρ H = some (.sym k.kd, H) := by
  cases k <;> exact r_sub h r_lit (sub_t rfl)
theorem r_snd {k : Key} {e : ME} (hk : k.kd = 51 ∨ k.kd = 53) (h : evE theP d e ρ H = some (k.av, H)) : evE theP d (.sub e (.lit (.int 1))) ρ H = some (k.snd, H) := by
  cases k <;> first | (simp [Key.kd] at hk; done) | exact r_sub h r_lit (sub_t rfl)
theorem kd_lt (k : Key) : k.kd < theP.syms := by show _ < 66; cases k <;> simp [Key.kd]
theorem dlook_any {α : Type} (f : α → AV) (g : α → AV) (l : List α) (k : AV) : (dlook (l.map fun p => (f p, g p)) k).isSome = l.any fun p => decide (f p = k) := by
  unfold dlook
  induction l with
  | nil => rfl
  | cons p l ih =>
    by_cases h : f p = k
    · simp [List.find?_cons, h]
    · simp only [List.map_cons, List.find?_cons, h, decide_false, List.any_cons, Bool.false_or]; exact ih

theorem tab_inv' (keys : List Key) (all : List Int) (kd : Nat) (hk : kd = 51 ∨ kd = 53) : ∀ (l : List Int) (s : List (AV × Int) × BSt), (l.foldl (tabStep keys all kd) s).1.length ≤ s.1.length + l.length ∧ (l.foldl (tabStep keys all kd) s).2.chains.length ≤ s.2.chains.length + l.length ∧
    (l.foldl (tabStep keys all kd) s).2.rows = s.2.rows ∧ ((∀ p ∈ s.1, keyKind theP p.1 = some (if kd = 51 then 2 else 1)) → ∀ p ∈ (l.foldl (tabStep keys all kd) s).1, keyKind theP p.1 = some (if kd = 51 then 2 else 1)) := by
  intro l
  induction l with
  | nil => intro s; exact ⟨by simp, by simp, rfl, fun h => h⟩
  | cons x l ih =>
    intro s
    obtain ⟨h1, h2, h3, h4⟩ := ih (tabStep keys all kd s x)
    have q : (tabStep keys all kd s x).1.length ≤ s.1.length + 1 ∧ (tabStep keys all kd s x).2.chains.length ≤ s.2.chains.length + 1 ∧ (tabStep keys all kd s x).2.rows = s.2.rows ∧ ((∀ p ∈ s.1, keyKind theP p.1 = some (if kd = 51 then 2 else 1)) → ∀ p ∈ (tabStep keys all kd s x).1, keyKind theP p.1 = some (if kd = 51 then 2 else 1)) := by
      unfold tabStep
      split
      · rename_i hc
        refine ⟨by simp, chainF_len _ _, chainF_rows _ _, fun h p hp => ?_⟩
        simp at hp
        rcases hp with hp | rfl
        · exact h p hp
        · exact kd_kind hc.1 hk
      · exact ⟨by omega, by omega, rfl, fun h => h⟩
    simp only [List.foldl_cons, List.length_cons]
    exact ⟨by omega, by omega, h3.trans q.2.2.1, fun h => h4 (q.2.2.2 h)⟩
theorem tab_inv (keys : List Key) (all : List Int) (kd : Nat) (hk : kd = 51 ∨ kd = 53) (st : BSt) (l : List Int) : (l.foldl (tabStep keys all kd) ([], st)).1.length ≤ l.length ∧ (l.foldl (tabStep keys all kd) ([], st)).2.chains.length ≤ st.chains.length + l.length ∧
    (l.foldl (tabStep keys all kd) ([], st)).2.rows = st.rows ∧ ∀ p ∈ (l.foldl (tabStep keys all kd) ([], st)).1, keyKind theP p.1 = some (if kd = 51 then 2 else 1) := by
  have := tab_inv' keys all kd hk l ([], st)
  exact ⟨by simpa using this.1, this.2.1, this.2.2.1, this.2.2.2 (by simp)⟩
theorem get_last1 {H : AHeap} {a b : AObj} : (H ++ [a] ++ [b])[H.length]? = some a := by simp
theorem get_last2 {H : AHeap} {a b : AObj} : (H ++ [a] ++ [b])[H.length + 1]? = some b := by simp

noncomputable def tabBody : List MS := [.asg 6 (.attr (.sub (.attr (.loc 0) 39) (.loc 5)) 37),
   .ifs (.ands [(.cmp .eq (.sub (.loc 6) (.lit (.int 0))) (.loc 2)), (.cmp .notin (.sub (.loc 6) (.lit (.int 1))) (.loc 4))]) [.sitem (.loc 4) (.sub (.loc 6) (.lit (.int 1))) (.lit (.bool true)),
    .expr (.append (.loc 3) (.tup [(.sub (.loc 6) (.lit (.int 1))), (.meth (.loc 0) 49 [(.meth (.loc 0) 48 [(.loc 1), (.loc 6)])])]))] []]

theorem b_table (h : BS H N c st) (hc : CS H B c keys) (hB : B ≤ N) (hn : keys.length < big) {p : Nat} {ps : List Int} (hp : H[p]? = some (.list (ps.map AV.int))) (ho : p < N ∨ N + 3 < p) (hr : InR keys ps) (hl : st.chains.length + ps.length < big) {kd : Nat} (hk : kd = 51 ∨ kd = 53) :
    ∃ H', callF theP (d + 3) 15 [.obj N, .obj p, .sym kd] H = some (.tup ((tableF keys st ps kd).1.map pairAv), H') ∧ BS H' N c (tableF keys st ps kd).2 ∧ Fr N H H' := by
  have hN := get_lt h.kn
  have hks : kd < theP.syms := by rcases hk with rfl | rfl <;> decide
  obtain ⟨ρ', H', e, e1, e2, e3, e4, e5⟩ := for_lst (P := theP) (d := d + 2) (x := 5) (o := p) (kill := [5, 6]) (body := tabBody) (l := ps.map AV.int)
    (fun i ρ Hh => ρ = [some (.obj N), some (.obj p), some (.sym kd), some (.obj H.length), some (.obj (H.length + 1)), none, none] ∧ BS Hh N c ((ps.take i).foldl (tabStep keys ps kd) ([], st)).2 ∧ Fr N H Hh ∧
      Hh[H.length]? = some (.list (((ps.take i).foldl (tabStep keys ps kd) ([], st)).1.map pairAv)) ∧ Hh[H.length + 1]? = some (.dict (((ps.take i).foldl (tabStep keys ps kd) ([], st)).1.map fun p => (p.1, AV.bool true))))
    (fun i ρ Hh hI => hI.2.2.1.same _ _ hp ho)
    (fun i v ρ Hh hv hI => by
      obtain ⟨rfl, hb, hf, hT, hS⟩ := hI
      obtain ⟨x, hx, rfl⟩ : ∃ x, ps[i]? = some x ∧ AV.int x = v := by simpa using hv
      have hm := hr x (List.mem_of_getElem? hx)
      have hil := (List.getElem?_eq_some_iff.mp hx).1
      have ht : (ps.take (i + 1)).foldl (tabStep keys ps kd) ([], st) = tabStep keys ps kd ((ps.take i).foldl (tabStep keys ps kd) ([], st)) x := by rw [take_more hx, List.foldl_append]; rfl
      rw [ht]
      have inv := tab_inv keys ps kd hk st (ps.take i)
      generalize (ps.take i).foldl (tabStep keys ps kd) ([], st) = s at hb hT hS inv
      obtain ⟨i1, i2, i3, i4⟩ := inv
      rw [List.length_take] at i1 i2
      have hcs := hc.fr hf hB
      have s1 := t_asg' (x := 6) (r_code (d := d + 2) (ρ := [some (.obj N), some (.obj p), some (.sym kd), some (.obj H.length), some (.obj (H.length + 1)), some (.int x), none]) hcs hn hm.1 hm.2 (r_codes hb rfl) (r_loc (x := 5) rfl))
      have kk := r_loc (P := theP) (d := d + 2) (H := Hh) (ρ := [some (.obj N), some (.obj p), some (.sym kd), some (.obj H.length), some (.obj (H.length + 1)), some (.int x), some (kat keys x).av]) (x := 6) (v := (kat keys x).av) rfl
      have c1 := r_cmp (r_kd kk) (r_loc (x := 2) rfl) (c_sym (kd_lt _) hks)
      by_cases h1 : (kat keys x).kd = kd
      · rw [decide_eq_true h1] at c1
        have sn := r_snd (by rw [h1]; exact hk) kk
        have fits : keyFits theP (s.1.map fun p => (p.1, AV.bool true)) (kat keys x).snd = true := by
          unfold keyFits
          rw [kd_kind h1 hk]
          simp only [Option.isSome_some, Bool.true_and, List.all_map, List.all_eq_true]
          intro q hq
          show (keyKind theP q.1 == some _) = true
          rw [i4 q hq]; simp
        have c2 := r_cmp (P := theP) sn (r_loc (x := 4) rfl) (show cmpOf theP Hh .notin (kat keys x).snd (.obj (H.length + 1)) = some (!(s.1.any fun p => decide (p.1 = (kat keys x).snd))) by
          simp only [cmpOf, inOf, hS, fits, if_true, Option.map_some, dlook_any (fun p : AV × Int => p.1) (fun _ => AV.bool true)])
        have c3 := r_ands (and_t c1 (and_one c2))
        cases h2 : (s.1.any fun p => decide (p.1 = (kat keys x).snd)) with
        | true =>
          rw [h2] at c3
          have : tabStep keys ps kd s x = s := by unfold tabStep; rw [if_neg (by simp [h2])]
          rw [this]
          exact ⟨_, _, s_next s1 (s_next (t_ifF c3 s_nil) s_nil), rfl, hb, hf, hT, hS⟩
        | false =>
          rw [h2] at c3
          have hst : tabStep keys ps kd s x = (s.1 ++ [((kat keys x).snd, (chainF s.2 (matchP keys ps (kat keys x))).1)], (chainF s.2 (matchP keys ps (kat keys x))).2) := by unfold tabStep; rw [if_pos ⟨h1, h2⟩]
          rw [hst]
          have s2 := t_sitem' (P := theP) (r_lit (v := .bool true)) (r_loc (x := 4) rfl) sn hS fits (by rw [List.length_map]; omega)
          have put : dput (s.1.map fun p => (p.1, AV.bool true)) (kat keys x).snd (.bool true) = (s.1 ++ [((kat keys x).snd, (chainF s.2 (matchP keys ps (kat keys x))).1)]).map fun p => (p.1, AV.bool true) := by
            unfold dput
            rw [dlook_any (fun p : AV × Int => p.1) (fun _ => AV.bool true), h2]; simp
          rw [put] at s2
          generalize hH2 : Hh.set (H.length + 1) (.dict ((s.1 ++ [((kat keys x).snd, (chainF s.2 (matchP keys ps (kat keys x))).1)]).map fun p => (p.1, AV.bool true))) = H2 at s2
          have f2 : ∀ j o, j ≠ H.length + 1 → Hh[j]? = some o → H2[j]? = some o := fun j o hj e => hH2 ▸ get_set_ne e (fun z => hj z.symm)
          have hS2 : H2[H.length + 1]? = some (.dict ((s.1 ++ [((kat keys x).snd, (chainF s.2 (matchP keys ps (kat keys x))).1)]).map fun p => (p.1, AV.bool true))) := hH2 ▸ get_set hS
          have hb2 : BS H2 N c s.2 := ⟨f2 _ _ (by omega) hb.b, f2 _ _ (by omega) hb.r, f2 _ _ (by omega) hb.ch, f2 _ _ (by omega) hb.kn⟩
          have hf2 : Fr N H H2 := ⟨by have := hf.len; rw [← hH2, List.length_set]; exact this, fun j o e hj => f2 j o (by have := get_lt e; omega) (hf.same j o e hj)⟩
          have hcs2 := hc.fr hf2 hB
          have hT2 := f2 _ _ (by omega) hT
          have m1 := b_match (d := d) hb2 hcs2 hn (hf2.same _ _ hp ho) hr (by omega) (kat keys x)
          obtain ⟨H3, m2, hb3, hf3⟩ := b_chain (d := d) (hb2.app (l := [.list ((matchP keys ps (kat keys x)).map AV.int)])) (p := H2.length) (ps := matchP keys ps (kat keys x)) get_last (.inr (by have := hf2.len; omega)) (by have := len_filter ps fun p => fit (kat keys p) (kat keys x); unfold matchP; omega) (by omega)
          have kk2 := r_loc (P := theP) (d := d + 2) (H := H2) (ρ := [some (.obj N), some (.obj p), some (.sym kd), some (.obj H.length), some (.obj (H.length + 1)), some (.int x), some (kat keys x).av]) (x := 6) (v := (kat keys x).av) rfl
          have sn2 := r_snd (by rw [h1]; exact hk) kk2
          have hf23 : Fr N H2 H3 := Fr.app.trans hf3
          have hT3 := hf23.same _ _ hT2 (.inr (by omega))
          have s3 := t_expr' (r_append (P := theP) (d := d + 2) (e := .loc 3) (r_loc (x := 3) rfl) hT2 (r_tup (rl_cons sn2 (rl_cons (r_meth (n := 49) (r_loc (x := 0) rfl) hb2.b (rl_cons (r_meth (n := 48) (r_loc (x := 0) rfl) hb2.b (rl_cons (r_loc (x := 1) rfl) (rl_cons kk2 rl_nil)) rfl rfl m1) rl_nil) rfl rfl m2) rl_nil)) (show 2 < big by decide)) hT3 (by rw [List.length_map]; omega)) rfl
          have hN3 : N + 3 < H.length := hN
          refine ⟨_, _, s_next s1 (s_next (t_ifT c3 (s_next s2 (s_next s3 s_nil))) s_nil), rfl, ?_, ?_, ?_, ?_⟩
          · exact ⟨get_set_ne hb3.b (by omega), get_set_ne hb3.r (by omega), get_set_ne hb3.ch (by omega), get_set_ne hb3.kn (by omega)⟩
          · refine ⟨by rw [List.length_set]; exact (hf2.trans hf23).len, fun j o e hj => get_set_ne ((hf2.trans hf23).same j o e hj) (by have := get_lt e; omega)⟩
          · rw [get_set hT3]; simp [pairAv]
          · exact get_set_ne (hf23.same _ _ hS2 (.inr (by omega))) (by omega)
      · rw [decide_eq_false h1] at c1
        have : tabStep keys ps kd s x = s := by unfold tabStep; rw [if_neg (by simp [h1])]
        rw [this]
        exact ⟨_, _, s_next s1 (s_next (t_ifF (r_ands (and_f c1)) s_nil) s_nil), rfl, hb, hf, hT, hS⟩)
    ps.length 0 _ (H ++ [.list []] ++ [.dict []]) (by simp) ⟨rfl, h.app.app, Fr.app.trans Fr.app, get_last1, get_last2⟩
  rw [List.length_map, List.take_length] at e2 e4 e5
  subst e1
  have hd := t_asg' (x := 4) (r_dict0 (P := theP) (d := d + 2) (ρ := [some (.obj N), some (.obj p), some (.sym kd), some (.obj H.length), none, none, none]) (H := H ++ [.list []]))
  have hl1 : (H ++ [AObj.list []]).length = H.length + 1 := by simp
  rw [hl1] at hd
  refine ⟨H', k_ret rfl rfl (s_next (t_asg' (r_list rl_nil (show 0 < big by decide))) (s_next hd (s_next (t_for' (ri_lst (r_loc rfl) (get_app (get_app hp))) e) (s_ret (t_ret' (r_tupOf (r_loc (x := 3) rfl) e4 ?_)))))), e2, e3⟩
  have : (tableF keys st ps kd).1.length ≤ ps.length := (tab_inv keys ps kd hk st ps).1
  rw [List.length_map]; omega
end
end Mini
end

noncomputable section -- PB5
set_option autoImplicit false
set_option linter.unusedVariables false
set_option linter.unusedSimpArgs false
namespace Mini
noncomputable def SeqAt (H : AHeap) (v : AV) (ps : List Int) : Prop := (∃ p, v = .obj p ∧ H[p]? = some (.list (ps.map AV.int))) ∨ v = .tup (ps.map AV.int)
theorem SeqAt.len {H : AHeap} {v : AV} {ps : List Int} (h : SeqAt H v ps) (hl : ps.length < big) : lenOf H v = some (ps.length : Int) := by
  rcases h with ⟨p, rfl, h⟩ | rfl
  · simpa using len_l h (by simpa using hl)
  · simpa using len_t (H := H) (l := ps.map AV.int) (by simpa using hl)
theorem SeqAt.sub {H : AHeap} {v : AV} {ps : List Int} (h : SeqAt H v ps) (hl : ps.length < big) {i : Int} {x : Int} (h0 : 0 ≤ i) (hx : ps[i.toNat]? = some x) : subOf theP H v (.int i) = some (.int x) := by
  have hi := (List.getElem?_eq_some_iff.mp hx).1
  have : idx i (ps.map AV.int) = some (.int x) := idx_nat h0 (by unfold big at hl; omega) (by simp [hx])
  rcases h with ⟨p, rfl, h⟩ | rfl
  · exact sub_l h this
  · exact sub_t this
theorem SeqAt.app {H : AHeap} {v : AV} {ps : List Int} {l : List AObj} (h : SeqAt H v ps) : SeqAt (H ++ l) v ps := by
  rcases h with ⟨p, rfl, h⟩ | rfl
  · exact .inl ⟨p, rfl, get_app h⟩
  · exact .inr rfl

noncomputable def restRows : List Int → List Row
  | [] => []
  | [y] => [.trust y]
  | y :: z :: r => .retry y :: restRows (z :: r)
noncomputable def chainRows (ar : Int) : List Int → List Row
  | [] => []
  | x :: ps => .tri x ar :: restRows ps
theorem rests (ps : List Int) {z : Int} : (ps.map Row.retry) ++ [.trust z] = restRows (ps ++ [z]) := by
  induction ps with
  | nil => rfl
  | cons y ps ih =>
    cases ps with
    | nil => rfl
    | cons w ps => rw [List.map_cons, List.cons_append, ih]; rfl
theorem chainRows_len (ar : Int) (ps : List Int) : (chainRows ar ps).length = ps.length := by
  cases ps with
  | nil => rfl
  | cons x ps =>
    have : ∀ ps : List Int, (restRows ps).length = ps.length := by
      intro ps
      induction ps with
      | nil => rfl
      | cons y ps ih => cases ps with
        | nil => rfl
        | cons w ps => simp [restRows] at ih ⊢; exact ih
    simp [chainRows, this]
theorem rints_get {a b : Int} {i : Nat} {v : AV} (h : (rints a b)[i]? = some v) : v = .int (a + i) ∧ a + i < b := by
  unfold rints at h
  rw [List.getElem?_map] at h
  obtain ⟨j, hj, rfl⟩ := Option.map_eq_some_iff.mp h
  obtain ⟨h1, h2⟩ := List.getElem?_eq_some_iff.mp hj
  simp at h1 h2
  subst h2
  exact ⟨rfl, by omega⟩
theorem rints_len (a b : Int) : (rints a b).length = (b - a).toNat := by simp [rints]

section
variable {d N c B : Nat} {st : BSt} {H : AHeap} {ρ : Loc} {keys : List Key}

theorem b_rows (h : BS H N c st) {v : AV} {ps : List Int} (hv : SeqAt H v ps) (h2 : 2 ≤ ps.length) (hl : ps.length < big) :
    callF theP (d + 1) 11 [.obj N, v] H = some (.obj H.length, H ++ [.list ((chainRows st.ar ps).map Row.av)]) := by
  obtain ⟨x, ps, rfl⟩ : ∃ x qs, ps = x :: qs := by cases ps with | nil => simp at h2 | cons x qs => exact ⟨x, qs, rfl⟩
  obtain ⟨ps, z, rfl⟩ : ∃ qs z, ps = qs ++ [z] := ⟨ps.dropLast, ps.getLast (by intro q; subst q; simp at h2), (List.dropLast_concat_getLast _).symm⟩
  have hlen : (((x :: (ps ++ [z])).length : Nat) : Int) - 1 = (ps.length : Int) + 1 := by simp
  obtain ⟨ρ', H', e, e1, e2⟩ := for_vals (P := theP) (d := d) (x := 4) (kill := [4]) (body := [.expr (.append (.loc 2) (.tup [(.lit (.sym 45)), (.sub (.loc 1) (.loc 4))]))]) (l := rints 1 ((((x :: (ps ++ [z])).length : Nat) : Int) - 1))
    (fun i ρ Hh => ρ = [some (.obj N), some v, some (.obj H.length), some (.int ((((x :: (ps ++ [z])).length : Nat) : Int) - 1)), none] ∧ Hh = H ++ [.list ((.tri x st.ar :: (ps.take i).map Row.retry).map Row.av)])
    (fun i w ρ Hh hw hI => by
      obtain ⟨rfl, rfl⟩ := hI
      obtain ⟨rfl, hi⟩ := rints_get hw
      rw [hlen] at hi
      have hi' : i < ps.length := by omega
      have hg : ps[i]? = some ps[i] := by simp [hi']
      have sx := SeqAt.sub (hv.app (l := [.list ((.tri x st.ar :: (ps.take i).map Row.retry).map Row.av)])) hl (i := 1 + (i : Int)) (x := ps[i]) (by omega) (by
        have : (1 + (i : Int)).toNat = i + 1 := by omega
        rw [this, List.getElem?_cons_succ, List.getElem?_append_left hi', hg])
      refine ⟨_, _, s_next (t_expr' (r_append (r_loc (x := 2) rfl) get_last (r_tup (rl_cons r_lit (rl_cons (r_sub (r_loc (x := 1) rfl) (r_loc (x := 4) rfl) sx) rl_nil)) (show 2 < big by decide)) get_last ?_) rfl) s_nil, rfl, ?_⟩
      · simp only [List.length_map, List.length_cons, List.length_take, List.length_append, List.length_nil] at hl ⊢; omega
      · rw [set_last, take_more hg]; simp only [List.map_cons, List.map_append, List.map_nil, List.cons_append]; rfl)
    ps.length 0 _ _ (by rw [rints_len, hlen]; omega) ⟨rfl, rfl⟩
  have e2 : H' = H ++ [.list ((.tri x st.ar :: ps.map Row.retry).map Row.av)] := by
    rw [e2, rints_len, hlen]
    have : ((ps.length : Int) + 1 - 1).toNat = ps.length := by omega
    rw [this, List.take_length]
  subst e1 e2
  have a0 := hv.sub hl (i := 0) (x := x) (by omega) rfl
  have ln := (hv.app (l := [.list [(Row.tri x st.ar).av]])).len hl
  have s1 := t_asg' (x := 2) (r_list (P := theP) (d := d) (ρ := [some (.obj N), some v, none, none, none]) (rl_cons (r_tup (rl_cons (r_lit (v := .sym 44)) (rl_cons (r_sub (r_loc (x := 1) rfl) r_lit a0) (rl_cons (r_attr (n := 38) (r_loc (x := 0) rfl) (at_of h.b rfl rfl)) rl_nil))) (show 3 < big by decide)) rl_nil) (show 1 < big by decide))
  have s2 := t_asg' (x := 3) (r_bin (o := .sub) (r_len (P := theP) (d := d) (ρ := [some (.obj N), some v, some (.obj H.length), none, none]) (H := H ++ [.list [(Row.tri x st.ar).av]]) (r_loc (x := 1) rfl) ln) (r_lit (v := .int 1)) rfl)
  have az := SeqAt.sub (hv.app (l := [.list ((.tri x st.ar :: ps.map Row.retry).map Row.av)])) hl (i := (((x :: (ps ++ [z])).length : Nat) : Int) - 1) (x := z) (by omega) (by
    rw [hlen]; have : ((ps.length : Int) + 1).toNat = ps.length + 1 := by omega
    rw [this]; simp)
  have s4 := t_expr' (r_append (P := theP) (d := d) (ρ := [some (.obj N), some v, some (.obj H.length), some (.int ((((x :: (ps ++ [z])).length : Nat) : Int) - 1)), none]) (r_loc (x := 2) rfl) get_last (r_tup (rl_cons (r_lit (v := .sym 46)) (rl_cons (r_sub (r_loc (x := 1) rfl) (r_loc (x := 3) rfl) az) rl_nil)) (show 2 < big by decide)) get_last (by simp at hl ⊢; omega)) rfl
  have fin : (Row.tri x st.ar :: ps.map Row.retry).map Row.av ++ [.tup [.sym 46, .int z]] = (chainRows st.ar (x :: (ps ++ [z]))).map Row.av := by
    show _ = ((Row.tri x st.ar :: restRows (ps ++ [z])).map Row.av)
    rw [← rests]; simp [Row.av]
  rw [set_last, fin] at s4
  exact k_ret rfl rfl (s_next s1 (s_next s2 (s_next (t_for' (ri_range2 r_lit (r_loc (x := 3) rfl) (by rw [hlen]; simp at hl; refine ⟨by omega, by decide, by omega, by unfold big at *; omega⟩)) e) (s_next s4 (s_ret (t_ret' (r_loc (x := 2) rfl)))))))

theorem b_push {H₁ : AHeap} {st₁ : BSt} {bi : Nat} {e : ME} {row : Row} (h : BS H N c st) (hb : ρ[bi]? = some (some (.obj N))) (he : evE theP d e ρ H = some (row.av, H₁)) (h₁ : BS H₁ N c st₁) (hl : st₁.rows.length < big) :
    ∃ H', evS theP d (.expr (.append (.attr (.loc bi) 40) e)) ρ H = some (.next, ρ, H') ∧ BS H' N c { st₁ with rows := st₁.rows ++ [row] } ∧ Fr N H₁ H' := by
  refine ⟨_, t_expr' (r_append (r_attr (r_loc hb) (at_of h.b rfl rfl)) h.r he h₁.r (by simpa using hl)) rfl, ⟨get_set_ne h₁.b (by omega), ?_, get_set_ne h₁.ch (by omega), get_set_ne h₁.kn (by omega)⟩, .set (by omega) (by omega)⟩
  rw [get_set h₁.r]; simp
theorem set_back {ρ : Loc} {x : Nat} {v : AV} (h : ρ[x]? = some none) : (ρ.set x (some v)).set x none = ρ := by
  rw [List.set_set]
  obtain ⟨h1, h2⟩ := List.getElem?_eq_some_iff.mp h
  rw [← h2]; exact List.set_getElem_self h1
theorem b_addrows (h : BS H N c st) {bi xi T : Nat} {rs : List Row} (hT : H[T]? = some (.list (rs.map Row.av))) (ho : T < N ∨ N + 3 < T) (hl : st.rows.length + rs.length < big) (hb : ρ[bi]? = some (some (.obj N))) (hx : ρ[xi]? = some none) (hne : xi ≠ bi) :
    ∃ H', evFor theP d (xi, [xi], [.expr (.append (.attr (.loc bi) 40) (.loc xi))]) (.lst T) 0 ρ H = some (.next, ρ, H') ∧ BS H' N c { st with rows := st.rows ++ rs } ∧ Fr N H H' := by
  have hxl := (List.getElem?_eq_some_iff.mp hx).1
  obtain ⟨ρ', H', e, e1, e2, e3⟩ := for_lst (P := theP) (d := d) (x := xi) (o := T) (kill := [xi]) (body := [.expr (.append (.attr (.loc bi) 40) (.loc xi))]) (l := rs.map Row.av)
    (fun i ρ' Hh => ρ' = ρ ∧ BS Hh N c { st with rows := st.rows ++ rs.take i } ∧ Fr N H Hh)
    (fun i ρ' Hh hI => hI.2.2.same _ _ hT ho)
    (fun i w ρ' Hh hw hI => by
      obtain ⟨rfl, hb', hf⟩ := hI
      obtain ⟨r, hr, rfl⟩ : ∃ r, rs[i]? = some r ∧ r.av = w := by simpa using hw
      have hi := (List.getElem?_eq_some_iff.mp hr).1
      obtain ⟨H1, p1, p2, p3⟩ := b_push (d := d) (ρ := ρ'.set xi (some r.av)) (bi := bi) (e := .loc xi) (row := r) hb' (by rw [List.getElem?_set_ne hne]; exact hb) (r_loc (by rw [List.getElem?_set_self hxl])) hb' (by simp; omega)
      refine ⟨_, _, s_next p1 s_nil, set_back hx, ?_, hf.trans p3⟩
      have : ({ st with rows := st.rows ++ rs.take (i + 1) } : BSt) = { ({ st with rows := st.rows ++ rs.take i } : BSt) with rows := (st.rows ++ rs.take i) ++ [r] } := by rw [take_more hr]; simp
      rw [this]; exact p2)
    rs.length 0 ρ H (by simp) ⟨rfl, by simpa using h, .refl⟩
  rw [List.length_map, List.take_length] at e2
  subst e1
  exact ⟨H', e, e2, e3⟩
end
end Mini
end

noncomputable section -- PB6
set_option autoImplicit false
set_option linter.unusedVariables false
set_option linter.unusedSimpArgs false
namespace Mini
theorem flatMap_len {α β : Type} {f : α → List β} {K : Nat} : ∀ {l : List α}, (∀ p ∈ l, (f p).length ≤ K) → (l.flatMap f).length ≤ l.length * K
  | [], _ => by simp
  | a :: l, h => by
    have h1 := h a List.mem_cons_self
    have h2 := flatMap_len (l := l) fun p hp => h p (List.mem_cons_of_mem _ hp)
    simp only [List.flatMap_cons, List.length_append, List.length_cons, Nat.succ_mul]; omega
noncomputable def chainBlk (ar : Int) (p : Int × List Int) : List Row := .lab p.1 :: chainRows ar p.2
noncomputable def codeBlk (i : Nat) : List Row := [.lab (i : Int), .exec (i : Int)]
noncomputable def finishRows (st : BSt) (m : Nat) : List Row := st.rows ++ st.chains.flatMap (chainBlk st.ar) ++ (List.range m).flatMap codeBlk

section
variable {d N c B : Nat} {st : BSt} {H : AHeap} {ρ : Loc} {keys : List Key}

theorem b_finish (h : BS H N c st) (hc : CS H B c keys) (hB : B ≤ N) (hn : keys.length < big) {M : Nat} (hch : ∀ p ∈ st.chains, 2 ≤ p.2.length ∧ p.2.length ≤ M) (hM : M < big) (hl : st.rows.length + st.chains.length * (M + 1) + 2 * keys.length < big) :
    ∃ H', callF theP (d + 2) 17 [.obj N] H = some (.obj (N + 1), H') ∧ H'[N + 1]? = some (.list ((finishRows st keys.length).map Row.av)) ∧ Fr N H H' := by
  have hlen1 : ∀ i, i ≤ st.chains.length → ((st.chains.take i).flatMap (chainBlk st.ar)).length ≤ i * (M + 1) := fun i hi => by
    have := flatMap_len (f := chainBlk st.ar) (K := M + 1) (l := st.chains.take i) fun p hp => by
      have := hch p (List.mem_of_mem_take hp)
      simp [chainBlk, chainRows_len]; exact this.2
    rwa [List.length_take, Nat.min_eq_left hi] at this
  have hlen2 : ∀ i, ((List.range i).flatMap codeBlk).length ≤ i * 2 := fun i => by
    have := flatMap_len (f := codeBlk) (K := 2) (l := List.range i) fun p hp => by simp [codeBlk]
    rwa [List.length_range] at this
  have hmul : ∀ i, i < st.chains.length → i * (M + 1) + (M + 1) ≤ st.chains.length * (M + 1) := fun i hi => by
    have := Nat.mul_le_mul_right (M + 1) (show i + 1 ≤ st.chains.length by omega)
    rwa [Nat.succ_mul] at this
  obtain ⟨ρ₁, H₁, e, e1, e2, e3⟩ := for_lst (P := theP) (d := d + 1) (x := 1) (o := N + 2) (kill := [1, 2]) (body := [.expr (.append (.attr (.loc 0) 40) (.tup [(.lit (.sym 56)), (.sub (.loc 1) (.lit (.int 0)))])),
      .for_ 2 (.e (.meth (.loc 0) 59 [(.sub (.loc 1) (.lit (.int 1)))])) [2] [.expr (.append (.attr (.loc 0) 40) (.loc 2))]]) (l := st.chains.map chAv)
    (fun i ρ Hh => ρ = [some (.obj N), none, none, none] ∧ BS Hh N c { st with rows := st.rows ++ (st.chains.take i).flatMap (chainBlk st.ar) } ∧ Fr N H Hh)
    (fun i ρ Hh hI => hI.2.1.ch)
    (fun i v ρ Hh hv hI => by
      obtain ⟨rfl, hb, hf⟩ := hI
      obtain ⟨p, hp, rfl⟩ : ∃ p, st.chains[i]? = some p ∧ chAv p = v := by simpa using hv
      have hi := (List.getElem?_eq_some_iff.mp hp).1
      have hpm := hch p (List.mem_of_getElem? hp)
      have l1 := hlen1 i (by omega)
      have l2 := hmul i hi
      obtain ⟨H2, p1, p2, p3⟩ := b_push (d := d + 1) (ρ := [some (.obj N), some (chAv p), none, none]) (bi := 0) (e := .tup [(.lit (.sym 56)), (.sub (.loc 1) (.lit (.int 0)))]) (row := .lab p.1) hb rfl (r_tup (rl_cons r_lit (rl_cons (r_sub (r_loc (x := 1) rfl) r_lit (sub_t rfl)) rl_nil)) (show 2 < big by decide)) hb (by simp only [List.length_append]; omega)
      have rows := b_rows (d := d) p2 (v := .tup (p.2.map AV.int)) (.inr rfl) hpm.1 (by omega)
      obtain ⟨H3, q1, q2, q3⟩ := b_addrows (d := d + 1) (ρ := [some (.obj N), some (chAv p), none, none]) (p2.app (l := [.list ((chainRows st.ar p.2).map Row.av)])) (bi := 0) (xi := 2) (T := H2.length) get_last (.inr (get_lt p2.kn)) (by rw [chainRows_len]; simp only [List.length_append, List.length_cons, List.length_nil]; omega) rfl rfl (by decide)
      refine ⟨_, _, s_next p1 (s_next (t_for' (ri_lst (r_meth (n := 59) (r_loc (x := 0) rfl) p2.b (rl_cons (r_sub (r_loc (x := 1) rfl) r_lit (sub_t rfl)) rl_nil) rfl rfl rows) get_last) q1) s_nil), rfl, ?_, hf.trans (p3.trans (Fr.app.trans q3))⟩
      have : ({ st with rows := st.rows ++ (st.chains.take (i + 1)).flatMap (chainBlk st.ar) } : BSt) = { st with rows := ((st.rows ++ (st.chains.take i).flatMap (chainBlk st.ar)) ++ [.lab p.1]) ++ chainRows st.ar p.2 } := by
        rw [take_more hp, List.flatMap_append]; simp [chainBlk]
      rw [this]; exact q2)
    st.chains.length 0 [some (.obj N), none, none, none] H (by simp) ⟨rfl, by simpa using h, .refl⟩
  rw [List.length_map, List.take_length] at e2
  subst e1
  have l1 := hlen1 st.chains.length (Nat.le_refl _)
  rw [List.take_length] at l1
  have hc₁ := hc.fr e3 hB
  have hclen : lenOf H₁ (.obj c) = some (keys.length : Int) := by
    obtain ⟨_, ids, i1, i2, _⟩ := hc₁
    have := len_l i2 (by rw [List.length_map, i1]; exact hn)
    rwa [List.length_map, i1] at this
  obtain ⟨ρ₂, H₂, f, f1, f2, f3⟩ := for_vals (P := theP) (d := d + 1) (x := 3) (kill := [2, 3]) (body := [.expr (.append (.attr (.loc 0) 40) (.tup [(.lit (.sym 56)), (.loc 3)])),
      .for_ 2 (.e (.attr (.sub (.attr (.loc 0) 39) (.loc 3)) 60)) [2] [.expr (.append (.attr (.loc 0) 40) (.loc 2))]]) (l := rints 0 (keys.length : Int))
    (fun i ρ Hh => ρ = [some (.obj N), none, none, none] ∧ BS Hh N c { st with rows := st.rows ++ st.chains.flatMap (chainBlk st.ar) ++ (List.range i).flatMap codeBlk } ∧ Fr N H Hh)
    (fun i v ρ Hh hv hI => by
      obtain ⟨rfl, hb, hf⟩ := hI
      obtain ⟨rfl, hi⟩ := rints_get hv
      have hi' : i < keys.length := by omega
      rw [Int.zero_add]
      have l2 := hlen2 i
      obtain ⟨H2, p1, p2, p3⟩ := b_push (d := d + 1) (ρ := [some (.obj N), none, none, some (.int (i : Int))]) (bi := 0) (e := .tup [(.lit (.sym 56)), (.loc 3)]) (row := .lab (i : Int)) hb rfl (r_tup (rl_cons r_lit (rl_cons (r_loc (x := 3) rfl) rl_nil)) (show 2 < big by decide)) hb (by simp only [List.length_append]; omega)
      obtain ⟨id, q, a, b, g1, g2, g3, g4, g5⟩ := code_at (hc.fr (hf.trans p3) hB) hn (x := (i : Int)) (by omega) (by omega)
      obtain ⟨H3, q1, q2, q3⟩ := b_addrows (d := d + 1) (ρ := [some (.obj N), none, none, some (.int (i : Int))]) p2 (bi := 0) (xi := 2) (T := q) (rs := [.exec (i : Int)]) g5 (.inl (by omega)) (by simp only [List.length_append, List.length_cons, List.length_nil]; omega) rfl rfl (by decide)
      refine ⟨_, _, s_next p1 (s_next (t_for' (ri_lst (r_attr (r_sub (r_codes p2 rfl) (r_loc (x := 3) rfl) g3) (at_of g4 rfl rfl)) g5) q1) s_nil), rfl, ?_, hf.trans (p3.trans q3)⟩
      have : ({ st with rows := st.rows ++ st.chains.flatMap (chainBlk st.ar) ++ (List.range (i + 1)).flatMap codeBlk } : BSt) = { st with rows := ((st.rows ++ st.chains.flatMap (chainBlk st.ar) ++ (List.range i).flatMap codeBlk) ++ [.lab (i : Int)]) ++ [.exec (i : Int)] } := by
        rw [List.range_succ, List.flatMap_append]; simp [codeBlk]
      rw [this]; exact q2)
    keys.length 0 [some (.obj N), none, none, none] H₁ (by rw [rints_len]; omega) ⟨rfl, by simpa using e2, e3⟩
  subst f1
  have hlr : (rints 0 (keys.length : Int)).length = keys.length := by rw [rints_len]; omega
  rw [hlr] at f2
  exact ⟨H₂, k_ret rfl rfl (s_next (t_for' (ri_lst (r_attr (r_loc (x := 0) rfl) (at_of h.b rfl rfl)) h.ch) e) (s_next (t_for' (ri_range1 (r_len (r_attr (n := 39) (r_loc (x := 0) rfl) (at_of e2.b rfl rfl)) hclen) (by unfold big at *; omega)) f) (s_ret (t_ret' (r_attr (r_loc (x := 0) rfl) (at_of f2.b rfl rfl)))))), f2.r, f3⟩

noncomputable def freshIf (b : Bool) (dl : Int) (st : BSt) : Int × BSt := if b then (st.next, { st with next := st.next + 1 }) else (dl, st)
noncomputable def rowsIf (b : Bool) (rs : List Row) (st : BSt) : BSt := if b then { st with rows := st.rows ++ rs } else st
noncomputable def switchF (keys : List Key) (st : BSt) (ps : List Int) : BSt :=
  let r1 := chainF st (varP keys ps)
  let r2 := tableF keys r1.2 ps 51
  let r3 := tableF keys r2.2 ps 53
  let r4 := freshIf (decide (r2.1.length > 0)) r1.1 r3.2
  let r5 := freshIf (decide (r3.1.length > 0)) r1.1 r4.2
  let r6 := chainF r5.2 (matchP keys ps .list)
  let r7 := chainF r6.2 ps
  let s8 : BSt := { r7.2 with rows := r7.2.rows ++ [.sot r7.1 r4.1 r6.1 r5.1] }
  rowsIf (decide (r3.1.length > 0)) [.lab r5.1, .sos r3.1 r1.1] (rowsIf (decide (r2.1.length > 0)) [.lab r4.1, .soc r2.1 r1.1] s8)

theorem b_freshIf (h : BS H N c st) (hb0 : ρ[0]? = some (some (.obj N))) {xi ti : Nat} {prs : List (AV × Int)} {dl : Int} (ht : ρ[ti]? = some (some (.tup (prs.map pairAv)))) (hl : prs.length < big) (hx : ρ[xi]? = some (some (.int dl))) :
    ∃ H', evS theP (d + 1) (.ifs (.cmp .gt (.len (.loc ti)) (.lit (.int 0))) [.asg xi (.meth (.loc 0) 47 [])] []) ρ H = some (.next, ρ.set xi (some (.int (freshIf (decide (prs.length > 0)) dl st).1)), H') ∧ BS H' N c (freshIf (decide (prs.length > 0)) dl st).2 ∧ Fr N H H' := by
  have c1 := r_cmp (P := theP) (d := d + 1) (r_len (r_loc (H := H) ht) (len_t (by simpa using hl))) (r_lit (v := .int 0)) (show cmpOf theP H .gt _ _ = some (decide (((prs.map pairAv).length : Int) > 0)) from rfl)
  cases hd : decide (prs.length > 0) with
  | true =>
    have : decide (((prs.map pairAv).length : Int) > 0) = true := by simp at hd ⊢; omega
    rw [this] at c1
    obtain ⟨H', e1, e2, e3⟩ := b_fresh (d := d) h
    exact ⟨H', t_ifT c1 (s_next (t_asg' (r_meth (r_loc hb0) h.b rl_nil rfl rfl e1)) s_nil), e2, e3⟩
  | false =>
    have : decide (((prs.map pairAv).length : Int) > 0) = false := by simp at hd ⊢; omega
    rw [this] at c1
    refine ⟨H, ?_, h, .refl⟩
    obtain ⟨h1, h2⟩ := List.getElem?_eq_some_iff.mp hx
    have : ρ.set xi (some (.int (freshIf false dl st).1)) = ρ := by show ρ.set xi (some (.int dl)) = ρ; rw [← h2]; exact List.set_getElem_self h1
    rw [this]
    exact t_ifF c1 s_nil
theorem b_rowsIf (h : BS H N c st) (hb0 : ρ[0]? = some (some (.obj N))) {li ti di kd : Nat} {prs : List (AV × Int)} {l dl : Int} {row : Row} (ht : ρ[ti]? = some (some (.tup (prs.map pairAv)))) (hl : prs.length < big) (hx : ρ[li]? = some (some (.int l))) (hd' : ρ[di]? = some (some (.int dl)))
    (hrow : row.av = .tup [.sym kd, .tup (prs.map pairAv), .int dl]) (hr : st.rows.length + 2 < big) :
    ∃ H', evS theP d (.ifs (.cmp .gt (.len (.loc ti)) (.lit (.int 0))) [.expr (.append (.attr (.loc 0) 40) (.tup [(.lit (.sym 56)), (.loc li)])), .expr (.append (.attr (.loc 0) 40) (.tup [(.lit (.sym kd)), (.loc ti), (.loc di)]))] []) ρ H = some (.next, ρ, H') ∧
      BS H' N c (rowsIf (decide (prs.length > 0)) [.lab l, row] st) ∧ Fr N H H' := by
  have c1 := r_cmp (P := theP) (d := d) (r_len (r_loc (H := H) ht) (len_t (by simpa using hl))) (r_lit (v := .int 0)) (show cmpOf theP H .gt _ _ = some (decide (((prs.map pairAv).length : Int) > 0)) from rfl)
  cases hd : decide (prs.length > 0) with
  | true =>
    have : decide (((prs.map pairAv).length : Int) > 0) = true := by simp at hd ⊢; omega
    rw [this] at c1
    obtain ⟨H1, a1, a2, a3⟩ := b_push (d := d) (e := .tup [(.lit (.sym 56)), (.loc li)]) (row := .lab l) h hb0 (r_tup (rl_cons r_lit (rl_cons (r_loc hx) rl_nil)) (show 2 < big by decide)) h (by omega)
    obtain ⟨H2, b1, b2, b3⟩ := b_push (d := d) (e := .tup [(.lit (.sym kd)), (.loc ti), (.loc di)]) (row := row) a2 hb0 (by rw [hrow]; exact r_tup (rl_cons r_lit (rl_cons (r_loc ht) (rl_cons (r_loc hd') rl_nil))) (show 3 < big by decide)) a2 (by simp; omega)
    refine ⟨H2, t_ifT c1 (s_next a1 (s_next b1 s_nil)), ?_, a3.trans b3⟩
    have : rowsIf true [.lab l, row] st = { ({ st with rows := st.rows ++ [.lab l] } : BSt) with rows := (st.rows ++ [.lab l]) ++ [row] } := by simp [rowsIf]
    rw [this]; exact b2
  | false =>
    have : decide (((prs.map pairAv).length : Int) > 0) = false := by simp at hd ⊢; omega
    rw [this] at c1
    exact ⟨H, t_ifF c1 s_nil, h, .refl⟩
theorem tableF_inv (keys : List Key) (st : BSt) (ps : List Int) {kd : Nat} (hk : kd = 51 ∨ kd = 53) : (tableF keys st ps kd).1.length ≤ ps.length ∧ (tableF keys st ps kd).2.chains.length ≤ st.chains.length + ps.length ∧ (tableF keys st ps kd).2.rows = st.rows :=
  let z := tab_inv keys ps kd hk st ps; ⟨z.1, z.2.1, z.2.2.1⟩
theorem freshIf_same (b : Bool) (dl : Int) (st : BSt) : (freshIf b dl st).2.chains = st.chains ∧ (freshIf b dl st).2.rows = st.rows := by cases b <;> exact ⟨rfl, rfl⟩
end
end Mini
end

noncomputable section -- PB7
set_option autoImplicit false
set_option linter.unusedVariables false
set_option linter.unusedSimpArgs false
namespace Mini
section
variable {d N c B : Nat} {st : BSt} {H : AHeap} {ρ : Loc} {keys : List Key}

theorem r_chain (h : BS H N c st) {H₁ : AHeap} {q : Nat} {ps : List Int} {e : ME} (hb0 : ρ[0]? = some (some (.obj N))) (he : evE theP (d + 2) e ρ H = some (.obj q, H₁)) (h₁ : BS H₁ N c st) (hq : H₁[q]? = some (.list (ps.map AV.int))) (ho : q < N ∨ N + 3 < q) (hl : ps.length < big) (hc : st.chains.length < big) :
    ∃ H', evE theP (d + 2) (.meth (.loc 0) 49 [e]) ρ H = some (.int (chainF st ps).1, H') ∧ BS H' N c (chainF st ps).2 ∧ Fr N H₁ H' := by
  obtain ⟨H', e1, e2, e3⟩ := b_chain (d := d) h₁ hq ho hl hc
  exact ⟨H', r_meth (r_loc hb0) h.b (rl_cons he rl_nil) rfl rfl e1, e2, e3⟩

theorem b_switch (h : BS H N c st) (hc : CS H B c keys) (hB : B ≤ N) (hn : keys.length < big) {p : Nat} {ps : List Int} (hp : H[p]? = some (.list (ps.map AV.int))) (ho : p < N ∨ N + 3 < p) (hr : InR keys ps) (hl : st.chains.length + 2 * ps.length + 3 < big) (hrw : st.rows.length + 6 < big) :
    ∃ H', callF theP (d + 4) 16 [.obj N, .obj p] H = some (.none, H') ∧ BS H' N c (switchF keys st ps) ∧ Fr N H H' := by
  have hvl : (varP keys ps).length ≤ ps.length := len_filter _ _
  have hml : (matchP keys ps .list).length ≤ ps.length := len_filter _ _
  have hN := get_lt h.kn
  -- default
  have v1 := b_varp (d := d + 2) h hc hn hp hr (by omega)
  obtain ⟨H1, a1, a2, a3⟩ := r_chain (d := d + 1) (ρ := [some (.obj N), some (.obj p), none, none, none, none, none, none]) h rfl (r_meth (n := 50) (r_loc (x := 0) rfl) h.b (rl_cons (r_loc (x := 1) rfl) rl_nil) rfl rfl v1) h.app get_last (.inr hN) (by omega) (by omega)
  have f1 : Fr N H H1 := Fr.app.trans a3
  have k1 := chainF_len st (varP keys ps)
  have w1 := chainF_rows st (varP keys ps)
  generalize hr1 : chainF st (varP keys ps) = r1 at a1 a2 k1 w1
  -- the tables
  obtain ⟨H2, b1, b2, b3⟩ := b_table (d := d) a2 (hc.fr f1 hB) hB hn (f1.same _ _ hp ho) ho hr (by omega) (kd := 51) (.inl rfl)
  have f2 := f1.trans b3
  have k2 := tableF_inv keys r1.2 ps (kd := 51) (.inl rfl)
  generalize hr2 : tableF keys r1.2 ps 51 = r2 at b1 b2 k2
  obtain ⟨H3, c1, c2, c3⟩ := b_table (d := d) b2 (hc.fr f2 hB) hB hn (f2.same _ _ hp ho) ho hr (by omega) (kd := 53) (.inr rfl)
  have f3 := f2.trans c3
  have k3 := tableF_inv keys r2.2 ps (kd := 53) (.inr rfl)
  generalize hr3 : tableF keys r2.2 ps 53 = r3 at c1 c2 k3
  -- the labels
  obtain ⟨H4, d1, d2, d3⟩ := b_freshIf (d := d + 2) (ρ := [some (.obj N), some (.obj p), some (.int r1.1), some (.tup (r2.1.map pairAv)), some (.tup (r3.1.map pairAv)), some (.int r1.1), some (.int r1.1), none]) c2 rfl (xi := 5) (ti := 3) (prs := r2.1) (dl := r1.1) rfl (by omega) rfl
  have k4 := freshIf_same (decide (r2.1.length > 0)) r1.1 r3.2
  generalize hr4 : freshIf (decide (r2.1.length > 0)) r1.1 r3.2 = r4 at d1 d2 k4
  obtain ⟨H5, e1, e2, e3⟩ := b_freshIf (d := d + 2) (ρ := [some (.obj N), some (.obj p), some (.int r1.1), some (.tup (r2.1.map pairAv)), some (.tup (r3.1.map pairAv)), some (.int r4.1), some (.int r1.1), none]) d2 rfl (xi := 6) (ti := 4) (prs := r3.1) (dl := r1.1) rfl (by omega) rfl
  have k5 := freshIf_same (decide (r3.1.length > 0)) r1.1 r4.2
  generalize hr5 : freshIf (decide (r3.1.length > 0)) r1.1 r4.2 = r5 at e1 e2 k5
  have f5 := (f3.trans d3).trans e3
  -- the list's label
  have hch5 : r5.2.chains.length ≤ st.chains.length + 1 + 2 * ps.length := by rw [k5.1, k4.1]; omega
  have m1 := b_match (d := d + 1) e2 (hc.fr f5 hB) hn (f5.same _ _ hp ho) hr (by omega) .list
  have hN5 := get_lt e2.kn
  obtain ⟨H6, g1, g2, g3⟩ := r_chain (d := d + 1) (ρ := [some (.obj N), some (.obj p), some (.int r1.1), some (.tup (r2.1.map pairAv)), some (.tup (r3.1.map pairAv)), some (.int r4.1), some (.int r5.1), none]) e2 rfl
    (r_meth (n := 48) (r_loc (x := 0) rfl) e2.b (rl_cons (r_loc (x := 1) rfl) (rl_cons (r_lit (v := .tup [.sym 54])) rl_nil)) rfl rfl m1) e2.app get_last (.inr hN5) (by omega) (by omega)
  have f6 : Fr N H H6 := f5.trans (Fr.app.trans g3)
  have k6 := chainF_len r5.2 (matchP keys ps .list)
  have w6 := chainF_rows r5.2 (matchP keys ps .list)
  generalize hr6 : chainF r5.2 (matchP keys ps .list) = r6 at g1 g2 k6 w6
  -- the first row
  obtain ⟨H7, i1, i2, i3⟩ := r_chain (d := d + 1) (ρ := [some (.obj N), some (.obj p), some (.int r1.1), some (.tup (r2.1.map pairAv)), some (.tup (r3.1.map pairAv)), some (.int r4.1), some (.int r5.1), some (.int r6.1)]) g2 rfl (r_loc (x := 1) rfl) g2 (f6.same _ _ hp ho) ho (by omega) (by omega)
  have w7 := chainF_rows r6.2 ps
  generalize hr7 : chainF r6.2 ps = r7 at i1 i2 w7
  have hrows : r7.2.rows = st.rows := by rw [w7, w6, k5.2, k4.2, k3.2.2, k2.2.2, w1]
  obtain ⟨H8, j1, j2, j3⟩ := b_push (d := d + 3) (ρ := [some (.obj N), some (.obj p), some (.int r1.1), some (.tup (r2.1.map pairAv)), some (.tup (r3.1.map pairAv)), some (.int r4.1), some (.int r5.1), some (.int r6.1)]) (bi := 0)
    (e := .tup [(.lit (.sym 55)), (.meth (.loc 0) 49 [(.loc 1)]), (.loc 5), (.loc 7), (.loc 6)]) (row := .sot r7.1 r4.1 r6.1 r5.1) g2 rfl (r_tup (rl_cons r_lit (rl_cons i1 (rl_cons (r_loc (x := 5) rfl) (rl_cons (r_loc (x := 7) rfl) (rl_cons (r_loc (x := 6) rfl) rl_nil))))) (show 5 < big by decide)) i2 (by rw [hrows]; omega)
  obtain ⟨H9, l1, l2, l3⟩ := b_rowsIf (d := d + 3) (ρ := [some (.obj N), some (.obj p), some (.int r1.1), some (.tup (r2.1.map pairAv)), some (.tup (r3.1.map pairAv)), some (.int r4.1), some (.int r5.1), some (.int r6.1)]) j2 rfl (li := 5) (ti := 3) (di := 2) (kd := 57) (prs := r2.1) (l := r4.1) (dl := r1.1) (row := .soc r2.1 r1.1) rfl (by omega) rfl rfl rfl (by simp [hrows]; omega)
  obtain ⟨H10, n1, n2, n3⟩ := b_rowsIf (d := d + 3) (ρ := [some (.obj N), some (.obj p), some (.int r1.1), some (.tup (r2.1.map pairAv)), some (.tup (r3.1.map pairAv)), some (.int r4.1), some (.int r5.1), some (.int r6.1)]) l2 rfl (li := 6) (ti := 4) (di := 2) (kd := 58) (prs := r3.1) (l := r5.1) (dl := r1.1) (row := .sos r3.1 r1.1) rfl (by omega) rfl rfl rfl (by unfold rowsIf; split <;> simp [hrows] <;> omega)
  have fin : switchF keys st ps = rowsIf (decide (r3.1.length > 0)) [.lab r5.1, .sos r3.1 r1.1] (rowsIf (decide (r2.1.length > 0)) [.lab r4.1, .soc r2.1 r1.1] { r7.2 with rows := r7.2.rows ++ [.sot r7.1 r4.1 r6.1 r5.1] }) := by
    unfold switchF
    simp only [hr1, hr2, hr3, hr4, hr5, hr6, hr7]
  rw [fin]
  refine ⟨H10, k_next rfl rfl (s_next (t_asg' a1) (s_next (t_asg' (r_meth (n := 52) (r_loc (x := 0) rfl) a2.b (rl_cons (r_loc (x := 1) rfl) (rl_cons r_lit rl_nil)) rfl rfl b1)) (s_next (t_asg' (r_meth (n := 52) (r_loc (x := 0) rfl) b2.b (rl_cons (r_loc (x := 1) rfl) (rl_cons r_lit rl_nil)) rfl rfl c1))
    (s_next (t_asg' (r_loc (x := 2) rfl)) (s_next (t_asg' (r_loc (x := 2) rfl)) (s_next d1 (s_next e1 (s_next (t_asg' g1) (s_next j1 (s_next l1 (s_next n1 s_nil))))))))))), n2, ((f6.trans i3).trans j3).trans (l3.trans n3)⟩
end
end Mini
end

noncomputable section -- PB8
set_option autoImplicit false
set_option linter.unusedVariables false
set_option linter.unusedSimpArgs false
namespace Mini
structure Grow (H H' : AHeap) : Prop where
  len : H.length ≤ H'.length
  same : ∀ (j : Nat) (o : AObj), H[j]? = some o → H'[j]? = some o
theorem Grow.refl {H : AHeap} : Grow H H := ⟨Nat.le_refl _, fun _ _ e => e⟩
theorem Grow.trans {H H' H'' : AHeap} (a : Grow H H') (b : Grow H' H'') : Grow H H'' := ⟨Nat.le_trans a.len b.len, fun j o e => b.same j o (a.same j o e)⟩
theorem Grow.app {H : AHeap} {l : List AObj} : Grow H (H ++ l) := ⟨by simp, fun j o e => get_app e⟩
theorem Grow.set {H H' : AHeap} (g : Grow H H') {i : Nat} {o : AObj} (h : H.length ≤ i) : Grow H (H'.set i o) := ⟨by rw [List.length_set]; exact g.len, fun j o e => get_set_ne (g.same j o e) (by have := get_lt e; omega)⟩
theorem Grow.fr {H H' H'' : AHeap} {N : Nat} (g : Grow H H') (f : Fr N H' H'') (h : H.length ≤ N) : Grow H H'' := ⟨Nat.le_trans g.len f.len, fun j o e => f.same j o (g.same j o e) (.inl (by have := get_lt e; omega))⟩

noncomputable def rangeI (m : Nat) : List Int := (List.range m).map fun (i : Nat) => (i : Int)
theorem rints_range (m : Nat) : rints 0 (m : Int) = (rangeI m).map AV.int := by simp [rints, rangeI]
theorem inR_range (keys : List Key) : InR keys (rangeI keys.length) := fun p hp => by
  obtain ⟨i, hi, rfl⟩ := List.mem_map.mp hp
  have := List.mem_range.mp hi
  omega
theorem rangeI_len (m : Nat) : (rangeI m).length = m := by simp [rangeI]

/-- the symbols know the functor's arity -/
noncomputable def SY (H : AHeap) (y : Nat) (nm ar : Int) : Prop := ∃ a b fl fn fs x, H[y]? = some (.inst 0 [(29, a), (30, b), (31, .obj fl), (32, fn)]) ∧ H[fl]? = some (.list fs) ∧ idx nm fs = some (.tup [x, .int ar])
theorem SY.grow {H H' : AHeap} {y : Nat} {nm ar : Int} (h : SY H y nm ar) (g : Grow H H') : SY H' y nm ar := by
  obtain ⟨a, b, fl, fn, fs, x, h1, h2, h3⟩ := h
  exact ⟨a, b, fl, fn, fs, x, g.same _ _ h1, g.same _ _ h2, h3⟩
theorem CS.grow {H H' : AHeap} {B c : Nat} {keys : List Key} (h : CS H B c keys) (g : Grow H H') : CS H' B c keys := h.mono fun j o _ e => g.same j o e

section
variable {d N c B y : Nat} {st : BSt} {H : AHeap} {ρ : Loc} {keys : List Key} {nm ar : Int}

theorem r_arity (h : SY H y nm ar) : callF theP (d + 1) 6 [.obj y, .int nm] H = some (.int ar, H) := by
  obtain ⟨a, b, fl, fn, fs, x, h1, h2, h3⟩ := h
  exact k_ret rfl rfl (s_ret (t_ret' (r_sub (r_sub (r_attr (n := 31) (r_loc (x := 0) rfl) (at_of h1 rfl rfl)) (r_loc (x := 1) rfl) (sub_l h2 h3)) r_lit (sub_t rfl))))
theorem m_arity (h : SY H y nm ar) (hy : ρ[0]? = some (some (.obj y))) (hn : ρ[1]? = some (some (.int nm))) : evE theP (d + 1) (.meth (.loc 0) 38 [(.loc 1)]) ρ H = some (.int ar, H) := by
  obtain ⟨a, b, fl, fn, fs, x, h1, h2, h3⟩ := id h
  exact r_meth (r_loc hy) h1 (rl_cons (r_loc hn) rl_nil) rfl rfl (r_arity h)

theorem codes_len (hc : CS H B c keys) (hn : keys.length < big) : lenOf H (.obj c) = some (keys.length : Int) := by
  obtain ⟨_, ids, i1, i2, _⟩ := hc
  have := len_l i2 (by rw [List.length_map, i1]; exact hn)
  rwa [List.length_map, i1] at this

theorem b_init (hc : CS H B c keys) (hn : keys.length < big) : ∃ H', callF theP (d + 1) 9 [.obj H.length, .int ar, .obj c] (H ++ [.inst 1 []]) = some (.none, H') ∧ BS H' H.length c ⟨ar, [], [], keys.length⟩ ∧ Grow H H' := by
  have g0 : (H ++ [AObj.inst 1 []])[H.length]? = some (.inst 1 []) := get_last
  have s1 := t_sattr' (P := theP) (d := d) (o := .loc 0) (e := .loc 1) (n := 38) (ρ := [some (.obj H.length), some (.int ar), some (.obj c)]) (r_loc rfl) (r_loc rfl) g0 (show 0 < big by decide) rfl
  generalize hH1 : (H ++ [AObj.inst 1 []]).set H.length (.inst 1 (putAttr [] 38 (.int ar))) = H1 at s1
  have g1 : H1[H.length]? = some (.inst 1 [(38, .int ar)]) := hH1 ▸ get_set g0
  have l1 : H1.length = H.length + 1 := by rw [← hH1]; simp
  have G1 : Grow H H1 := hH1 ▸ Grow.app.set (Nat.le_refl _)
  have s2 := t_sattr' (P := theP) (d := d) (o := .loc 0) (e := .loc 2) (n := 39) (ρ := [some (.obj H.length), some (.int ar), some (.obj c)]) (r_loc rfl) (r_loc rfl) g1 (show 1 < big by decide) rfl
  generalize hH2 : H1.set H.length (.inst 1 (putAttr [(38, .int ar)] 39 (.obj c))) = H2 at s2
  have g2 : H2[H.length]? = some (.inst 1 [(38, .int ar), (39, .obj c)]) := hH2 ▸ get_set g1
  have l2 : H2.length = H.length + 1 := by rw [← hH2]; simpa using l1
  have G2 : Grow H H2 := hH2 ▸ G1.set (Nat.le_refl _)
  have s3 := t_sattr' (P := theP) (d := d) (o := .loc 0) (e := .list []) (n := 40) (ρ := [some (.obj H.length), some (.int ar), some (.obj c)]) (r_list rl_nil (show 0 < big by decide)) (r_loc rfl) (get_app (l := [.list []]) g2) (show 2 < big by decide) rfl
  rw [l2] at s3
  generalize hH3 : (H2 ++ [AObj.list []]).set H.length (.inst 1 (putAttr [(38, .int ar), (39, .obj c)] 40 (.obj (H.length + 1)))) = H3 at s3
  have g3 : H3[H.length]? = some (.inst 1 [(38, .int ar), (39, .obj c), (40, .obj (H.length + 1))]) := hH3 ▸ get_set (get_app g2)
  have a3 : H3[H.length + 1]? = some (.list []) := by rw [← hH3, ← l2]; exact get_set_ne get_last (by omega)
  have l3 : H3.length = H.length + 2 := by rw [← hH3]; simp [l2]
  have G3 : Grow H H3 := hH3 ▸ (G2.trans Grow.app).set (Nat.le_refl _)
  have s4 := t_sattr' (P := theP) (d := d) (o := .loc 0) (e := .list []) (n := 41) (ρ := [some (.obj H.length), some (.int ar), some (.obj c)]) (r_list rl_nil (show 0 < big by decide)) (r_loc rfl) (get_app (l := [.list []]) g3) (show 3 < big by decide) rfl
  rw [l3] at s4
  generalize hH4 : (H3 ++ [AObj.list []]).set H.length (.inst 1 (putAttr [(38, .int ar), (39, .obj c), (40, .obj (H.length + 1))] 41 (.obj (H.length + 2)))) = H4 at s4
  have g4 : H4[H.length]? = some (.inst 1 [(38, .int ar), (39, .obj c), (40, .obj (H.length + 1)), (41, .obj (H.length + 2))]) := hH4 ▸ get_set (get_app g3)
  have a4 : H4[H.length + 1]? = some (.list []) := by rw [← hH4]; exact get_set_ne (get_app a3) (by omega)
  have b4 : H4[H.length + 2]? = some (.list []) := by rw [← hH4, ← l3]; exact get_set_ne get_last (by omega)
  have l4 : H4.length = H.length + 3 := by rw [← hH4]; simp [l3]
  have G4 : Grow H H4 := hH4 ▸ (G3.trans Grow.app).set (Nat.le_refl _)
  have s5 := t_sattr' (P := theP) (d := d) (o := .loc 0) (e := .dict0) (n := 42) (ρ := [some (.obj H.length), some (.int ar), some (.obj c)]) r_dict0 (r_loc rfl) (get_app (l := [.dict []]) g4) (show 4 < big by decide) rfl
  rw [l4] at s5
  generalize hH5 : (H4 ++ [AObj.dict []]).set H.length (.inst 1 (putAttr [(38, .int ar), (39, .obj c), (40, .obj (H.length + 1)), (41, .obj (H.length + 2))] 42 (.obj (H.length + 3)))) = H5 at s5
  have g5 : H5[H.length]? = some (.inst 1 [(38, .int ar), (39, .obj c), (40, .obj (H.length + 1)), (41, .obj (H.length + 2)), (42, .obj (H.length + 3))]) := hH5 ▸ get_set (get_app g4)
  have a5 : H5[H.length + 1]? = some (.list []) := by rw [← hH5]; exact get_set_ne (get_app a4) (by omega)
  have b5 : H5[H.length + 2]? = some (.list []) := by rw [← hH5]; exact get_set_ne (get_app b4) (by omega)
  have c5 : H5[H.length + 3]? = some (.dict []) := by rw [← hH5, ← l4]; exact get_set_ne get_last (by omega)
  have G5 : Grow H H5 := hH5 ▸ (G4.trans Grow.app).set (Nat.le_refl _)
  have s6 := t_sattr' (P := theP) (d := d) (o := .loc 0) (e := .len (.loc 2)) (n := 43) (ρ := [some (.obj H.length), some (.int ar), some (.obj c)]) (r_len (r_loc rfl) (codes_len (hc.grow G5) hn)) (r_loc rfl) g5 (show 5 < big by decide) rfl
  exact ⟨_, k_next rfl rfl (s_next s1 (s_next s2 (s_next s3 (s_next s4 (s_next s5 (s_next s6 s_nil)))))), ⟨get_set g5, get_set_ne a5 (by omega), get_set_ne b5 (by omega), get_set_ne c5 (by omega)⟩, G5.set (Nat.le_refl _)⟩

/-- a new builder -/
theorem r_builder (hs : SY H y nm ar) (hc : CS H B c keys) (hn : keys.length < big) (hy : ρ[0]? = some (some (.obj y))) (hnm : ρ[1]? = some (some (.int nm))) (h2 : ρ[2]? = some (some (.obj c))) :
    ∃ H', evE theP (d + 2) (.new 1 [(.meth (.loc 0) 38 [(.loc 1)]), (.loc 2)]) ρ H = some (.obj H.length, H') ∧ BS H' H.length c ⟨ar, [], [], keys.length⟩ ∧ Grow H H' := by
  obtain ⟨H', e1, e2, e3⟩ := b_init (d := d) (ar := ar) hc hn
  exact ⟨H', r_new (rl_cons (m_arity hs hy hnm) (rl_cons (r_loc h2) rl_nil)) rfl e1, e2, e3⟩

theorem b_allvar (hc : CS H B c keys) : callF theP (d + 1) 8 [.obj c] H = some (.bool (keys.all fun k => decide (k = .var)), H) := by
  obtain ⟨_, ids, h1, h2, h3⟩ := hc
  have loop : ∀ (n i : Nat), n + i = keys.length → ∃ ρ', evFor theP d (1, [1], [.ifs (.cmp .ne (.attr (.loc 1) 37) (.lit (.tup [.sym 36]))) [.ret (.lit (.bool false))] []]) (.lst c) i [some (.obj c), none] H =
      some (if (keys.drop i).all (fun k => decide (k = .var)) = true then (.next, [some (.obj c), none], H) else (.ret (.bool false), ρ', H)) := by
    intro n
    induction n with
    | zero =>
      intro i hi
      refine ⟨[], ?_⟩
      rw [for_end (by simp [srcAt, h2]; omega), List.drop_of_length_le (by omega)]; rfl
    | succ n ih =>
      intro i hi
      have hik : i < keys.length := by omega
      obtain ⟨id, q, a, b, f1, _, _, f4, _⟩ := h3 i keys[i] (by simp [hik])
      obtain ⟨ρ', hr⟩ := ih (i + 1) (by omega)
      have cond := r_notvar (d := d) (ρ := [some (.obj c), some (.obj id)]) (k := keys[i]) (r_attr (n := 37) (r_loc (H := H) (x := 1) rfl) (at_of f4 rfl rfl))
      have hdrop : keys.drop i = keys[i] :: keys.drop (i + 1) := List.drop_eq_getElem_cons hik
      rw [for_turn (v := .obj id) (by simp [srcAt, h2, f1]), hdrop, List.all_cons]
      cases hk : decide (keys[i] = Key.var) with
      | true =>
        rw [hk] at cond
        refine ⟨ρ', ?_⟩
        have s : evSs theP d [.ifs (.cmp .ne (.attr (.loc 1) 37) (.lit (.tup [.sym 36]))) [.ret (.lit (.bool false))] []] [some (.obj c), some (.obj id)] H = _ := s_next (t_ifF cond s_nil) s_nil
        show (evSs theP d _ [some (.obj c), some (.obj id)] H >>= _) = _
        rw [s]
        simp only [Bool.true_and]
        exact hr
      | false =>
        rw [hk] at cond
        refine ⟨[some (.obj c), some (.obj id)], ?_⟩
        have s : evSs theP d [.ifs (.cmp .ne (.attr (.loc 1) 37) (.lit (.tup [.sym 36]))) [.ret (.lit (.bool false))] []] [some (.obj c), some (.obj id)] H = _ := s_ret (t_ifT cond (s_ret (t_ret' r_lit)))
        show (evSs theP d _ [some (.obj c), some (.obj id)] H >>= _) = _
        rw [s]
        simp only [Bool.false_and, Bool.false_eq_true, if_false]
        rfl
  obtain ⟨ρ', e⟩ := loop keys.length 0 (by omega)
  rw [List.drop_zero] at e
  cases hk : keys.all fun k => decide (k = .var) with
  | true =>
    rw [hk] at e
    exact k_ret rfl rfl (s_next (t_for' (ri_lst (r_loc rfl) h2) e) (s_ret (t_ret' r_lit)))
  | false =>
    rw [hk] at e
    exact k_ret rfl rfl (s_ret (t_for' (ri_lst (r_loc rfl) h2) e))

/-- the fewest codes -/
theorem b_small (hc : CS H B c keys) (hn : keys.length < big) (h1 : keys.length < 2) : ∃ q H', callF theP (d + 1) 18 [.obj c] H = some (.obj q, H') ∧ Grow H H' := by
  have ln := r_len (P := theP) (d := d) (ρ := [some (.obj c)]) (r_loc (x := 0) rfl) (codes_len hc hn)
  have c0 := r_cmp ln (r_lit (v := .int 0)) (c_int (b := 0))
  by_cases h0 : keys.length = 0
  · rw [decide_eq_true (by omega : (keys.length : Int) = 0)] at c0
    exact ⟨_, _, k_ret rfl rfl (s_ret (t_ifT c0 (s_ret (t_ret' (r_list (rl_cons (r_tup (rl_cons r_lit rl_nil) (show 1 < big by decide)) rl_nil) (show 1 < big by decide)))))), .app⟩
  · rw [decide_eq_false (by omega : ¬ (keys.length : Int) = 0)] at c0
    obtain ⟨id, q, a, b, _, _, g1, g2, g3⟩ := code_at hc hn (x := 0) (by omega) (by omega)
    exact ⟨_, _, k_ret rfl rfl (s_next (t_ifF c0 s_nil) (s_ret (t_ret' (r_listOf (r_attr (r_sub (r_loc (x := 0) rfl) r_lit g1) (at_of g2 rfl rfl)) g3 (show 1 < big by decide))))), .app⟩

theorem lt2 (hc : CS H B c keys) (hn : keys.length < big) (h2 : ρ[2]? = some (some (.obj c))) : evE theP d (.cmp .lt (.len (.loc 2)) (.lit (.int 2))) ρ H = some (.bool (decide (keys.length < 2)), H) := by
  have := r_cmp (r_len (P := theP) (d := d) (r_loc h2) (codes_len hc hn)) (r_lit (v := .int 2)) (show cmpOf theP H .lt (.int (keys.length : Int)) (.int 2) = some (decide ((keys.length : Int) < 2)) from rfl)
  rw [this]
  have : ((keys.length : Int) < 2) ↔ keys.length < 2 := by omega
  simp only [this]

noncomputable def chainBlock (ar : Int) (m : Nat) : List Row := finishRows ⟨ar, chainRows ar (rangeI m), [], m⟩ m
theorem b_chainblock (hs : SY H y nm ar) (hc : CS H B c keys) (hB : B ≤ H.length) (hn : keys.length < 1000) (h2 : 2 ≤ keys.length) :
    ∃ q H', callF theP (d + 3) 19 [.obj y, .int nm, .obj c] H = some (.obj q, H') ∧ H'[q]? = some (.list ((chainBlock ar keys.length).map Row.av)) ∧ Grow H H' := by
  have hn' : keys.length < big := by unfold big; omega
  have c0 := lt2 (d := d + 2) (ρ := [some (.obj y), some (.int nm), some (.obj c), none, none]) hc hn' rfl
  rw [decide_eq_false (by omega)] at c0
  obtain ⟨H1, a1, a2, a3⟩ := r_builder (d := d) (ρ := [some (.obj y), some (.int nm), some (.obj c), none, none]) hs hc hn' rfl rfl rfl
  have hl := codes_len (hc.grow a3) hn'
  have rows := b_rows (d := d + 1) (a2.app (l := [.list (rints 0 keys.length)])) (v := .obj H1.length) (ps := rangeI keys.length) (.inl ⟨_, rfl, by rw [← rints_range]; exact get_last⟩) (by rw [rangeI_len]; exact h2) (by rw [rangeI_len]; exact hn')
  obtain ⟨H2, b1, b2, b3⟩ := b_addrows (d := d + 2) (ρ := [some (.obj y), some (.int nm), some (.obj c), some (.obj H.length), none]) (a2.app.app (l := [.list ((chainRows ar (rangeI keys.length)).map Row.av)])) (bi := 3) (xi := 4) (T := (H1 ++ [AObj.list (rints 0 keys.length)]).length) get_last (.inr (by have := get_lt a2.kn; simp; omega)) (by rw [chainRows_len, rangeI_len]; simp; unfold big; omega) rfl rfl (by decide)
  have hf : Fr H.length H1 H2 := (Fr.app.trans Fr.app).trans b3
  have hg : Grow H H2 := a3.fr hf (Nat.le_refl _)
  obtain ⟨H3, c1, c2, c3⟩ := b_finish (d := d) b2 (hc.grow hg) hB hn' (M := 1) (fun p hp => by simp at hp) (by decide) (by simp [chainRows_len, rangeI_len]; unfold big; omega)
  refine ⟨_, H3, k_ret rfl rfl (s_next (t_ifF c0 s_nil) (s_next (t_asg' a1) (s_next (t_for' (ri_lst (r_meth (n := 59) (r_loc (x := 3) rfl) a2.b (rl_cons (r_listRange (r_len (r_loc (x := 2) rfl) hl) (by unfold big; omega)) rl_nil) rfl rfl rows) get_last) b1) (s_ret (t_ret' (r_meth (n := 61) (r_loc (x := 3) rfl) b2.b rl_nil rfl rfl c1)))))), c2, hg.fr c3 (Nat.le_refl _)⟩
end
end Mini
end

noncomputable section -- PB9
set_option autoImplicit false
set_option linter.unusedVariables false
set_option linter.unusedSimpArgs false
namespace Mini
noncomputable def ChOk (M : Nat) (st : BSt) : Prop := ∀ p ∈ st.chains, 2 ≤ p.2.length ∧ p.2.length ≤ M
theorem chainF_ok {M : Nat} {st : BSt} {ps : List Int} (h : ChOk M st) (hl : ps.length ≤ M) : ChOk M (chainF st ps).2 := by
  unfold chainF
  split
  · exact h
  · exact h
  · rename_i h1 h2
    split
    · exact h
    · intro p hp
      simp at hp
      rcases hp with hp | rfl
      · exact h p hp
      · refine ⟨?_, hl⟩
        match ps, h1, h2 with
        | [], h1, _ => exact absurd rfl h1
        | [x], _, h2 => exact absurd rfl (h2 x)
        | x :: y :: r, _, _ => simp
theorem tab_ok {M : Nat} {keys : List Key} {all : List Int} {kd : Nat} (hl : all.length ≤ M) : ∀ (l : List Int) (s : List (AV × Int) × BSt), ChOk M s.2 → ChOk M (l.foldl (tabStep keys all kd) s).2
  | [], _, h => h
  | x :: l, s, h => by
    refine tab_ok hl l _ ?_
    unfold tabStep
    split
    · exact chainF_ok h (Nat.le_trans (len_filter _ _) hl)
    · exact h
theorem freshIf_ok {M : Nat} {b : Bool} {dl : Int} {st : BSt} (h : ChOk M st) : ChOk M (freshIf b dl st).2 := by cases b <;> exact h
theorem rowsIf_chains (b : Bool) (rs : List Row) (st : BSt) : (rowsIf b rs st).chains = st.chains := by cases b <;> rfl
theorem rowsIf_rows (b : Bool) (rs : List Row) (st : BSt) : (rowsIf b rs st).rows.length ≤ st.rows.length + rs.length := by cases b <;> simp [rowsIf]
theorem switchF_parts (keys : List Key) (st : BSt) (ps : List Int) : ∃ r1 r2 r3 r4 r5 r6 r7, r1 = chainF st (varP keys ps) ∧ r2 = tableF keys r1.2 ps 51 ∧ r3 = tableF keys r2.2 ps 53 ∧ r4 = freshIf (decide (r2.1.length > 0)) r1.1 r3.2 ∧ r5 = freshIf (decide (r3.1.length > 0)) r1.1 r4.2 ∧
    r6 = chainF r5.2 (matchP keys ps .list) ∧ r7 = chainF r6.2 ps ∧ switchF keys st ps = rowsIf (decide (r3.1.length > 0)) [.lab r5.1, .sos r3.1 r1.1] (rowsIf (decide (r2.1.length > 0)) [.lab r4.1, .soc r2.1 r1.1] { r7.2 with rows := r7.2.rows ++ [.sot r7.1 r4.1 r6.1 r5.1] }) :=
  ⟨_, _, _, _, _, _, _, rfl, rfl, rfl, rfl, rfl, rfl, rfl, rfl⟩
theorem switchF_ok {M : Nat} {keys : List Key} {st : BSt} {ps : List Int} (h : ChOk M st) (hl : ps.length ≤ M) : ChOk M (switchF keys st ps) ∧ (switchF keys st ps).chains.length ≤ st.chains.length + 2 * ps.length + 3 ∧ (switchF keys st ps).rows.length ≤ st.rows.length + 5 := by
  obtain ⟨r1, r2, r3, r4, r5, r6, r7, e1, e2, e3, e4, e5, e6, e7, e⟩ := switchF_parts keys st ps
  rw [e]
  have h1 : ChOk M r1.2 := e1 ▸ chainF_ok h (Nat.le_trans (len_filter ps fun p => decide (kat keys p = .var)) hl)
  have n1 : r1.2.chains.length ≤ _ := e1 ▸ chainF_len st (varP keys ps)
  have w1 : r1.2.rows = _ := e1 ▸ chainF_rows st (varP keys ps)
  have h2 : ChOk M r2.2 := e2 ▸ tab_ok hl ps _ h1
  have n2 : r2.1.length ≤ _ ∧ r2.2.chains.length ≤ _ ∧ r2.2.rows = _ := e2 ▸ tableF_inv keys r1.2 ps (kd := 51) (.inl rfl)
  have h3 : ChOk M r3.2 := e3 ▸ tab_ok hl ps _ h2
  have n3 : r3.1.length ≤ _ ∧ r3.2.chains.length ≤ _ ∧ r3.2.rows = _ := e3 ▸ tableF_inv keys r2.2 ps (kd := 53) (.inr rfl)
  have h4 : ChOk M r4.2 := e4 ▸ freshIf_ok h3
  have k4 : r4.2.chains = _ ∧ r4.2.rows = _ := e4 ▸ freshIf_same (decide (r2.1.length > 0)) r1.1 r3.2
  have h5 : ChOk M r5.2 := e5 ▸ freshIf_ok h4
  have k5 : r5.2.chains = _ ∧ r5.2.rows = _ := e5 ▸ freshIf_same (decide (r3.1.length > 0)) r1.1 r4.2
  have h6 : ChOk M r6.2 := e6 ▸ chainF_ok h5 (Nat.le_trans (len_filter ps fun p => fit (kat keys p) .list) hl)
  have n6 : r6.2.chains.length ≤ _ := e6 ▸ chainF_len r5.2 (matchP keys ps .list)
  have w6 : r6.2.rows = _ := e6 ▸ chainF_rows r5.2 (matchP keys ps .list)
  have h7 : ChOk M r7.2 := e7 ▸ chainF_ok h6 hl
  have n7 : r7.2.chains.length ≤ _ := e7 ▸ chainF_len r6.2 ps
  have w7 : r7.2.rows = _ := e7 ▸ chainF_rows r6.2 ps
  clear e1 e2 e3 e4 e5 e6 e7 e
  refine ⟨fun p hp => h7 p (by rw [rowsIf_chains, rowsIf_chains] at hp; exact hp), ?_, ?_⟩
  · rw [rowsIf_chains, rowsIf_chains]
    show r7.2.chains.length ≤ _
    rw [k5.1, k4.1] at n6; omega
  · have q1 := rowsIf_rows (decide (r3.1.length > 0)) [.lab r5.1, .sos r3.1 r1.1] (rowsIf (decide (r2.1.length > 0)) [.lab r4.1, .soc r2.1 r1.1] { r7.2 with rows := r7.2.rows ++ [.sot r7.1 r4.1 r6.1 r5.1] })
    have q2 := rowsIf_rows (decide (r2.1.length > 0)) [.lab r4.1, .soc r2.1 r1.1] { r7.2 with rows := r7.2.rows ++ [.sot r7.1 r4.1 r6.1 r5.1] }
    have hlen : r7.2.rows.length = st.rows.length := by rw [w7, w6, k5.2, k4.2, n3.2.2, n2.2.2, w1]
    refine Nat.le_trans q1 ?_
    simp only [List.length_append, List.length_cons, List.length_nil] at q2 ⊢
    omega

noncomputable def allVar (keys : List Key) : Bool := keys.all fun k => decide (k = .var)
noncomputable def indexBlock (ar : Int) (keys : List Key) : List Row := if (decide (ar = 0) || allVar keys) = true then chainBlock ar keys.length else finishRows (switchF keys ⟨ar, [], [], keys.length⟩ (rangeI keys.length)) keys.length

section
variable {d N c B y : Nat} {st : BSt} {H : AHeap} {ρ : Loc} {keys : List Key} {nm ar : Int}
theorem test_flat (hs : SY H y nm ar) (hc : CS H B c keys) (h0 : ρ[0]? = some (some (.obj y))) (h1 : ρ[1]? = some (some (.int nm))) (h2 : ρ[2]? = some (some (.obj c))) :
    evE theP (d + 1) (.ors [(.cmp .eq (.meth (.loc 0) 38 [(.loc 1)]) (.lit (.int 0))), (.call 8 [(.loc 2)])]) ρ H = some (.bool (decide (ar = 0) || allVar keys), H) :=
  r_ors (or_two (r_cmp (m_arity hs h0 h1) r_lit c_int) (or_one (r_call (rl_cons (r_loc h2) rl_nil) (b_allvar hc))))

theorem b_index (hs : SY H y nm ar) (hc : CS H B c keys) (hB : B ≤ H.length) (hn : keys.length < 100) (h2 : 2 ≤ keys.length) :
    ∃ q H', callF theP (d + 5) 20 [.obj y, .int nm, .obj c] H = some (.obj q, H') ∧ H'[q]? = some (.list ((indexBlock ar keys).map Row.av)) ∧ Grow H H' := by
  have hn' : keys.length < big := by unfold big; omega
  have c0 := lt2 (d := d + 4) (ρ := [some (.obj y), some (.int nm), some (.obj c), none]) hc hn' rfl
  rw [decide_eq_false (by omega)] at c0
  have c1 := test_flat (d := d + 3) (ρ := [some (.obj y), some (.int nm), some (.obj c), none]) hs hc rfl rfl rfl
  unfold indexBlock
  cases hf : (decide (ar = 0) || allVar keys) with
  | true =>
    rw [hf] at c1
    obtain ⟨q, H', e1, e2, e3⟩ := b_chainblock (d := d + 1) hs hc hB (by omega) h2
    exact ⟨q, H', k_ret rfl rfl (s_next (t_ifF c0 s_nil) (s_ret (t_ifT c1 (s_ret (t_ret' (r_call (rl_cons (r_loc (x := 0) rfl) (rl_cons (r_loc (x := 1) rfl) (rl_cons (r_loc (x := 2) rfl) rl_nil))) e1)))))), e2, e3⟩
  | false =>
    rw [hf] at c1
    obtain ⟨H1, a1, a2, a3⟩ := r_builder (d := d + 2) (ρ := [some (.obj y), some (.int nm), some (.obj c), none]) hs hc hn' rfl rfl rfl
    have hl := codes_len (hc.grow a3) hn'
    have hrl := rangeI_len keys.length
    obtain ⟨H2, b1, b2, b3⟩ := b_switch (d := d) (a2.app (l := [.list (rints 0 keys.length)])) ((hc.grow a3).app) hB hn' (p := H1.length) (ps := rangeI keys.length) (by rw [← rints_range]; exact get_last) (.inr (get_lt a2.kn)) (inR_range keys) (by rw [hrl]; simp; unfold big; omega) (by simp; decide)
    have hf : Fr H.length H1 H2 := Fr.app.trans b3
    have hg : Grow H H2 := a3.fr hf (Nat.le_refl _)
    obtain ⟨k1, k2, k3⟩ := switchF_ok (M := keys.length) (keys := keys) (st := ⟨ar, [], [], keys.length⟩) (ps := rangeI keys.length) (fun p hp => by simp at hp) (by rw [hrl]; exact Nat.le_refl _)
    obtain ⟨H3, c1', c2, c3⟩ := b_finish (d := d + 2) b2 (hc.grow hg) hB hn' (M := keys.length) k1 hn' (by
      have : (switchF keys ⟨ar, [], [], keys.length⟩ (rangeI keys.length)).chains.length * (keys.length + 1) ≤ 1000 * 1000 := Nat.mul_le_mul (by rw [hrl] at k2; simp at k2; omega) (by omega)
      simp at k3
      unfold big; omega)
    refine ⟨_, H3, k_ret rfl rfl (s_next (t_ifF c0 s_nil) (s_next (t_ifF c1 s_nil) (s_next (t_asg' a1) (s_next (t_expr' (r_meth (n := 62) (r_loc (x := 3) rfl) a2.b (rl_cons (r_listRange (r_len (r_loc (x := 2) rfl) hl) (by unfold big; omega)) rl_nil) rfl rfl b1) rfl) (s_ret (t_ret' (r_meth (n := 61) (r_loc (x := 3) rfl) b2.b rl_nil rfl rfl c1')))))))
      , ?_, hg.fr c3 (Nat.le_refl _)⟩
    simpa using c2
end
end Mini
end

noncomputable section -- PB10
set_option autoImplicit false
set_option linter.unusedVariables false
set_option linter.unusedSimpArgs false
namespace Mini
/-- a list of lists of numbers -/
noncomputable def LL (lo : Nat) (H : AHeap) (g : Nat) (G : List (List Int)) : Prop := lo ≤ g ∧ ∃ gids : List Nat, H[g]? = some (.list (gids.map AV.obj)) ∧ gids.length = G.length ∧ ∀ (i : Nat) (grp : List Int), G[i]? = some grp → ∃ id, gids[i]? = some id ∧ lo ≤ id ∧ H[id]? = some (.list (grp.map AV.int))
theorem LL.keep {lo : Nat} {H H' : AHeap} {g : Nat} {G : List (List Int)} (h : LL lo H g G) (k : ∀ j o, lo ≤ j → H[j]? = some o → H'[j]? = some o) : LL lo H' g G := by
  obtain ⟨h0, gids, h1, h2, h3⟩ := h
  exact ⟨h0, gids, k _ _ h0 h1, h2, fun i grp e => let ⟨id, a, b, c⟩ := h3 i grp e; ⟨id, a, b, k _ _ b c⟩⟩
theorem LL.grow {lo : Nat} {H H' : AHeap} {g : Nat} {G : List (List Int)} (h : LL lo H g G) (k : Grow H H') : LL lo H' g G := h.keep fun j o _ e => k.same j o e

noncomputable def grpStep (keys : List Key) (s : List (List Int) × List Int) (x : Int) : List (List Int) × List Int :=
  if kat keys x = .var then ((if s.2.length > 0 then s.1 ++ [s.2] else s.1) ++ [[x]], []) else (s.1, s.2 ++ [x])
noncomputable def grpState (keys : List Key) (i : Nat) : List (List Int) × List Int := (rangeI i).foldl (grpStep keys) ([], [])
noncomputable def groupsF (keys : List Key) : List (List Int) := if (grpState keys keys.length).2.length > 0 then (grpState keys keys.length).1 ++ [(grpState keys keys.length).2] else (grpState keys keys.length).1
theorem rangeI_succ (i : Nat) : rangeI (i + 1) = rangeI i ++ [(i : Int)] := by simp [rangeI, List.range_succ]
theorem grpState_succ (keys : List Key) (i : Nat) : grpState keys (i + 1) = grpStep keys (grpState keys i) i := by unfold grpState; rw [rangeI_succ, List.foldl_append]; rfl
theorem grpState_len (keys : List Key) : ∀ i, (grpState keys i).1.length ≤ 2 * i ∧ (grpState keys i).2.length ≤ i
  | 0 => by simp [grpState, rangeI]
  | i + 1 => by
    have ih := grpState_len keys i
    rw [grpState_succ]
    unfold grpStep
    split
    · split <;> simp <;> omega
    · simp; omega

/-- the groups under way -/
structure GI (H₀ H : AHeap) (g r : Nat) (G : List (List Int)) (run : List Int) : Prop where
  ex : ∃ gids : List Nat, H[g]? = some (.list (gids.map AV.obj)) ∧ gids.length = G.length ∧ ∀ (i : Nat) (grp : List Int), G[i]? = some grp → ∃ id, gids[i]? = some id ∧ id ≠ g ∧ id ≠ r ∧ H₀.length ≤ id ∧ H[id]? = some (.list (grp.map AV.int))
  run : H[r]? = some (.list (run.map AV.int))
  ne : r ≠ g
  gr : H₀.length ≤ r
  gg : H₀.length ≤ g
  grow : Grow H₀ H

section
variable {d N c B y : Nat} {st : BSt} {H H₀ H₁ : AHeap} {ρ : Loc} {keys : List Key} {nm ar : Int}

theorem GI.app {g r : Nat} {G : List (List Int)} {run : List Int} {l : List AObj} (h : GI H₀ H g r G run) : GI H₀ (H ++ l) g r G run := by
  obtain ⟨⟨gids, g1, g2, g3⟩, h3, h4, h5, h6, h7⟩ := h
  exact ⟨⟨gids, get_app g1, g2, fun i grp e => let ⟨id, a, b, c, c', d⟩ := g3 i grp e; ⟨id, a, b, c, c', get_app d⟩⟩, get_app h3, h4, h5, h6, h7.trans .app⟩
/-- a group put at the end -/
theorem GI.push {g r id : Nat} {G : List (List Int)} {run grp : List Int} (h0 : GI H₀ H g r G run) (h : GI H₀ H₁ g r G run) (hid : H₁[id]? = some (.list (grp.map AV.int))) (h1 : id ≠ g) (h2 : id ≠ r) (hlo : H₀.length ≤ id) (hl : G.length < big) {ρ : Loc} {e : ME} {gi : Nat} (hg : ρ[gi]? = some (some (.obj g))) (he : evE theP d e ρ H = some (.obj id, H₁)) :
    ∃ H', evS theP d (.expr (.append (.loc gi) e)) ρ H = some (.next, ρ, H') ∧ GI H₀ H' g r (G ++ [grp]) run := by
  obtain ⟨gids0, g0, _⟩ := h0.ex
  obtain ⟨⟨gids, g1, g2, g3⟩, h3, h4, h5, h6, h7⟩ := h
  refine ⟨_, t_expr' (r_append (r_loc hg) g0 he g1 (by rw [List.length_map, g2]; exact hl)) rfl, ⟨⟨gids ++ [id], ?_, by simp [g2], fun i gr e => ?_⟩, get_set_ne h3 (fun z => h4 z.symm), h4, h5, h6, h7.set h6⟩⟩
  · rw [get_set g1]; simp
  · by_cases hi : i < G.length
    · rw [List.getElem?_append_left hi] at e
      obtain ⟨x, f1, f2, f3, f3', f4⟩ := g3 i gr e
      exact ⟨x, by rw [List.getElem?_append_left (by omega)]; exact f1, f2, f3, f3', get_set_ne f4 (fun z => f2 z.symm)⟩
    · have hi' : i = G.length := by
        have := (List.getElem?_eq_some_iff.mp e).1
        simp at this; omega
      subst hi'
      simp at e; subst e
      exact ⟨id, by rw [← g2]; simp, h1, h2, hlo, get_set_ne hid (fun z => h1 z.symm)⟩
/-- the run put at the end, no new one yet: what stands -/
theorem GI.close {g r : Nat} {G : List (List Int)} {run : List Int} (h : GI H₀ H g r G run) (hl : G.length < big) {ρ : Loc} {gi ri : Nat} (hg : ρ[gi]? = some (some (.obj g))) (hr : ρ[ri]? = some (some (.obj r))) :
    ∃ H', evS theP d (.expr (.append (.loc gi) (.loc ri))) ρ H = some (.next, ρ, H') ∧ H'.length = H.length ∧ Grow H₀ H' ∧ ∃ gids : List Nat, H'[g]? = some (.list (gids.map AV.obj)) ∧ gids.length = (G ++ [run]).length ∧ ∀ (i : Nat) (grp : List Int), (G ++ [run])[i]? = some grp → ∃ id, gids[i]? = some id ∧ id ≠ g ∧ H₀.length ≤ id ∧ H'[id]? = some (.list (grp.map AV.int)) := by
  obtain ⟨⟨gids, g1, g2, g3⟩, h3, h4, h5, h6, h7⟩ := h
  refine ⟨_, t_expr' (r_append (r_loc hg) g1 (r_loc hr) g1 (by rw [List.length_map, g2]; exact hl)) rfl, by simp, h7.set h6, gids ++ [r], ?_, by simp [g2], fun i gr e => ?_⟩
  · rw [get_set g1]; simp
  · by_cases hi : i < G.length
    · rw [List.getElem?_append_left hi] at e
      obtain ⟨x, f1, f2, f3, f3', f4⟩ := g3 i gr e
      exact ⟨x, by rw [List.getElem?_append_left (by omega)]; exact f1, f2, f3', get_set_ne f4 (fun z => f2 z.symm)⟩
    · have hi' : i = G.length := by
        have := (List.getElem?_eq_some_iff.mp e).1
        simp at this; omega
      subst hi'
      simp at e; subst e
      exact ⟨r, by rw [← g2]; simp, h4, h5, get_set_ne h3 (fun z => h4 z.symm)⟩

theorem b_groups (hc : CS H B c keys) (hn : keys.length < 1000) : ∃ q H', callF theP (d + 1) 21 [.obj c] H = some (.obj q, H') ∧ LL H.length H' q (groupsF keys) ∧ Grow H H' := by
  have hn' : keys.length < big := by unfold big; omega
  obtain ⟨ρ', H', e, r, e1, e2⟩ := for_vals (P := theP) (d := d) (x := 3) (kill := [3]) (body := [.ifs (.cmp .eq (.attr (.sub (.loc 0) (.loc 3)) 37) (.lit (.tup [.sym 36]))) [.ifs (.cmp .gt (.len (.loc 2)) (.lit (.int 0))) [.expr (.append (.loc 1) (.loc 2)),
     .asg 2 (.list [])] [],
    .expr (.append (.loc 1) (.list [(.loc 3)]))] [.expr (.append (.loc 2) (.loc 3))]]) (l := rints 0 (keys.length : Int))
    (fun i ρ Hh => ∃ r, ρ = [some (.obj c), some (.obj H.length), some (.obj r), none] ∧ GI H Hh H.length r (grpState keys i).1 (grpState keys i).2)
    (fun i v ρ Hh hv hI => by
      obtain ⟨r, rfl, hg⟩ := hI
      obtain ⟨rfl, hi⟩ := rints_get hv
      rw [Int.zero_add]
      have hlen := grpState_len keys i
      rw [grpState_succ]
      have cond := r_isvar (r_code (d := d) (e := .loc 0) (i := .loc 3) (ρ := [some (.obj c), some (.obj H.length), some (.obj r), some (.int (i : Int))]) (hc.grow hg.grow) hn' (x := (i : Int)) (by omega) (by omega) (r_loc rfl) (r_loc (x := 3) rfl))
      generalize hs : grpState keys i = s at hg hlen
      obtain ⟨G, run⟩ := s
      dsimp only at hlen hg
      unfold grpStep
      by_cases hk : kat keys i = .var
      · rw [decide_eq_true hk] at cond
        rw [if_pos hk]
        have ln := r_cmp (P := theP) (d := d) (r_len (r_loc (ρ := [some (.obj c), some (.obj H.length), some (.obj r), some (.int (i : Int))]) (x := 2) rfl) (len_l hg.run (by rw [List.length_map]; unfold big; omega))) (r_lit (v := .int 0)) (show cmpOf theP Hh .gt _ _ = some (decide (((run.map AV.int).length : Int) > 0)) from rfl)
        by_cases hr : run.length > 0
        · rw [decide_eq_true (by rw [List.length_map]; omega)] at ln
          dsimp only
          rw [if_pos hr]
          obtain ⟨H1, a1, a2, a3, gids, a4, a5, a6⟩ := hg.close (d := d) (ρ := [some (.obj c), some (.obj H.length), some (.obj r), some (.int (i : Int))]) (by unfold big; omega) (gi := 1) (ri := 2) rfl rfl
          have GI1 : GI H (H1 ++ [.list []]) H.length H1.length (G ++ [run]) [] :=
            ⟨⟨gids, get_app a4, a5, fun j grp e => let ⟨id, b1, b2, b2', b3⟩ := a6 j grp e; ⟨id, b1, b2, Nat.ne_of_lt (get_lt b3), b2', get_app b3⟩⟩, get_last, by have := get_lt a4; omega, by have := get_lt a4; omega, Nat.le_refl _, a3.trans .app⟩
          have s2 := t_asg' (x := 2) (r_list (P := theP) (d := d) (ρ := [some (.obj c), some (.obj H.length), some (.obj r), some (.int (i : Int))]) (H := H1) rl_nil (show 0 < big by decide))
          obtain ⟨H2, b1, b2⟩ := GI1.push (d := d) (GI1.app (l := [.list ([(i : Int)].map AV.int)])) (id := (H1 ++ [AObj.list []]).length) (grp := [(i : Int)]) get_last (by have := get_lt a4; simp; omega) (by simp) (by have := get_lt a4; simp; omega) (by simp; unfold big; omega) (ρ := [some (.obj c), some (.obj H.length), some (.obj H1.length), some (.int (i : Int))]) (gi := 1) rfl (r_list (rl_cons (r_loc (x := 3) rfl) rl_nil) (show 1 < big by decide))
          exact ⟨_, _, s_next (t_ifT cond (s_next (t_ifT ln (s_next a1 (s_next s2 s_nil))) (s_next b1 s_nil))) s_nil, _, rfl, b2⟩
        · rw [decide_eq_false (by rw [List.length_map]; omega)] at ln
          dsimp only
          rw [if_neg hr]
          have hrun : run = [] := List.length_eq_zero_iff.mp (by omega)
          subst hrun
          obtain ⟨H2, b1, b2⟩ := hg.push (d := d) (hg.app (l := [.list ([(i : Int)].map AV.int)])) (id := Hh.length) (grp := [(i : Int)]) get_last (by have := get_lt hg.ex.choose_spec.1; omega) (by have := get_lt hg.run; omega) hg.grow.len (by unfold big; omega) (ρ := [some (.obj c), some (.obj H.length), some (.obj r), some (.int (i : Int))]) (gi := 1) rfl (r_list (rl_cons (r_loc (x := 3) rfl) rl_nil) (show 1 < big by decide))
          exact ⟨_, _, s_next (t_ifT cond (s_next (t_ifF ln s_nil) (s_next b1 s_nil))) s_nil, _, rfl, b2⟩
      · rw [decide_eq_false hk] at cond
        rw [if_neg hk]
        have s1 := t_expr' (r_append (P := theP) (d := d) (e := .loc 2) (x := .loc 3) (ρ := [some (.obj c), some (.obj H.length), some (.obj r), some (.int (i : Int))]) (r_loc rfl) hg.run (r_loc (x := 3) rfl) hg.run (by rw [List.length_map]; unfold big; omega)) rfl
        refine ⟨_, _, s_next (t_ifF cond (s_next s1 s_nil)) s_nil, r, rfl, ?_⟩
        obtain ⟨⟨gids, g1, g2, g3⟩, h3, h4, h5, h6, h7⟩ := hg
        exact ⟨⟨gids, get_set_ne g1 h4, g2, fun j grp e => let ⟨id, b1, b2, b3, b3', b4⟩ := g3 j grp e; ⟨id, b1, b2, b3, b3', get_set_ne b4 (fun z => b3 z.symm)⟩⟩, by rw [get_set h3]; simp, h4, h5, h6, h7.set h5⟩)
    keys.length 0 [some (.obj c), some (.obj H.length), some (.obj (H.length + 1)), none] (H ++ [.list []] ++ [.list []]) (by rw [rints_len]; omega) ⟨_, rfl, ⟨[], get_last1, rfl, fun i grp e => by simp [grpState, rangeI] at e⟩, get_last2, by omega, by omega, Nat.le_refl _, Grow.app.trans .app⟩
  have hlr : (rints 0 (keys.length : Int)).length = keys.length := by rw [rints_len]; omega
  rw [hlr] at e2
  subst e1
  have s0 := t_asg' (x := 2) (r_list (P := theP) (d := d) (ρ := [some (.obj c), some (.obj H.length), none, none]) (H := H ++ [.list []]) rl_nil (show 0 < big by decide))
  have hl1 : (H ++ [AObj.list []]).length = H.length + 1 := by simp
  rw [hl1] at s0
  have hlen := grpState_len keys keys.length
  unfold groupsF
  generalize grpState keys keys.length = s at e2 hlen
  obtain ⟨G, run⟩ := s
  dsimp only at e2 hlen ⊢
  have ln := r_cmp (P := theP) (d := d) (r_len (r_loc (ρ := [some (.obj c), some (.obj H.length), some (.obj r), none]) (x := 2) rfl) (len_l e2.run (by rw [List.length_map]; unfold big; omega))) (r_lit (v := .int 0)) (show cmpOf theP H' .gt _ _ = some (decide (((run.map AV.int).length : Int) > 0)) from rfl)
  by_cases hr : run.length > 0
  · rw [decide_eq_true (by rw [List.length_map]; omega)] at ln
    rw [if_pos hr]
    obtain ⟨H1, a1, a2, a3, gids, a4, a5, a6⟩ := e2.close (d := d) (ρ := [some (.obj c), some (.obj H.length), some (.obj r), none]) (by unfold big; omega) (gi := 1) (ri := 2) rfl rfl
    exact ⟨H.length, H1, k_ret rfl rfl (s_next (t_asg' (r_list rl_nil (show 0 < big by decide))) (s_next s0 (s_next (t_for' (ri_range1 (r_len (r_loc (x := 0) rfl) (codes_len (hc.app.app) hn')) (by unfold big; omega)) e) (s_next (t_ifT ln (s_next a1 s_nil)) (s_ret (t_ret' (r_loc (x := 1) rfl))))))), ⟨Nat.le_refl _, gids, a4, a5, fun i grp e => let ⟨id, b1, b2, b2', b3⟩ := a6 i grp e; ⟨id, b1, b2', b3⟩⟩, a3⟩
  · rw [decide_eq_false (by rw [List.length_map]; omega)] at ln
    rw [if_neg hr]
    obtain ⟨gids, g1, g2, g3⟩ := e2.ex
    exact ⟨H.length, H', k_ret rfl rfl (s_next (t_asg' (r_list rl_nil (show 0 < big by decide))) (s_next s0 (s_next (t_for' (ri_range1 (r_len (r_loc (x := 0) rfl) (codes_len (hc.app.app) hn')) (by unfold big; omega)) e) (s_next (t_ifF ln s_nil) (s_ret (t_ret' (r_loc (x := 1) rfl))))))), ⟨Nat.le_refl _, gids, g1, g2, fun i grp e => let ⟨id, b1, _, _, b2, b3⟩ := g3 i grp e; ⟨id, b1, b2, b3⟩⟩, e2.grow⟩
end
end Mini
end

noncomputable section -- PB11
set_option autoImplicit false
set_option linter.unusedVariables false
set_option linter.unusedSimpArgs false
namespace Mini
/-! what the groups are -/
structure GInv (keys : List Key) (i : Nat) (s : List (List Int) × List Int) : Prop where
  flat : s.1.flatten ++ s.2 = rangeI i
  one : ∀ g ∈ s.1, g ≠ [] ∧ ((∃ x, g = [x] ∧ kat keys x = .var) ∨ ∀ x ∈ g, kat keys x ≠ .var)
  run : ∀ x ∈ s.2, kat keys x ≠ .var
  last : s.2 = [] → i = 0 ∨ kat keys ((i : Int) - 1) = .var
theorem gInv (keys : List Key) : ∀ i, GInv keys i (grpState keys i)
  | 0 => ⟨by simp [grpState, rangeI], by simp [grpState, rangeI], by simp [grpState, rangeI], fun _ => .inl rfl⟩
  | i + 1 => by
    obtain ⟨h1, h2, h3, h4⟩ := gInv keys i
    rw [grpState_succ]
    generalize grpState keys i = s at *
    obtain ⟨G, run⟩ := s
    dsimp only at h1 h2 h3 h4
    unfold grpStep
    dsimp only
    split
    · rename_i hk
      refine ⟨?_, fun g hg => ?_, by simp, fun _ => .inr ?_⟩
      · rw [rangeI_succ, ← h1]
        split
        · simp
        · rename_i hr
          have : run = [] := List.length_eq_zero_iff.mp (by omega)
          subst this; simp
      · rw [List.mem_append] at hg
        rcases hg with hg | hg
        · split at hg
          · rw [List.mem_append] at hg
            rcases hg with hg | hg
            · exact h2 g hg
            · rename_i hr
              rw [List.mem_singleton.mp hg]
              exact ⟨fun z => by rw [z] at hr; simp at hr, .inr h3⟩
          · exact h2 g hg
        · rw [List.mem_singleton.mp hg]
          exact ⟨by simp, .inl ⟨_, rfl, hk⟩⟩
      · have : ((i + 1 : Nat) : Int) - 1 = (i : Int) := by omega
        rw [this]; exact hk
    · rename_i hk
      refine ⟨?_, h2, fun x hx => ?_, fun z => by simp at z⟩
      · dsimp only; rw [rangeI_succ, ← h1]; simp
      · rw [List.mem_append] at hx
        rcases hx with hx | hx
        · exact h3 x hx
        · rw [List.mem_singleton.mp hx]; exact hk
theorem groups_flat (keys : List Key) : (groupsF keys).flatten = rangeI keys.length := by
  have := (gInv keys keys.length).flat
  unfold groupsF
  split
  · rw [List.flatten_append]; simpa using this
  · rename_i hr
    have h : (grpState keys keys.length).2 = [] := List.length_eq_zero_iff.mp (by omega)
    rw [h] at this; simpa using this
theorem groups_one (keys : List Key) : ∀ g ∈ groupsF keys, g ≠ [] ∧ ((∃ x, g = [x] ∧ kat keys x = .var) ∨ ∀ x ∈ g, kat keys x ≠ .var) := by
  have h := gInv keys keys.length
  unfold groupsF
  split
  · rename_i hr
    intro g hg
    rw [List.mem_append] at hg
    rcases hg with hg | hg
    · exact h.one g hg
    · rw [List.mem_singleton.mp hg]
      exact ⟨fun z => by rw [z] at hr; simp at hr, .inr h.run⟩
  · exact h.one
theorem mem_flat {G : List (List Int)} {g : List Int} (h : g ∈ G) {x : Int} (hx : x ∈ g) : x ∈ G.flatten := List.mem_flatten.mpr ⟨g, h, hx⟩
theorem groups_inR {keys : List Key} {g : List Int} (h : g ∈ groupsF keys) : InR keys g := fun x hx => inR_range keys x (groups_flat keys ▸ mem_flat h hx)
theorem len_flat_mem : ∀ {G : List (List Int)} {g : List Int}, g ∈ G → g.length ≤ G.flatten.length
  | a :: G, g, h => by
    rcases List.mem_cons.mp h with rfl | h
    · rw [List.flatten_cons, List.length_append]; omega
    · have := len_flat_mem h; rw [List.flatten_cons, List.length_append]; omega
theorem len_flat : ∀ {G : List (List Int)}, (∀ g ∈ G, g ≠ []) → G.length ≤ G.flatten.length
  | [], _ => by simp
  | a :: G, h => by
    have h1 := len_flat (G := G) fun g hg => h g (List.mem_cons_of_mem _ hg)
    have h2 := List.length_pos_iff.mpr (h a List.mem_cons_self)
    rw [List.flatten_cons, List.length_append, List.length_cons]; omega
theorem groups_len (keys : List Key) : (groupsF keys).length ≤ keys.length ∧ ∀ g ∈ groupsF keys, g.length ≤ keys.length := by
  have hf : (groupsF keys).flatten.length = keys.length := by rw [groups_flat, rangeI_len]
  exact ⟨by have := len_flat (G := groupsF keys) fun g hg => (groups_one keys g hg).1; omega, fun g hg => by have := len_flat_mem hg; omega⟩

noncomputable def labelStep (s : List Int × BSt) (g : List Int) : List Int × BSt := if g.length = 1 then (s.1 ++ [g.headD 0], s.2) else (s.1 ++ [s.2.next], { s.2 with next := s.2.next + 1 })
noncomputable def labelsF (G : List (List Int)) (st : BSt) : List Int × BSt := G.foldl labelStep ([], st)
noncomputable def grpRow (keys : List Key) (st : BSt) (p : List Int × Int) : BSt := if p.1.length > 1 then switchF keys { st with rows := st.rows ++ [.lab p.2] } p.1 else st
noncomputable def groupBlock (ar : Int) (keys : List Key) : List Row :=
  if (decide (ar = 0) || allVar keys) = true then chainBlock ar keys.length else
  if (groupsF keys).length = 1 then finishRows (switchF keys ⟨ar, [], [], keys.length⟩ ((groupsF keys).headD [])) keys.length else
  finishRows (((groupsF keys).zip (labelsF (groupsF keys) ⟨ar, [], [], keys.length⟩).1).foldl (grpRow keys) { (labelsF (groupsF keys) ⟨ar, [], [], keys.length⟩).2 with rows := chainRows ar (labelsF (groupsF keys) ⟨ar, [], [], keys.length⟩).1 }) keys.length

theorem labels_inv : ∀ (G : List (List Int)) (s : List Int × BSt), (G.foldl labelStep s).1.length = s.1.length + G.length ∧ (G.foldl labelStep s).2.rows = s.2.rows ∧ (G.foldl labelStep s).2.chains = s.2.chains ∧ (G.foldl labelStep s).2.ar = s.2.ar
  | [], s => by simp
  | g :: G, s => by
    have ih := labels_inv G (labelStep s g)
    have q : (labelStep s g).1.length = s.1.length + 1 ∧ (labelStep s g).2.rows = s.2.rows ∧ (labelStep s g).2.chains = s.2.chains ∧ (labelStep s g).2.ar = s.2.ar := by unfold labelStep; split <;> simp
    simp only [List.foldl_cons, List.length_cons]
    exact ⟨by omega, ih.2.1.trans q.2.1, ih.2.2.1.trans q.2.2.1, ih.2.2.2.trans q.2.2.2⟩
theorem grpRow_inv {M : Nat} (keys : List Key) : ∀ (l : List (List Int × Int)) (s : BSt), (∀ p ∈ l, p.1.length ≤ M) → ChOk M s → ChOk M (l.foldl (grpRow keys) s) ∧ (l.foldl (grpRow keys) s).chains.length ≤ s.chains.length + l.length * (2 * M + 3) ∧ (l.foldl (grpRow keys) s).rows.length ≤ s.rows.length + l.length * 6
  | [], s, _, h => ⟨h, by simp, by simp⟩
  | p :: l, s, hp, h => by
    have q : ChOk M (grpRow keys s p) ∧ (grpRow keys s p).chains.length ≤ s.chains.length + (2 * M + 3) ∧ (grpRow keys s p).rows.length ≤ s.rows.length + 6 := by
      have hpl := hp p List.mem_cons_self
      unfold grpRow
      split
      · obtain ⟨a, b, c⟩ := switchF_ok (M := M) (keys := keys) (st := { s with rows := s.rows ++ [.lab p.2] }) (ps := p.1) h hpl
        exact ⟨a, by dsimp only at b; omega, by simp at c; omega⟩
      · exact ⟨h, by omega, by omega⟩
    obtain ⟨a, b, c⟩ := grpRow_inv keys l (grpRow keys s p) (fun x hx => hp x (List.mem_cons_of_mem _ hx)) q.1
    have e1 : (l.length + 1) * (2 * M + 3) = l.length * (2 * M + 3) + (2 * M + 3) := Nat.succ_mul _ _
    rw [List.foldl_cons, List.length_cons, e1]
    exact ⟨a, by omega, by omega⟩
end Mini
end

noncomputable section -- PB12
set_option autoImplicit false
set_option linter.unusedVariables false
set_option linter.unusedSimpArgs false
namespace Mini
section
variable {d N c B y : Nat} {st : BSt} {H H₀ H₁ : AHeap} {ρ : Loc} {keys : List Key} {nm ar : Int}

theorem LL.fr {lo g N : Nat} {H H' : AHeap} {G : List (List Int)} (h : LL lo H g G) (f : Fr N H H') (hN : N + 3 < lo) : LL lo H' g G := h.keep fun j o hj e => f.same j o e (.inr (by omega))
theorem LL.len {lo g : Nat} {H : AHeap} {G : List (List Int)} (h : LL lo H g G) (hl : G.length < big) : lenOf H (.obj g) = some (G.length : Int) := by
  obtain ⟨_, gids, h1, h2, _⟩ := h
  have := len_l h1 (by rw [List.length_map, h2]; exact hl)
  rwa [List.length_map, h2] at this
theorem LL.sub {lo g : Nat} {H : AHeap} {G : List (List Int)} (h : LL lo H g G) (hl : G.length < big) {i : Nat} {grp : List Int} (hi : G[i]? = some grp) : ∃ id, lo ≤ id ∧ subOf theP H (.obj g) (.int (i : Int)) = some (.obj id) ∧ H[id]? = some (.list (grp.map AV.int)) := by
  obtain ⟨_, gids, h1, h2, h3⟩ := h
  obtain ⟨id, a, b, e⟩ := h3 i grp hi
  have := (List.getElem?_eq_some_iff.mp hi).1
  exact ⟨id, b, sub_l h1 (idx_nat (by omega) (by unfold big at hl; omega) (by simp [a])), e⟩

theorem b_groupblock (hs : SY H y nm ar) (hc : CS H B c keys) (hB : B ≤ H.length) (hn : keys.length < 20) (h2 : 2 ≤ keys.length) :
    ∃ q H', callF theP (d + 5) 22 [.obj y, .int nm, .obj c] H = some (.obj q, H') ∧ H'[q]? = some (.list ((groupBlock ar keys).map Row.av)) ∧ Grow H H' := by
  have hn' : keys.length < big := by unfold big; omega
  have c0 := lt2 (d := d + 4) (ρ := [some (.obj y), some (.int nm), some (.obj c), none, none, none, none, none, none]) hc hn' rfl
  rw [decide_eq_false (by omega)] at c0
  have c1 := test_flat (d := d + 3) (ρ := [some (.obj y), some (.int nm), some (.obj c), none, none, none, none, none, none]) hs hc rfl rfl rfl
  unfold groupBlock
  cases hf : (decide (ar = 0) || allVar keys) with
  | true =>
    rw [hf] at c1
    obtain ⟨q, H', e1, e2, e3⟩ := b_chainblock (d := d + 1) hs hc hB (by omega) h2
    exact ⟨q, H', k_ret rfl rfl (s_next (t_ifF c0 s_nil) (s_ret (t_ifT c1 (s_ret (t_ret' (r_call (rl_cons (r_loc (x := 0) rfl) (rl_cons (r_loc (x := 1) rfl) (rl_cons (r_loc (x := 2) rfl) rl_nil))) e1)))))), e2, e3⟩
  | false =>
    rw [hf] at c1
    rw [if_neg Bool.false_ne_true]
    obtain ⟨H1, a1, a2, a3⟩ := r_builder (d := d + 2) (ρ := [some (.obj y), some (.int nm), some (.obj c), none, none, none, none, none, none]) hs hc hn' rfl rfl rfl
    obtain ⟨q, H2, g1, g2, g3⟩ := b_groups (d := d + 3) (hc.grow a3) (by omega)
    have hN1 := get_lt a2.kn
    have hlo : H.length + 3 < H1.length := hN1
    have a2' : BS H2 H.length c ⟨ar, [], [], keys.length⟩ := ⟨g3.same _ _ a2.b, g3.same _ _ a2.r, g3.same _ _ a2.ch, g3.same _ _ a2.kn⟩
    have hg02 : Grow H H2 := a3.trans g3
    obtain ⟨gl1, gl2⟩ := groups_len keys
    have gone := groups_one keys
    have ginr : ∀ g ∈ groupsF keys, InR keys g := fun g hg => groups_inR hg
    have gfl : (groupsF keys).flatten.length = keys.length := by rw [groups_flat, rangeI_len]
    generalize groupsF keys = G at g2 gl1 gl2 gone ginr gfl ⊢
    have hGb : G.length < big := by unfold big; omega
    have gn := r_cmp (P := theP) (d := d + 4) (r_len (r_loc (ρ := [some (.obj y), some (.int nm), some (.obj c), some (.obj H.length), some (.obj q), none, none, none, none]) (x := 4) rfl) (g2.len hGb)) (r_lit (v := .int 1)) (c_int (b := 1))
    by_cases h1 : G.length = 1
    · rw [decide_eq_true (by omega)] at gn
      rw [if_pos h1]
      obtain ⟨grp, rfl⟩ : ∃ grp, G = [grp] := by
        match G, h1 with
        | [g], _ => exact ⟨g, rfl⟩
      obtain ⟨id, i1, i2, i3⟩ := g2.sub hGb (i := 0) (grp := grp) rfl
      have hgl := gl2 grp (by simp)
      obtain ⟨H3, b1, b2, b3⟩ := b_switch (d := d) a2' (hc.grow hg02) hB hn' i3 (.inr (by omega)) (ginr grp (by simp)) (by simp; unfold big; omega) (by simp; decide)
      have hg : Grow H H3 := hg02.fr b3 (Nat.le_refl _)
      obtain ⟨k1, k2, k3⟩ := switchF_ok (M := keys.length) (keys := keys) (st := ⟨ar, [], [], keys.length⟩) (ps := grp) (fun p hp => by simp at hp) hgl
      obtain ⟨H4, c1', c2, c3⟩ := b_finish (d := d + 2) b2 (hc.grow hg) hB hn' (M := keys.length) k1 hn' (by
        have : (switchF keys ⟨ar, [], [], keys.length⟩ grp).chains.length * (keys.length + 1) ≤ 1000 * 1000 := Nat.mul_le_mul (by simp at k2; omega) (by omega)
        simp at k3
        unfold big; omega)
      refine ⟨_, H4, k_ret rfl rfl (s_next (t_ifF c0 s_nil) (s_next (t_ifF c1 s_nil) (s_next (t_asg' a1) (s_next (t_asg' (r_call (rl_cons (r_loc (x := 2) rfl) rl_nil) g1)) (s_ret (t_ifT gn (s_next (t_expr' (r_meth (n := 62) (r_loc (x := 3) rfl) a2'.b (rl_cons (r_sub (r_loc (x := 4) rfl) r_lit i2) rl_nil) rfl rfl b1) rfl) (s_ret (t_ret' (r_meth (n := 61) (r_loc (x := 3) rfl) b2.b rl_nil rfl rfl c1')))))))))), ?_, hg.fr c3 (Nat.le_refl _)⟩
      simpa using c2
    · rw [decide_eq_false (by omega)] at gn
      rw [if_neg h1]
      have hG2 : 2 ≤ G.length := by
        have : G.length ≠ 0 := fun z => by
          rw [List.length_eq_zero_iff.mp z] at gfl
          simp at gfl; omega
        omega
      -- the labels
      have lbl := labels_inv
      obtain ⟨ρ5, H5, f0, f1, f2, f3, f4⟩ := for_lst (P := theP) (d := d + 4) (x := 6) (o := q) (kill := [6]) (body := [.ifs (.cmp .eq (.len (.loc 6)) (.lit (.int 1))) [.expr (.append (.loc 5) (.sub (.loc 6) (.lit (.int 0))))] [.expr (.append (.loc 5) (.meth (.loc 3) 47 []))]]) (l := g2.2.choose.map AV.obj)
        (fun i ρ Hh => ρ = [some (.obj y), some (.int nm), some (.obj c), some (.obj H.length), some (.obj q), some (.obj H2.length), none, none, none] ∧ BS Hh H.length c ((G.take i).foldl labelStep ([], ⟨ar, [], [], keys.length⟩)).2 ∧ Fr H.length H2 Hh ∧ Hh[H2.length]? = some (.list (((G.take i).foldl labelStep ([], ⟨ar, [], [], keys.length⟩)).1.map AV.int)))
        (fun i ρ Hh hI => hI.2.2.1.same _ _ g2.2.choose_spec.1 (.inr (by have := g2.1; omega)))
        (fun i v ρ Hh hv hI => by
          obtain ⟨rfl, hb, hfr, hL⟩ := hI
          have hi : i < G.length := by
            have := (List.getElem?_eq_some_iff.mp hv).1
            rw [List.length_map, g2.2.choose_spec.2.1] at this; exact this
          have hgi : G[i]? = some G[i] := by simp [hi]
          obtain ⟨id, k1, k2, k3⟩ := g2.2.choose_spec.2.2 i G[i] hgi
          obtain rfl : v = .obj id := by rw [List.getElem?_map, k1] at hv; simpa using hv.symm
          have k3' := hfr.same _ _ k3 (.inr (by omega))
          have hmem : G[i] ∈ G := List.getElem_mem _
          have hgl := gl2 _ hmem
          have inv := labels_inv (G.take i) ([], ⟨ar, [], [], keys.length⟩)
          have ht : (G.take (i + 1)).foldl labelStep ([], ⟨ar, [], [], keys.length⟩) = labelStep ((G.take i).foldl labelStep ([], ⟨ar, [], [], keys.length⟩)) G[i] := by rw [take_more hgi, List.foldl_append]; rfl
          rw [ht]
          generalize (G.take i).foldl labelStep ([], ⟨ar, [], [], keys.length⟩) = s at hb hL inv
          rw [List.length_take] at inv
          have inv1 : s.1.length ≤ i := by have := inv.1; simp at this; omega
          have cond := r_cmp (P := theP) (d := d + 4) (r_len (r_loc (ρ := [some (.obj y), some (.int nm), some (.obj c), some (.obj H.length), some (.obj q), some (.obj H2.length), some (.obj id), none, none]) (x := 6) rfl) (len_l k3' (by rw [List.length_map]; unfold big; omega))) (r_lit (v := .int 1)) (c_int (b := 1))
          rw [List.length_map] at cond
          unfold labelStep
          by_cases hg1 : G[i].length = 1
          · rw [decide_eq_true (by omega)] at cond
            rw [if_pos hg1]
            obtain ⟨x, hx⟩ : ∃ x, G[i] = [x] := List.length_eq_one_iff.mp hg1
            rw [hx] at k3' ⊢
            have s1 := t_expr' (r_append (P := theP) (d := d + 4) (e := .loc 5) (x := .sub (.loc 6) (.lit (.int 0))) (ρ := [some (.obj y), some (.int nm), some (.obj c), some (.obj H.length), some (.obj q), some (.obj H2.length), some (.obj id), none, none]) (r_loc rfl) hL (r_sub (r_loc (x := 6) rfl) r_lit (sub_l k3' rfl)) hL (by rw [List.length_map]; unfold big; omega)) rfl
            refine ⟨_, _, s_next (t_ifT cond (s_next s1 s_nil)) s_nil, rfl, ?_, ?_, by rw [get_set hL]; simp⟩
            · have := g3.len
              exact ⟨get_set_ne hb.b (by omega), get_set_ne hb.r (by omega), get_set_ne hb.ch (by omega), get_set_ne hb.kn (by omega)⟩
            · exact ⟨by rw [List.length_set]; exact hfr.len, fun j o e hj => get_set_ne (hfr.same j o e hj) (by have := get_lt e; omega)⟩
          · rw [decide_eq_false (by omega)] at cond
            rw [if_neg hg1]
            obtain ⟨H6, m1, m2, m3⟩ := b_fresh (d := d + 3) hb
            have := g3.len
            have hL6 := m3.same _ _ hL (.inr (by omega))
            have s1 := t_expr' (r_append (P := theP) (d := d + 4) (e := .loc 5) (x := .meth (.loc 3) 47 []) (ρ := [some (.obj y), some (.int nm), some (.obj c), some (.obj H.length), some (.obj q), some (.obj H2.length), some (.obj id), none, none]) (r_loc rfl) hL (r_meth (r_loc (x := 3) rfl) hb.b rl_nil rfl rfl m1) hL6 (by rw [List.length_map]; unfold big; omega)) rfl
            refine ⟨_, _, s_next (t_ifF cond (s_next s1 s_nil)) s_nil, rfl, ?_, ?_, by rw [get_set hL6]; simp⟩
            · exact ⟨get_set_ne m2.b (by omega), get_set_ne m2.r (by omega), get_set_ne m2.ch (by omega), get_set_ne m2.kn (by omega)⟩
            · exact ⟨by rw [List.length_set]; exact (hfr.trans m3).len, fun j o e hj => get_set_ne ((hfr.trans m3).same j o e hj) (by have := get_lt e; omega)⟩)
        G.length 0 [some (.obj y), some (.int nm), some (.obj c), some (.obj H.length), some (.obj q), some (.obj H2.length), none, none, none] (H2 ++ [.list []]) (by rw [List.length_map, g2.2.choose_spec.2.1]; omega) ⟨rfl, a2'.app, .app, get_last⟩
      rw [List.length_map, g2.2.choose_spec.2.1, List.take_length] at f2 f4
      subst f1
      have inv := labels_inv G ([], ⟨ar, [], [], keys.length⟩)
      have hlf : labelsF G ⟨ar, [], [], keys.length⟩ = G.foldl labelStep ([], ⟨ar, [], [], keys.length⟩) := rfl
      rw [hlf]
      generalize G.foldl labelStep ([], ⟨ar, [], [], keys.length⟩) = s at f2 f4 inv ⊢
      obtain ⟨ls, s⟩ := s
      dsimp only at f2 f4 inv ⊢
      obtain ⟨v1, v2, v3, v4⟩ := inv
      simp only [List.length_nil, Nat.zero_add] at v1
      have hlen02 := g3.len
      -- the rows of the groups' chain
      have rows := b_rows (d := d + 3) f2 (v := .obj H2.length) (ps := ls) (.inl ⟨_, rfl, f4⟩) (by omega) (by unfold big; omega)
      rw [v4] at rows
      obtain ⟨H6, b1, b2, b3⟩ := b_addrows (d := d + 4) (ρ := [some (.obj y), some (.int nm), some (.obj c), some (.obj H.length), some (.obj q), some (.obj H2.length), none, none, none]) (f2.app (l := [.list ((chainRows ar ls).map Row.av)])) (bi := 3) (xi := 7) (T := H5.length) (rs := chainRows ar ls) get_last (.inr (get_lt f2.kn)) (by rw [chainRows_len, v2]; simp; unfold big; omega) rfl rfl (by decide)
      rw [v2, List.nil_append] at b2
      have fr6 : Fr H.length H2 H6 := f3.trans (Fr.app.trans b3)
      have hL6 : H6[H2.length]? = some (.list (ls.map AV.int)) := (Fr.app.trans b3).same _ _ f4 (.inr (by omega))
      generalize hst6 : ({ s with rows := chainRows ar ls } : BSt) = st6 at b2 ⊢
      have w6 : st6.chains = [] ∧ st6.rows.length = ls.length := by subst hst6; exact ⟨v3, chainRows_len _ _⟩
      -- the groups' switches
      obtain ⟨ρ8, H8, p0, p1, p2, p3⟩ := for_vals (P := theP) (d := d + 4) (x := 8) (kill := [8]) (body := [.ifs (.cmp .gt (.len (.sub (.loc 4) (.loc 8))) (.lit (.int 1))) [.expr (.append (.attr (.loc 3) 40) (.tup [(.lit (.sym 56)), (.sub (.loc 5) (.loc 8))])),
          .expr (.meth (.loc 3) 62 [(.sub (.loc 4) (.loc 8))])] []]) (l := rints 0 (G.length : Int))
        (fun i ρ Hh => ρ = [some (.obj y), some (.int nm), some (.obj c), some (.obj H.length), some (.obj q), some (.obj H2.length), none, none, none] ∧ BS Hh H.length c (((G.zip ls).take i).foldl (grpRow keys) st6) ∧ Fr H.length H6 Hh)
        (fun i v ρ Hh hv hI => by
          obtain ⟨rfl, hb, hfr⟩ := hI
          obtain ⟨rfl, hi⟩ := rints_get hv
          rw [Int.zero_add]
          have hi' : i < G.length := by omega
          have hgi : G[i]? = some G[i] := by simp [hi']
          have hli : ls[i]? = some ls[i] := by simp [v1, hi']
          have hz : (G.zip ls)[i]? = some (G[i], ls[i]) := by rw [List.getElem?_zip_eq_some]; exact ⟨hgi, hli⟩
          have ht : ((G.zip ls).take (i + 1)).foldl (grpRow keys) st6 = grpRow keys (((G.zip ls).take i).foldl (grpRow keys) st6) (G[i], ls[i]) := by rw [take_more hz, List.foldl_append]; rfl
          rw [ht]
          have inv := grpRow_inv (M := keys.length) keys ((G.zip ls).take i) st6 (fun p hp => gl2 _ (List.of_mem_zip (List.mem_of_mem_take hp)).1) (fun p hp => by rw [w6.1] at hp; simp at hp)
          generalize ((G.zip ls).take i).foldl (grpRow keys) st6 = s' at hb inv
          obtain ⟨i1, i2, i3⟩ := inv
          rw [List.length_take, w6.1] at i2
          rw [List.length_take, w6.2] at i3
          have im : min i (G.zip ls).length * (2 * keys.length + 3) ≤ 20 * 50 := Nat.mul_le_mul (by omega) (by omega)
          simp only [List.length_nil, Nat.zero_add] at i2
          have fr := fr6.trans hfr
          have ll := g2.fr fr (by omega)
          obtain ⟨id, k1, k2, k3⟩ := ll.sub hGb hgi
          have hmem : G[i] ∈ G := List.getElem_mem _
          have hgl := gl2 _ hmem
          have hLh := hfr.same _ _ hL6 (.inr (by omega))
          have cond := r_cmp (P := theP) (d := d + 4) (r_len (r_sub (r_loc (ρ := [some (.obj y), some (.int nm), some (.obj c), some (.obj H.length), some (.obj q), some (.obj H2.length), none, none, some (.int (i : Int))]) (x := 4) rfl) (r_loc (x := 8) rfl) k2) (len_l k3 (by rw [List.length_map]; unfold big; omega))) (r_lit (v := .int 1)) (show cmpOf theP Hh .gt _ _ = some (decide (((G[i].map AV.int).length : Int) > 1)) from rfl)
          unfold grpRow
          dsimp only
          by_cases hg1 : G[i].length > 1
          · rw [decide_eq_true (by rw [List.length_map]; omega)] at cond
            rw [if_pos hg1]
            obtain ⟨H9, x1, x2, x3⟩ := b_push (d := d + 4) (ρ := [some (.obj y), some (.int nm), some (.obj c), some (.obj H.length), some (.obj q), some (.obj H2.length), none, none, some (.int (i : Int))]) (bi := 3) (e := .tup [(.lit (.sym 56)), (.sub (.loc 5) (.loc 8))]) (row := .lab ls[i]) hb rfl (r_tup (rl_cons r_lit (rl_cons (r_sub (r_loc (x := 5) rfl) (r_loc (x := 8) rfl) (sub_l hLh (idx_nat (by omega) (by omega) (by simp [v1, hi'])))) rl_nil)) (show 2 < big by decide)) hb (by unfold big; omega)
            have fr9 := fr.trans x3
            obtain ⟨id', k1', k2', k3'⟩ := (g2.fr fr9 (by omega)).sub hGb hgi
            obtain ⟨H10, y1, y2, y3⟩ := b_switch (d := d) x2 (hc.grow (hg02.fr fr9 (Nat.le_refl _))) hB hn' k3' (.inr (by omega)) (ginr _ hmem) (by show s'.chains.length + _ + _ < _; unfold big; omega) (by simp; unfold big; omega)
            exact ⟨_, _, s_next (t_ifT cond (s_next x1 (s_next (t_expr' (r_meth (n := 62) (r_loc (x := 3) rfl) x2.b (rl_cons (r_sub (r_loc (x := 4) rfl) (r_loc (x := 8) rfl) k2') rl_nil) rfl rfl y1) rfl) s_nil))) s_nil, rfl, y2, hfr.trans (x3.trans y3)⟩
          · rw [decide_eq_false (by rw [List.length_map]; omega)] at cond
            rw [if_neg hg1]
            exact ⟨_, _, s_next (t_ifF cond s_nil) s_nil, rfl, hb, hfr⟩)
        G.length 0 [some (.obj y), some (.int nm), some (.obj c), some (.obj H.length), some (.obj q), some (.obj H2.length), none, none, none] H6 (by rw [rints_len]; omega) ⟨rfl, by simpa using b2, .refl⟩
      have hzl : (G.zip ls).length = G.length := by simp [v1]
      have hlr : (rints 0 (G.length : Int)).length = (G.zip ls).length := by rw [rints_len]; omega
      rw [hlr, List.take_length] at p2
      subst p1
      have inv := grpRow_inv (M := keys.length) keys (G.zip ls) st6 (fun p hp => gl2 _ (List.of_mem_zip hp).1) (fun p hp => by rw [w6.1] at hp; simp at hp)
      generalize (G.zip ls).foldl (grpRow keys) st6 = s' at p2 inv ⊢
      obtain ⟨i1, i2, i3⟩ := inv
      rw [hzl, w6.1] at i2
      rw [hzl, w6.2] at i3
      have im : G.length * (2 * keys.length + 3) ≤ 20 * 50 := Nat.mul_le_mul (by omega) (by omega)
      simp only [List.length_nil, Nat.zero_add] at i2
      have fr8 := fr6.trans p3
      have hg8 : Grow H H8 := hg02.fr fr8 (Nat.le_refl _)
      obtain ⟨H11, z1, z2, z3⟩ := b_finish (d := d + 2) p2 (hc.grow hg8) hB hn' (M := keys.length) i1 hn' (by
        have : s'.chains.length * (keys.length + 1) ≤ 1000 * 100 := Nat.mul_le_mul (by omega) (by omega)
        unfold big; omega)
      exact ⟨_, H11, k_ret rfl rfl (s_next (t_ifF c0 s_nil) (s_next (t_ifF c1 s_nil) (s_next (t_asg' a1) (s_next (t_asg' (r_call (rl_cons (r_loc (x := 2) rfl) rl_nil) g1)) (s_next (t_ifF gn s_nil) (s_next (t_asg' (r_list rl_nil (show 0 < big by decide)))
        (s_next (t_for' (ri_lst (r_loc (x := 4) rfl) (get_app g2.2.choose_spec.1)) f0) (s_next (t_for' (ri_lst (r_meth (n := 59) (r_loc (x := 3) rfl) f2.b (rl_cons (r_loc (x := 5) rfl) rl_nil) rfl rfl rows) get_last) b1)
          (s_next (t_for' (ri_range1 (r_len (r_loc (x := 4) rfl) ((g2.fr fr6 (by omega)).len hGb)) (by unfold big; omega)) p0) (s_ret (t_ret' (r_meth (n := 61) (r_loc (x := 3) rfl) p2.b rl_nil rfl rfl z1)))))))))))), z2, hg8.fr z3 (Nat.le_refl _)⟩
end
end Mini
end

noncomputable section -- PB13
set_option autoImplicit false
set_option linter.unusedVariables false
set_option linter.unusedSimpArgs false
namespace Mini
noncomputable def Row.kd : Row → Nat
  | .lab _ => 56
  | .tri _ _ => 44
  | .retry _ => 45
  | .trust _ => 46
  | .sot _ _ _ _ => 55
  | .soc _ _ => 57
  | .sos _ _ => 58
  | .exec _ => 65
  | .fail => 17
theorem Row.kd_lt (r : Row) : r.kd < theP.syms := by show _ < 66; cases r <;> simp [Row.kd]
theorem dlook_dput (es : List (AV × AV)) (k v k' : AV) : dlook (dput es k v) k' = if k' = k then some v else dlook es k' := by
  unfold dput
  split
  · rename_i h
    induction es with
    | nil => simp [dlook] at h
    | cons e es ih =>
      by_cases he : e.1 = k
      · by_cases hk : k' = k
        · subst hk; simp [dlook, List.find?_cons, he]
        · have h1 : ¬ e.1 = k' := fun z => hk (z.symm.trans he)
          have : ∀ l : List (AV × AV), dlook (l.map fun e => if e.1 = k then (e.1, v) else e) k' = dlook l k' := by
            intro l
            induction l with
            | nil => rfl
            | cons q l ihl =>
              by_cases hq : q.1 = k
              · have h2 : ¬ q.1 = k' := fun z => hk (z.symm.trans hq)
                have h3 : ¬ k = k' := fun z => hk z.symm
                simp only [dlook, List.map_cons, hq, if_true, List.find?_cons, h3, decide_false] at ihl ⊢
                exact ihl
              · by_cases hq' : q.1 = k'
                · simp only [dlook, List.map_cons, hq', hk, if_false, List.find?_cons, decide_true]
                · simp only [dlook, List.map_cons, hq, if_false, List.find?_cons, hq', decide_false] at ihl ⊢
                  exact ihl
          rw [if_neg hk]; exact this _
      · have h' : (dlook es k).isSome = true := by simpa [dlook, List.find?_cons, he] using h
        have ih := ih h'
        by_cases hk : e.1 = k'
        · have : ¬ k' = k := fun z => he (hk.trans z)
          simp only [dlook, List.map_cons, he, if_false, List.find?_cons, hk, decide_true, if_neg this]
        · simp only [dlook, List.map_cons, he, if_false, List.find?_cons, hk, decide_false] at ih ⊢
          exact ih
  · rename_i h
    unfold dlook at h ⊢
    rw [List.find?_append]
    by_cases hk : k' = k
    · subst hk
      have : es.find? (fun e => decide (e.1 = k')) = none := by
        cases hh : es.find? (fun e => decide (e.1 = k')) with
        | none => rfl
        | some x => rw [hh] at h; simp at h
      rw [this]; simp
    · have : ¬ k = k' := fun z => hk z.symm
      simp [hk, this]
theorem dput_len (es : List (AV × AV)) (k v : AV) : (dput es k v).length ≤ es.length + 1 := by unfold dput; split <;> simp
theorem dput_keys {es : List (AV × AV)} {k v : AV} (h : ∀ e ∈ es, ∃ i, e.1 = AV.int i) (hk : ∃ i, k = AV.int i) : ∀ e ∈ dput es k v, ∃ i, e.1 = AV.int i := by
  unfold dput
  split
  · intro e he
    obtain ⟨q, hq, rfl⟩ := List.mem_map.mp he
    split
    · exact h q hq
    · exact h q hq
  · intro e he
    rw [List.mem_append] at he
    rcases he with he | he
    · exact h e he
    · rw [List.mem_singleton.mp he]; exact hk
theorem int_fits {es : List (AV × AV)} (h : ∀ e ∈ es, ∃ i, e.1 = AV.int i) (k : Int) : keyFits theP es (.int k) = true := by
  unfold keyFits
  simp only [keyKind, Option.isSome_some, Bool.true_and, List.all_eq_true]
  intro e he
  obtain ⟨i, hi⟩ := h e he
  rw [hi]; rfl

section
variable {d b : Nat} {H : AHeap} {ρ : Loc} {blk : List Row}
theorem r_rowkd {r : Row} {e : ME} (h : evE theP d e ρ H = some (r.av, H)) : evE theP d (.sub e (.lit (.int 0))) ρ H = some (.sym r.kd, H) := by
  cases r <;> exact r_sub h r_lit (sub_t rfl)
theorem sub_blk (hb : H[b]? = some (.list (blk.map Row.av))) (hl : blk.length < big) {p : Nat} {r : Row} (hp : blk[p]? = some r) : subOf theP H (.obj b) (.int (p : Int)) = some r.av := by
  have := (List.getElem?_eq_some_iff.mp hp).1
  exact sub_l hb (idx_nat (by omega) (by unfold big at hl; omega) (by simp [hp]))

theorem b_labels (hb : H[b]? = some (.list (blk.map Row.av))) (hl : blk.length < big) (hU : ∀ (j j' : Nat) (l : Int), blk[j]? = some (.lab l) → blk[j']? = some (.lab l) → j = j') :
    ∃ es, callF theP (d + 1) 23 [.obj b] H = some (.obj H.length, H ++ [.dict es]) ∧ (∀ e ∈ es, ∃ i, e.1 = AV.int i) ∧ ∀ (j : Nat) (l : Int), blk[j]? = some (.lab l) → dlook es (.int l) = some (.int (j : Int)) := by
  obtain ⟨ρ', H', e, es, e1, e2, e3, e4, e5⟩ := for_vals (P := theP) (d := d) (x := 2) (kill := [2]) (body := [.ifs (.cmp .eq (.sub (.sub (.loc 0) (.loc 2)) (.lit (.int 0))) (.lit (.sym 56))) [.sitem (.loc 1) (.sub (.sub (.loc 0) (.loc 2)) (.lit (.int 1))) (.loc 2)] []]) (l := rints 0 (blk.length : Int))
    (fun i ρ Hh => ∃ es, ρ = [some (.obj b), some (.obj H.length), none] ∧ Hh = H ++ [.dict es] ∧ es.length ≤ i ∧ (∀ e ∈ es, ∃ i, e.1 = AV.int i) ∧ ∀ (j : Nat) (l : Int), j < i → blk[j]? = some (.lab l) → dlook es (.int l) = some (.int (j : Int)))
    (fun i v ρ Hh hv hI => by
      obtain ⟨es, rfl, rfl, i1, i2, i3⟩ := hI
      obtain ⟨rfl, hi⟩ := rints_get hv
      rw [Int.zero_add]
      have hi' : i < blk.length := by omega
      have hr : blk[i]? = some blk[i] := by simp [hi']
      generalize blk[i] = r at hr
      have row := r_sub (r_loc (P := theP) (d := d) (ρ := [some (.obj b), some (.obj H.length), some (.int (i : Int))]) (H := H ++ [.dict es]) (x := 0) rfl) (r_loc (x := 2) rfl) (sub_blk (get_app hb) hl hr)
      have cond := r_cmp (r_rowkd row) (r_lit (v := .sym 56)) (c_sym (b := 56) r.kd_lt (by decide))
      by_cases hk : r.kd = 56
      · rw [decide_eq_true hk] at cond
        obtain ⟨l, rfl⟩ : ∃ l, r = .lab l := by cases r <;> first | (simp [Row.kd] at hk; done) | exact ⟨_, rfl⟩
        have s1 := t_sitem' (P := theP) (d := d) (o := .loc 1) (k := .sub (.sub (.loc 0) (.loc 2)) (.lit (.int 1))) (e := .loc 2) (r_loc (x := 2) rfl) (r_loc (x := 1) rfl) (r_sub row r_lit (sub_t rfl)) get_last (int_fits i2 l) (by unfold big at *; omega)
        rw [set_last] at s1
        refine ⟨_, _, s_next (t_ifT cond (s_next s1 s_nil)) s_nil, _, rfl, rfl, by have := dput_len es (.int l) (.int i); omega, dput_keys i2 ⟨_, rfl⟩, fun j l' hj hjl => ?_⟩
        rw [dlook_dput]
        by_cases hjl' : l' = l
        · subst hjl'
          rw [if_pos rfl, hU j i _ hjl hr]
        · rw [if_neg (by simpa using hjl')]
          refine i3 j l' (Nat.lt_of_le_of_ne (by omega) fun z => ?_) hjl
          subst z
          rw [hr] at hjl; simp at hjl; exact hjl' hjl.symm
      · rw [decide_eq_false hk] at cond
        refine ⟨_, _, s_next (t_ifF cond s_nil) s_nil, es, rfl, rfl, by omega, i2, fun j l' hj hjl => i3 j l' (Nat.lt_of_le_of_ne (by omega) fun z => ?_) hjl⟩
        subst z
        rw [hr] at hjl; simp at hjl; subst hjl; exact hk rfl)
    blk.length 0 [some (.obj b), some (.obj H.length), none] (H ++ [.dict []]) (by rw [rints_len]; omega) ⟨[], rfl, rfl, by simp, by simp, fun j l hj => by omega⟩
  have hlr : (rints 0 (blk.length : Int)).length = blk.length := by rw [rints_len]; omega
  rw [hlr] at e5
  subst e1 e2
  refine ⟨es, k_ret rfl rfl (s_next (t_asg' r_dict0) (s_next (t_for' (ri_range1 (r_len (r_loc (x := 0) rfl) (len_l (get_app hb) (by rw [List.length_map]; exact hl))) (by rw [List.length_map]; unfold big at *; omega)) (by rw [List.length_map]; exact e)) (s_ret (t_ret' (r_loc (x := 1) rfl))))), e4, fun j l h => e5 j l (List.getElem?_eq_some_iff.mp h).1 h⟩

noncomputable def tgt (k : Key) (v c l s : Int) : Int := match k with
  | .var => v
  | .list => l
  | .struct _ => s
  | .const _ _ => c
theorem b_target (k : Key) (v c l s : Int) : callF theP (d + 1) 24 [(Row.sot v c l s).av, k.av] H = some (.int (tgt k v c l s), H) := by
  have s1 := t_asg' (x := 2) (r_kd (d := d) (k := k) (H := H) (e := .loc 1) (ρ := [some (Row.sot v c l s).av, some k.av, none]) (r_loc rfl))
  have cs := fun (n : Nat) (hn : n < 66) => r_cmp (P := theP) (d := d) (H := H) (r_loc (x := 2) (ρ := [some (Row.sot v c l s).av, some k.av, some (.sym k.kd)]) rfl) (r_lit (v := .sym n)) (c_sym (b := n) (kd_lt k) hn)
  have c1 := cs 51 (by decide)
  have c2 := cs 54 (by decide)
  have c3 := cs 53 (by decide)
  cases k with
  | var => exact k_ret rfl rfl (s_next s1 (s_next (t_ifF c1 s_nil) (s_next (t_ifF c2 s_nil) (s_next (t_ifF c3 s_nil) (s_ret (t_ret' (r_sub (r_loc (x := 0) rfl) r_lit (sub_t rfl))))))))
  | list => exact k_ret rfl rfl (s_next s1 (s_next (t_ifF c1 s_nil) (s_ret (t_ifT c2 (s_ret (t_ret' (r_sub (r_loc (x := 0) rfl) r_lit (sub_t rfl))))))))
  | struct i => exact k_ret rfl rfl (s_next s1 (s_next (t_ifF c1 s_nil) (s_next (t_ifF c2 s_nil) (s_ret (t_ifT c3 (s_ret (t_ret' (r_sub (r_loc (x := 0) rfl) r_lit (sub_t rfl)))))))))
  | const t i => exact k_ret rfl rfl (s_next s1 (s_ret (t_ifT c1 (s_ret (t_ret' (r_sub (r_loc (x := 0) rfl) r_lit (sub_t rfl)))))))

noncomputable def look (ps : List (AV × Int)) (dl : Int) (k : Key) : Int := match ps.find? fun p => decide (p.1 = k.snd) with
  | some p => p.2
  | none => dl
theorem snd_ok {k : Key} : eqOk theP 4 k.snd = true := by cases k <;> rfl
theorem b_tt {k : Key} (hk : k.kd = 51 ∨ k.kd = 53) {ps : List (AV × Int)} {dl : Int} {n : Nat} (hps : ∀ p ∈ ps, eqOk theP 4 p.1 = true) : callF theP (d + 1) 25 [.tup [.sym n, .tup (ps.map pairAv), .int dl], k.av] H = some (.int (look ps dl k), H) := by
  have loop : ∀ (m i : Nat), m + i = ps.length → ∃ ρ', evFor theP d (2, [2], [.ifs (.cmp .eq (.sub (.loc 2) (.lit (.int 0))) (.sub (.loc 1) (.lit (.int 1)))) [.ret (.sub (.loc 2) (.lit (.int 1)))] []]) (.vals (ps.map pairAv)) i [some (.tup [.sym n, .tup (ps.map pairAv), .int dl]), some k.av, none] H =
      some (match (ps.drop i).find? fun p => decide (p.1 = k.snd) with
        | some p => (.ret (.int p.2), ρ', H)
        | none => (.next, [some (.tup [.sym n, .tup (ps.map pairAv), .int dl]), some k.av, none], H)) := by
    intro m
    induction m with
    | zero =>
      intro i hi
      refine ⟨[], ?_⟩
      rw [for_end (by simp [srcAt]; omega), List.drop_of_length_le (by omega)]; rfl
    | succ m ih =>
      intro i hi
      have hip : i < ps.length := by omega
      obtain ⟨ρ', hr⟩ := ih (i + 1) (by omega)
      have hdrop : ps.drop i = ps[i] :: ps.drop (i + 1) := List.drop_eq_getElem_cons hip
      have cond := r_cmp (P := theP) (d := d) (H := H) (r_sub (r_loc (x := 2) (v := pairAv ps[i]) (ρ := [some (.tup [.sym n, .tup (ps.map pairAv), .int dl]), some k.av, some (pairAv ps[i])]) rfl) (r_lit (v := .int 0)) (sub_t rfl)) (r_snd hk (r_loc (x := 1) rfl)) (c_eq (hps _ (List.getElem_mem hip)) snd_ok)
      rw [for_turn (v := pairAv ps[i]) (by simp [srcAt, hip]), hdrop, List.find?_cons]
      cases hd : decide (ps[i].1 = k.snd) with
      | true =>
        rw [hd] at cond
        refine ⟨[some (.tup [.sym n, .tup (ps.map pairAv), .int dl]), some k.av, some (pairAv ps[i])], ?_⟩
        have s : evSs theP d [.ifs (.cmp .eq (.sub (.loc 2) (.lit (.int 0))) (.sub (.loc 1) (.lit (.int 1)))) [.ret (.sub (.loc 2) (.lit (.int 1)))] []] [some (.tup [.sym n, .tup (ps.map pairAv), .int dl]), some k.av, some (pairAv ps[i])] H = _ := s_ret (t_ifT cond (s_ret (t_ret' (r_sub (r_loc (x := 2) rfl) r_lit (sub_t rfl)))))
        show (evSs theP d _ [some (.tup [.sym n, .tup (ps.map pairAv), .int dl]), some k.av, some (pairAv ps[i])] H >>= _) = _
        rw [s]; rfl
      | false =>
        rw [hd] at cond
        refine ⟨ρ', ?_⟩
        have s : evSs theP d [.ifs (.cmp .eq (.sub (.loc 2) (.lit (.int 0))) (.sub (.loc 1) (.lit (.int 1)))) [.ret (.sub (.loc 2) (.lit (.int 1)))] []] [some (.tup [.sym n, .tup (ps.map pairAv), .int dl]), some k.av, some (pairAv ps[i])] H = _ := s_next (t_ifF cond s_nil) s_nil
        show (evSs theP d _ [some (.tup [.sym n, .tup (ps.map pairAv), .int dl]), some k.av, some (pairAv ps[i])] H >>= _) = _
        rw [s]; exact hr
  obtain ⟨ρ', e⟩ := loop ps.length 0 (by omega)
  rw [List.drop_zero] at e
  unfold look
  cases hd : ps.find? fun p => decide (p.1 = k.snd) with
  | some p =>
    rw [hd] at e
    exact k_ret rfl rfl (s_ret (t_for' (ri_tup (r_sub (r_loc (x := 0) rfl) r_lit (sub_t rfl))) e))
  | none =>
    rw [hd] at e
    exact k_ret rfl rfl (s_next (t_for' (ri_tup (r_sub (r_loc (x := 0) rfl) r_lit (sub_t rfl))) e) (s_ret (t_ret' (r_sub (r_loc (x := 0) rfl) r_lit (sub_t rfl)))))
end
end Mini
end

noncomputable section -- PB14
set_option autoImplicit false
set_option linter.unusedVariables false
set_option linter.unusedSimpArgs false
namespace Mini
mutual
/-- from a place of the block, these clauses are tried (n bounds the steps) -/
inductive D (blk : List Row) (m : Int) (k : Key) : Nat → Nat → List Int → Prop
  | here {p : Nat} {l : Int} : blk[p]? = some (.lab l) → l < m → D blk m k 1 p [l]
  | lab {n p : Nat} {l : Int} {o : List Int} : blk[p]? = some (.lab l) → ¬ l < m → D blk m k n (p + 1) o → D blk m k (n + 1) p o
  | tri {n n' p : Nat} {l a : Int} {o o' : List Int} : blk[p]? = some (.tri l a) → DL blk m k n l o → D blk m k n' (p + 1) o' → D blk m k (n + n' + 1) p (o ++ o')
  | retry {n n' p : Nat} {l : Int} {o o' : List Int} : blk[p]? = some (.retry l) → DL blk m k n l o → D blk m k n' (p + 1) o' → D blk m k (n + n' + 1) p (o ++ o')
  | trust {n p : Nat} {l : Int} {o : List Int} : blk[p]? = some (.trust l) → DL blk m k n l o → D blk m k (n + 1) p o
  | sot {n p : Nat} {v c l s : Int} {o : List Int} : blk[p]? = some (.sot v c l s) → DL blk m k n (tgt k v c l s) o → D blk m k (n + 1) p o
  | soc {n p : Nat} {ps : List (AV × Int)} {dl : Int} {o : List Int} : blk[p]? = some (.soc ps dl) → (k.kd = 51 ∨ k.kd = 53) → (∀ q ∈ ps, eqOk theP 4 q.1 = true) → DL blk m k n (look ps dl k) o → D blk m k (n + 1) p o
  | sos {n p : Nat} {ps : List (AV × Int)} {dl : Int} {o : List Int} : blk[p]? = some (.sos ps dl) → (k.kd = 51 ∨ k.kd = 53) → (∀ q ∈ ps, eqOk theP 4 q.1 = true) → DL blk m k n (look ps dl k) o → D blk m k (n + 1) p o
inductive DL (blk : List Row) (m : Int) (k : Key) : Nat → Int → List Int → Prop
  | fail : DL blk m k 0 (-1) []
  | go {n p : Nat} {l : Int} {o : List Int} : l ≠ -1 → blk[p]? = some (.lab l) → D blk m k n p o → DL blk m k n l o
end

noncomputable def tCond : ME := .cmp .gt (.len (.loc 5)) (.lit (.int 0))
noncomputable def tMid : MS := .ifs (.cmp .eq (.loc 8) (.lit (.sym 56))) [.ifs (.cmp .lt (.sub (.loc 7) (.lit (.int 1))) (.loc 1)) [.expr (.append (.loc 4) (.sub (.loc 7) (.lit (.int 1))))] [.expr (.append (.loc 5) (.bin .add (.loc 6) (.lit (.int 1))))]] [.ifs (.ors [(.cmp .eq (.loc 8) (.lit (.sym 44))), (.cmp .eq (.loc 8) (.lit (.sym 45)))]) [.expr (.append (.loc 5) (.bin .add (.loc 6) (.lit (.int 1)))),
     .asg 9 (.sub (.loc 7) (.lit (.int 1)))] [.ifs (.cmp .eq (.loc 8) (.lit (.sym 46))) [.asg 9 (.sub (.loc 7) (.lit (.int 1)))] [.ifs (.cmp .eq (.loc 8) (.lit (.sym 55))) [.asg 9 (.call 24 [(.loc 7), (.loc 2)])] [.ifs (.ors [(.cmp .eq (.loc 8) (.lit (.sym 57))), (.cmp .eq (.loc 8) (.lit (.sym 58)))]) [.asg 9 (.call 25 [(.loc 7), (.loc 2)])] [.stuck]]]]]
noncomputable def tLast : MS := .ifs (.cmp .ne (.loc 9) (.lit (.int (-1)))) [.expr (.append (.loc 5) (.sub (.loc 3) (.loc 9)))] []
noncomputable def tBody : List MS := [.asg 6 (.pop (.loc 5)), .asg 7 (.sub (.loc 0) (.loc 6)), .asg 8 (.sub (.loc 7) (.lit (.int 0))), .asg 9 (.lit (.int (-1))), tMid, tLast]

/-- what the loop sees: the block, the labels' places -/
structure TS0 (H : AHeap) (b w : Nat) (blk : List Row) (es : List (AV × AV)) : Prop where
  bk : H[b]? = some (.list (blk.map Row.av))
  len : blk.length < big
  wh : H[w]? = some (.dict es)
  int : ∀ e ∈ es, ∃ i, e.1 = AV.int i
  at_ : ∀ (j : Nat) (l : Int), blk[j]? = some (Row.lab l) → dlook es (.int l) = some (.int (j : Int))

noncomputable def Tgl (blk : List Row) (l : Int) (tl : List Int) : Prop := (l = -1 ∧ tl = []) ∨ (l ≠ -1 ∧ ∃ p : Nat, blk[p]? = some (.lab l) ∧ tl = [(p : Int)])
section
variable {d b w : Nat} {H : AHeap} {blk : List Row} {es : List (AV × AV)} {m : Int} {k : Key}
theorem set_p {a b c : AObj} : (H ++ [a] ++ [b]).set (H.length + 1) c = H ++ [a] ++ [c] := by
  have : (H ++ [a]).length = H.length + 1 := by simp
  rw [← this, set_last]
theorem set_f {a b c : AObj} : (H ++ [a] ++ [b]).set H.length c = H ++ [c] ++ [b] := by simp

noncomputable def rho (b w : Nat) (H : AHeap) (m : Int) (k : Key) (x y z u : Option AV) : Loc := [some (.obj b), some (.int m), some k.av, some (.obj w), some (.obj H.length), some (.obj (H.length + 1)), x, y, z, u]
noncomputable def hp (H : AHeap) (f p : List Int) : AHeap := H ++ [.list (f.map AV.int)] ++ [.list (p.map AV.int)]

/-- one turn: the middle part is given -/
theorem turn (T : TS0 H b w blk es) {p : Nat} {r : Row} (hr : blk[p]? = some r) {f f' rest ex tl : List Int} {t : Int} (ht : Tgl blk t tl) (hl : rest.length + 3 < big) (hex : ex.length ≤ 1)
    (mid : evS theP (d + 1) tMid (rho b w H m k (some (.int (p : Int))) (some r.av) (some (.sym r.kd)) (some (.int (-1)))) (hp H f rest) = some (.next, rho b w H m k (some (.int (p : Int))) (some r.av) (some (.sym r.kd)) (some (.int t)), hp H f' (rest ++ ex))) :
    evWhile theP (d + 1) tCond [6, 7, 8, 9] tBody (rho b w H m k none none none none) (hp H f (rest ++ [(p : Int)])) = evWhile theP (d + 1) tCond [6, 7, 8, 9] tBody (rho b w H m k none none none none) (hp H f' (rest ++ ex ++ tl)) := by
  have gp : ∀ g q : List Int, (hp H g q)[H.length + 1]? = some (.list (q.map AV.int)) := fun g q => get_last2
  have gb : ∀ g q : List Int, (hp H g q)[b]? = some (.list (blk.map Row.av)) := fun g q => get_app (get_app T.bk)
  have gw : ∀ g q : List Int, (hp H g q)[w]? = some (.dict es) := fun g q => get_app (get_app T.wh)
  have cond : evE theP (d + 1) tCond (rho b w H m k none none none none) (hp H f (rest ++ [(p : Int)])) = some (.bool true, hp H f (rest ++ [(p : Int)])) := by
    have := r_cmp (P := theP) (d := d + 1) (r_len (r_loc (ρ := rho b w H m k none none none none) (x := 5) rfl) (len_l (gp f (rest ++ [(p : Int)])) (by simp; omega))) (r_lit (v := .int 0)) (show cmpOf theP _ .gt _ _ = some (decide ((((rest ++ [(p : Int)]).map AV.int).length : Int) > 0)) from rfl)
    rw [decide_eq_true (by simp)] at this
    exact this
  have s1 := t_asg' (x := 6) (r_pop (P := theP) (d := d + 1) (e := .loc 5) (ρ := rho b w H m k none none none none) (H := hp H f (rest ++ [(p : Int)])) (v := .int (p : Int)) (l := rest.map AV.int) (r_loc rfl) (by rw [gp]; simp) (by simp; omega))
  have e1 : (hp H f (rest ++ [(p : Int)])).set (H.length + 1) (.list (rest.map AV.int)) = hp H f rest := set_p
  rw [e1] at s1
  have s2 := t_asg' (x := 7) (r_sub (P := theP) (d := d + 1) (r_loc (x := 0) (ρ := rho b w H m k (some (.int (p : Int))) none none none) rfl) (r_loc (x := 6) rfl) (sub_blk (gb f rest) T.len hr))
  have s3 := t_asg' (x := 8) (r_rowkd (d := d + 1) (r := r) (e := .loc 7) (H := hp H f rest) (ρ := rho b w H m k (some (.int (p : Int))) (some r.av) none none) (r_loc rfl))
  have s6 : evS theP (d + 1) tLast (rho b w H m k (some (.int (p : Int))) (some r.av) (some (.sym r.kd)) (some (.int t))) (hp H f' (rest ++ ex)) = some (.next, rho b w H m k (some (.int (p : Int))) (some r.av) (some (.sym r.kd)) (some (.int t)), hp H f' (rest ++ ex ++ tl)) := by
    have c1 := r_cmp (P := theP) (d := d + 1) (H := hp H f' (rest ++ ex)) (r_loc (x := 9) (ρ := rho b w H m k (some (.int (p : Int))) (some r.av) (some (.sym r.kd)) (some (.int t))) rfl) (r_lit (v := .int (-1))) c_intn
    rcases ht with ⟨rfl, rfl⟩ | ⟨hne, q, hq, rfl⟩
    · rw [List.append_nil]
      exact t_ifF c1 s_nil
    · rw [decide_eq_false hne] at c1
      have a1 := t_expr' (r_append (P := theP) (d := d + 1) (e := .loc 5) (x := .sub (.loc 3) (.loc 9)) (ρ := rho b w H m k (some (.int (p : Int))) (some r.av) (some (.sym r.kd)) (some (.int t))) (r_loc (x := 5) rfl) (gp f' (rest ++ ex)) (r_sub (r_loc (x := 3) rfl) (r_loc (x := 9) rfl) (sub_d (gw f' (rest ++ ex)) (int_fits T.int t) (T.at_ q t hq))) (gp f' (rest ++ ex)) (by simp; omega)) rfl
      have e2 : (hp H f' (rest ++ ex)).set (H.length + 1) (.list ((rest ++ ex).map AV.int ++ [.int (q : Int)])) = hp H f' (rest ++ ex ++ [(q : Int)]) := by
        show (H ++ _ ++ _).set _ _ = _
        rw [set_p]; simp [hp]
      rw [e2] at a1
      exact t_ifT c1 (s_next a1 s_nil)
  have body : evSs theP (d + 1) tBody (rho b w H m k none none none none) (hp H f (rest ++ [(p : Int)])) = some (.next, rho b w H m k (some (.int (p : Int))) (some r.av) (some (.sym r.kd)) (some (.int t)), hp H f' (rest ++ ex ++ tl)) :=
    s_next s1 (s_next s2 (s_next s3 (s_next (t_asg' r_lit) (s_next mid (s_next s6 s_nil)))))
  rw [while_eq, cond]
  show (evSs theP (d + 1) tBody _ _ >>= _) = _
  rw [body]
  rfl

theorem mid_lab (T : TS0 H b w blk es) {p : Nat} {l : Int} {f rest : List Int} (hl : l < m) (hfl : f.length < big) :
    evS theP (d + 1) tMid (rho b w H m k (some (.int (p : Int))) (some (Row.lab l).av) (some (.sym (Row.lab l).kd)) (some (.int (-1)))) (hp H f rest) = some (.next, rho b w H m k (some (.int (p : Int))) (some (Row.lab l).av) (some (.sym (Row.lab l).kd)) (some (.int (-1))), hp H (f ++ [l]) (rest ++ [])) := by
  have c1 := r_cmp (P := theP) (d := d + 1) (H := hp H f rest) (r_loc (x := 8) (v := .sym 56) (ρ := rho b w H m k (some (.int (p : Int))) (some (Row.lab l).av) (some (.sym 56)) (some (.int (-1)))) rfl) (r_lit (v := .sym 56)) (c_sym (by decide) (by decide))
  have c2 := r_cmp (P := theP) (d := d + 1) (H := hp H f rest) (r_sub (r_loc (x := 7) (v := (Row.lab l).av) (ρ := rho b w H m k (some (.int (p : Int))) (some (Row.lab l).av) (some (.sym 56)) (some (.int (-1)))) rfl) (r_lit (v := .int 1)) (sub_t rfl)) (r_loc (x := 1) rfl) (show cmpOf theP _ .lt (.int l) (.int m) = some (decide (l < m)) from rfl)
  rw [decide_eq_true hl] at c2
  have a1 := t_expr' (r_append (P := theP) (d := d + 1) (e := .loc 4) (x := .sub (.loc 7) (.lit (.int 1))) (ρ := rho b w H m k (some (.int (p : Int))) (some (Row.lab l).av) (some (.sym 56)) (some (.int (-1)))) (r_loc (x := 4) rfl) (show (hp H f rest)[H.length]? = some (.list (f.map AV.int)) from get_last1) (r_sub (r_loc (x := 7) rfl) (r_lit (v := .int 1)) (sub_t rfl)) (show (hp H f rest)[H.length]? = some (.list (f.map AV.int)) from get_last1) (by simpa using hfl)) rfl
  have e2 : (hp H f rest).set H.length (.list (f.map AV.int ++ [.int l])) = hp H (f ++ [l]) (rest ++ []) := by
    show (H ++ _ ++ _).set _ _ = _
    rw [set_f]; simp [hp]
  rw [e2] at a1
  exact t_ifT c1 (s_next (t_ifT c2 (s_next a1 s_nil)) s_nil)
theorem app_next (T : TS0 H b w blk es) {p : Nat} {x y z : Option AV} {f rest : List Int} (hl : rest.length < big) :
    evS theP (d + 1) (.expr (.append (.loc 5) (.bin .add (.loc 6) (.lit (.int 1))))) (rho b w H m k (some (.int (p : Int))) x y z) (hp H f rest) = some (.next, rho b w H m k (some (.int (p : Int))) x y z, hp H f (rest ++ [((p + 1 : Nat) : Int)])) := by
  have a1 := t_expr' (r_append (P := theP) (d := d + 1) (e := .loc 5) (x := .bin .add (.loc 6) (.lit (.int 1))) (ρ := rho b w H m k (some (.int (p : Int))) x y z) (r_loc (x := 5) rfl) (show (hp H f rest)[H.length + 1]? = some (.list (rest.map AV.int)) from get_last2) (r_bin (r_loc (x := 6) rfl) (r_lit (v := .int 1)) rfl) (show (hp H f rest)[H.length + 1]? = some (.list (rest.map AV.int)) from get_last2) (by simpa using hl)) rfl
  have e2 : (hp H f rest).set (H.length + 1) (.list (rest.map AV.int ++ [.int ((p : Int) + 1)])) = hp H f (rest ++ [((p + 1 : Nat) : Int)]) := by
    show (H ++ _ ++ _).set _ _ = _
    rw [set_p]; simp [hp]
  rw [e2] at a1
  exact a1

theorem D.len {n p : Nat} {o : List Int} (x : D blk m k n p o) : o.length ≤ n ∧ 1 ≤ n := by
  refine x.rec (motive_1 := fun n _ o _ => o.length ≤ n ∧ 1 ≤ n) (motive_2 := fun n _ o _ => o.length ≤ n) (fun _ _ => ⟨Nat.le_refl _, Nat.le_refl _⟩) (fun _ _ _ h => ⟨Nat.le_succ_of_le h.1, Nat.le_add_left _ _⟩) (fun _ _ _ h h' => ⟨?_, Nat.le_add_left _ _⟩) (fun _ _ _ h h' => ⟨?_, Nat.le_add_left _ _⟩)
    (fun _ _ h => ⟨Nat.le_succ_of_le h, Nat.le_add_left _ _⟩) (fun _ _ h => ⟨Nat.le_succ_of_le h, Nat.le_add_left _ _⟩) (fun _ _ _ _ h => ⟨Nat.le_succ_of_le h, Nat.le_add_left _ _⟩) (fun _ _ _ _ h => ⟨Nat.le_succ_of_le h, Nat.le_add_left _ _⟩) (Nat.le_refl _) (fun _ _ _ h => h.1)
  all_goals exact List.length_append ▸ Nat.le_succ_of_le (Nat.add_le_add h h'.1)
theorem DL.len {n : Nat} {l : Int} {o : List Int} (x : DL blk m k n l o) : o.length ≤ n := by
  cases x with
  | fail => exact Nat.le_refl _
  | go _ _ h => exact h.len.1

/-- the loop's state -/
noncomputable def Wh (d b w : Nat) (H : AHeap) (m : Int) (k : Key) (f p : List Int) : Option (Fl × Loc × AHeap) := evWhile theP (d + 1) tCond [6, 7, 8, 9] tBody (rho b w H m k none none none none) (hp H f p)

theorem mid_one (T : TS0 H b w blk es) {p : Nat} {r : Row} {t : Int} {f rest : List Int} {e : ME} (he : evE theP (d + 1) e (rho b w H m k (some (.int (p : Int))) (some r.av) (some (.sym r.kd)) (some (.int (-1)))) (hp H f rest) = some (.int t, hp H f rest)) :
    evSs theP (d + 1) [.asg 9 e] (rho b w H m k (some (.int (p : Int))) (some r.av) (some (.sym r.kd)) (some (.int (-1)))) (hp H f rest) = some (.next, rho b w H m k (some (.int (p : Int))) (some r.av) (some (.sym r.kd)) (some (.int t)), hp H f (rest ++ [])) := by
  rw [List.append_nil]
  exact s_next (t_asg' he) s_nil
theorem kd_eq (T : TS0 H b w blk es) {p : Nat} {r : Row} {f rest : List Int} (n : Nat) (hn : n < 66) :
    evE theP (d + 1) (.cmp .eq (.loc 8) (.lit (.sym n))) (rho b w H m k (some (.int (p : Int))) (some r.av) (some (.sym r.kd)) (some (.int (-1)))) (hp H f rest) = some (.bool (decide (r.kd = n)), hp H f rest) :=
  r_cmp (r_loc (x := 8) rfl) r_lit (c_sym r.kd_lt hn)
theorem mid_try (T : TS0 H b w blk es) {p : Nat} {r : Row} {t : Int} {f rest : List Int} (hk : r.kd = 44 ∨ r.kd = 45) (hl : rest.length < big) (ht : ∀ ρ : Loc, ∀ H' : AHeap, ρ[7]? = some (some r.av) → evE theP (d + 1) (.sub (.loc 7) (.lit (.int 1))) ρ H' = some (.int t, H')) :
    evS theP (d + 1) tMid (rho b w H m k (some (.int (p : Int))) (some r.av) (some (.sym r.kd)) (some (.int (-1)))) (hp H f rest) = some (.next, rho b w H m k (some (.int (p : Int))) (some r.av) (some (.sym r.kd)) (some (.int t)), hp H f (rest ++ [((p + 1 : Nat) : Int)])) := by
  have c1 := kd_eq (d := d) (m := m) (k := k) T (p := p) (r := r) (f := f) (rest := rest) 56 (by decide)
  have c2 := r_ors (or_two (kd_eq (d := d) (m := m) (k := k) T (p := p) (r := r) (f := f) (rest := rest) 44 (by decide)) (or_one (kd_eq (d := d) (m := m) (k := k) T (p := p) (r := r) (f := f) (rest := rest) 45 (by decide))))
  have h1 : decide (r.kd = 56) = false := by rcases hk with h | h <;> rw [h] <;> rfl
  have h2 : (decide (r.kd = 44) || decide (r.kd = 45)) = true := by rcases hk with h | h <;> rw [h] <;> rfl
  rw [h1] at c1; rw [h2] at c2
  exact t_ifF c1 (s_next (t_ifT c2 (s_next (app_next T hl) (s_next (t_asg' (ht _ _ rfl)) s_nil))) s_nil)
theorem mid_trust (T : TS0 H b w blk es) {p : Nat} {l : Int} {f rest : List Int} :
    evS theP (d + 1) tMid (rho b w H m k (some (.int (p : Int))) (some (Row.trust l).av) (some (.sym (Row.trust l).kd)) (some (.int (-1)))) (hp H f rest) = some (.next, rho b w H m k (some (.int (p : Int))) (some (Row.trust l).av) (some (.sym (Row.trust l).kd)) (some (.int l)), hp H f (rest ++ [])) := by
  have c1 := kd_eq (d := d) (m := m) (k := k) T (p := p) (r := .trust l) (f := f) (rest := rest) 56 (by decide)
  have c2 := r_ors (or_two (kd_eq (d := d) (m := m) (k := k) T (p := p) (r := .trust l) (f := f) (rest := rest) 44 (by decide)) (or_one (kd_eq (d := d) (m := m) (k := k) T (p := p) (r := .trust l) (f := f) (rest := rest) 45 (by decide))))
  have c3 := kd_eq (d := d) (m := m) (k := k) T (p := p) (r := .trust l) (f := f) (rest := rest) 46 (by decide)
  exact t_ifF c1 (s_next (t_ifF c2 (s_next (t_ifT c3 (mid_one T (r_sub (r_loc (x := 7) rfl) r_lit (sub_t rfl)))) s_nil)) s_nil)
theorem mid_sot (T : TS0 H b w blk es) {p : Nat} {v c l s : Int} {f rest : List Int} :
    evS theP (d + 1) tMid (rho b w H m k (some (.int (p : Int))) (some (Row.sot v c l s).av) (some (.sym (Row.sot v c l s).kd)) (some (.int (-1)))) (hp H f rest) = some (.next, rho b w H m k (some (.int (p : Int))) (some (Row.sot v c l s).av) (some (.sym (Row.sot v c l s).kd)) (some (.int (tgt k v c l s))), hp H f (rest ++ [])) := by
  have c1 := kd_eq (d := d) (m := m) (k := k) T (p := p) (r := .sot v c l s) (f := f) (rest := rest) 56 (by decide)
  have c2 := r_ors (or_two (kd_eq (d := d) (m := m) (k := k) T (p := p) (r := .sot v c l s) (f := f) (rest := rest) 44 (by decide)) (or_one (kd_eq (d := d) (m := m) (k := k) T (p := p) (r := .sot v c l s) (f := f) (rest := rest) 45 (by decide))))
  have c3 := kd_eq (d := d) (m := m) (k := k) T (p := p) (r := .sot v c l s) (f := f) (rest := rest) 46 (by decide)
  have c4 := kd_eq (d := d) (m := m) (k := k) T (p := p) (r := .sot v c l s) (f := f) (rest := rest) 55 (by decide)
  exact t_ifF c1 (s_next (t_ifF c2 (s_next (t_ifF c3 (s_next (t_ifT c4 (mid_one T (r_call (rl_cons (r_loc (x := 7) rfl) (rl_cons (r_loc (x := 2) rfl) rl_nil)) (b_target k v c l s)))) s_nil)) s_nil)) s_nil)
theorem mid_tab (T : TS0 H b w blk es) {p n : Nat} {r : Row} {ps : List (AV × Int)} {dl : Int} {f rest : List Int} (hr : r.av = .tup [.sym n, .tup (ps.map pairAv), .int dl]) (hn : r.kd = 57 ∨ r.kd = 58) (hk : k.kd = 51 ∨ k.kd = 53) (hps : ∀ q ∈ ps, eqOk theP 4 q.1 = true) :
    evS theP (d + 1) tMid (rho b w H m k (some (.int (p : Int))) (some r.av) (some (.sym r.kd)) (some (.int (-1)))) (hp H f rest) = some (.next, rho b w H m k (some (.int (p : Int))) (some r.av) (some (.sym r.kd)) (some (.int (look ps dl k))), hp H f (rest ++ [])) := by
  have cs := fun n hn => kd_eq (d := d) (m := m) (k := k) T (p := p) (r := r) (f := f) (rest := rest) n hn
  have c1 := cs 56 (by decide)
  have c2 := r_ors (or_two (cs 44 (by decide)) (or_one (cs 45 (by decide))))
  have c3 := cs 46 (by decide)
  have c4 := cs 55 (by decide)
  have c5 := r_ors (or_two (cs 57 (by decide)) (or_one (cs 58 (by decide))))
  have h1 : decide (r.kd = 56) = false := by rcases hn with h | h <;> rw [h] <;> rfl
  have h2 : (decide (r.kd = 44) || decide (r.kd = 45)) = false := by rcases hn with h | h <;> rw [h] <;> rfl
  have h3 : decide (r.kd = 46) = false := by rcases hn with h | h <;> rw [h] <;> rfl
  have h4 : decide (r.kd = 55) = false := by rcases hn with h | h <;> rw [h] <;> rfl
  have h5 : (decide (r.kd = 57) || decide (r.kd = 58)) = true := by rcases hn with h | h <;> rw [h] <;> rfl
  rw [h1] at c1; rw [h2] at c2; rw [h3] at c3; rw [h4] at c4; rw [h5] at c5
  exact t_ifF c1 (s_next (t_ifF c2 (s_next (t_ifF c3 (s_next (t_ifF c4 (s_next (t_ifT c5 (mid_one T (r_call (rl_cons (r_loc (x := 7) (v := .tup [.sym n, .tup (ps.map pairAv), .int dl]) (by rw [← hr]; rfl)) (rl_cons (r_loc (x := 2) rfl) rl_nil)) (b_tt hk hps)))) s_nil)) s_nil)) s_nil)) s_nil)

noncomputable def RunL (d b w : Nat) (H : AHeap) (blk : List Row) (m : Int) (k : Key) (n : Nat) (l : Int) (o : List Int) : Prop := ∀ (rest f : List Int), rest.length + n + 5 < big → f.length + n < big → ∃ tl, Tgl blk l tl ∧ Wh d b w H m k f (rest ++ tl) = Wh d b w H m k (f ++ o) rest
theorem run_D (T : TS0 H b w blk es) {n p : Nat} {o : List Int} (x : D blk m k n p o) : ∀ (rest f : List Int), rest.length + n + 5 < big → f.length + n < big → Wh d b w H m k f (rest ++ [(p : Int)]) = Wh d b w H m k (f ++ o) rest := by
  have one : ∀ {p n : Nat} {r : Row} {l : Int} {o : List Int} (h : blk[p]? = some r), RunL d b w H blk m k n l o → (∀ (f rest : List Int), rest.length < big → evS theP (d + 1) tMid (rho b w H m k (some (.int (p : Int))) (some r.av) (some (.sym r.kd)) (some (.int (-1)))) (hp H f rest) = some (.next, rho b w H m k (some (.int (p : Int))) (some r.av) (some (.sym r.kd)) (some (.int l)), hp H f (rest ++ []))) →
      ∀ (rest f : List Int), rest.length + (n + 1) + 5 < big → f.length + (n + 1) < big → Wh d b w H m k f (rest ++ [(p : Int)]) = Wh d b w H m k (f ++ o) rest := fun h y mid rest f h1 h2 => by
    obtain ⟨tl, ht, hd⟩ := y rest f (by omega) (by omega)
    have := turn (d := d) (m := m) (k := k) T h (f := f) (rest := rest) (ex := []) (tl := tl) ht (by omega) (Nat.zero_le _) (mid f rest (by omega))
    rw [List.append_nil] at this
    exact this.trans hd
  have two : ∀ {p n n' : Nat} {r : Row} {l : Int} {o o' : List Int} (h : blk[p]? = some r), DL blk m k n l o → RunL d b w H blk m k n l o → (∀ (rest f : List Int), rest.length + n' + 5 < big → f.length + n' < big → Wh d b w H m k f (rest ++ [((p + 1 : Nat) : Int)]) = Wh d b w H m k (f ++ o') rest) →
      (∀ (f rest : List Int), rest.length < big → evS theP (d + 1) tMid (rho b w H m k (some (.int (p : Int))) (some r.av) (some (.sym r.kd)) (some (.int (-1)))) (hp H f rest) = some (.next, rho b w H m k (some (.int (p : Int))) (some r.av) (some (.sym r.kd)) (some (.int l)), hp H f (rest ++ [((p + 1 : Nat) : Int)]))) →
      ∀ (rest f : List Int), rest.length + (n + n' + 1) + 5 < big → f.length + (n + n' + 1) < big → Wh d b w H m k f (rest ++ [(p : Int)]) = Wh d b w H m k (f ++ (o ++ o')) rest := fun h y yl z mid rest f h1 h2 => by
    have hy := y.len
    obtain ⟨tl, ht, hd⟩ := yl (rest ++ [_]) f (by rw [List.length_append]; exact Nat.lt_of_le_of_lt (by show _ + 1 + _ + 5 ≤ _; omega) h1) (by omega)
    have := turn (d := d) (m := m) (k := k) T h (f := f) (rest := rest) (ex := [_]) (tl := tl) ht (by omega) (Nat.le_refl _) (mid f rest (by omega))
    refine this.trans (hd.trans ((z rest _ (by omega) (by rw [List.length_append]; omega)).trans ?_))
    rw [List.append_assoc]
  refine x.rec (motive_1 := fun n p o _ => ∀ (rest f : List Int), rest.length + n + 5 < big → f.length + n < big → Wh d b w H m k f (rest ++ [(p : Int)]) = Wh d b w H m k (f ++ o) rest) (motive_2 := fun n l o _ => RunL d b w H blk m k n l o)
    (fun {p l} h hl rest f h1 h2 => ?_) (fun {n p l o} h hl _ y rest f h1 h2 => ?_) (fun h y _ yl z => two h y yl z fun f rest hr => mid_try T (.inl rfl) hr fun ρ H' e => r_sub (r_loc e) r_lit (sub_t rfl)) (fun h y _ yl z => two h y yl z fun f rest hr => mid_try T (.inr rfl) hr fun ρ H' e => r_sub (r_loc e) r_lit (sub_t rfl))
    (fun h _ y => one h y fun f rest _ => mid_trust T) (fun h _ y => one h y fun f rest _ => mid_sot T) (fun h hk hps _ y => one h y fun f rest _ => mid_tab T (n := 57) rfl (.inl rfl) hk hps) (fun h hk hps _ y => one h y fun f rest _ => mid_tab T (n := 58) rfl (.inr rfl) hk hps)
    (fun rest f _ _ => ⟨[], .inl ⟨rfl, rfl⟩, by rw [List.append_nil, List.append_nil]⟩) (fun hne h _ y rest f h1 h2 => ⟨_, .inr ⟨hne, _, h, rfl⟩, y rest f h1 h2⟩)
  · have := turn (d := d) (m := m) (k := k) T h (f := f) (rest := rest) (ex := []) (tl := []) (t := -1) (.inl ⟨rfl, rfl⟩) (by omega) (Nat.zero_le _) (mid_lab T hl (by omega))
    rw [List.append_nil, List.append_nil] at this
    exact this
  · have c1 := r_cmp (P := theP) (d := d + 1) (H := hp H f rest) (r_loc (x := 8) (v := .sym 56) (ρ := rho b w H m k (some (.int (p : Int))) (some (Row.lab l).av) (some (.sym 56)) (some (.int (-1)))) rfl) (r_lit (v := .sym 56)) (c_sym (by decide) (by decide))
    have c2 := r_cmp (P := theP) (d := d + 1) (H := hp H f rest) (r_sub (r_loc (x := 7) (v := (Row.lab l).av) (ρ := rho b w H m k (some (.int (p : Int))) (some (Row.lab l).av) (some (.sym 56)) (some (.int (-1)))) rfl) (r_lit (v := .int 1)) (sub_t rfl)) (r_loc (x := 1) rfl) (show cmpOf theP _ .lt (.int l) (.int m) = some (decide (l < m)) from rfl)
    rw [decide_eq_false hl] at c2
    have := turn (d := d) (m := m) (k := k) T h (f := f) (rest := rest) (ex := [((p + 1 : Nat) : Int)]) (tl := []) (t := -1) (.inl ⟨rfl, rfl⟩) (by omega) (Nat.le_refl _) (t_ifT c1 (s_next (t_ifF c2 (s_next (app_next T (by omega)) s_nil)) s_nil))
    rw [List.append_nil] at this
    exact this.trans (y rest f (by omega) (by omega))
theorem run_DL (T : TS0 H b w blk es) {n : Nat} {l : Int} {o : List Int} (x : DL blk m k n l o) : RunL d b w H blk m k n l o := fun rest f h1 h2 => by
  cases x with
  | fail => exact ⟨[], .inl ⟨rfl, rfl⟩, by rw [List.append_nil, List.append_nil]⟩
  | go hne h y => exact ⟨_, .inr ⟨hne, _, h, rfl⟩, run_D T y rest f h1 h2⟩
end
end Mini
end

noncomputable section -- PB15
set_option autoImplicit false
set_option linter.unusedVariables false
set_option linter.unusedSimpArgs false
namespace Mini
/-- one label, one place -/
noncomputable def Uniq (blk : List Row) : Prop := ∀ (j j' : Nat) (l : Int), blk[j]? = some (Row.lab l) → blk[j']? = some (Row.lab l) → j = j'
section
variable {d b : Nat} {H : AHeap} {blk : List Row} {m : Int} {k : Key}
theorem b_tried (hb : H[b]? = some (.list (blk.map Row.av))) (hl : blk.length < big) (hU : Uniq blk) {n : Nat} {o : List Int} (h0 : m ≠ 0) (h1 : m ≠ 1) (hD : D blk m k n 0 o) (hn : n + 10 < big) :
    ∃ q H', callF theP (d + 2) 26 [.obj b, .int m, k.av] H = some (.obj q, H') ∧ H'[q]? = some (.list (o.map AV.int)) ∧ Grow H H' := by
  obtain ⟨es, e1, e2, e3⟩ := b_labels (d := d) hb hl hU
  have T : TS0 (H ++ [.dict es]) b H.length blk es := ⟨get_app hb, hl, get_last, e2, e3⟩
  have run := run_D (d := d) T hD [] [] (by simp; omega) (by simp; omega)
  have fin : Wh d b H.length (H ++ [.dict es]) m k ([] ++ o) [] = some (.next, rho b H.length (H ++ [.dict es]) m k none none none none, hp (H ++ [.dict es]) o []) := by
    rw [List.nil_append]
    unfold Wh
    have cond := r_cmp (P := theP) (d := d + 1) (r_len (r_loc (ρ := rho b H.length (H ++ [.dict es]) m k none none none none) (x := 5) rfl) (len_l (show (hp (H ++ [.dict es]) o [])[(H ++ [AObj.dict es]).length + 1]? = some (.list []) from get_last2) (show ([] : List AV).length < big by decide))) (r_lit (v := .int 0)) (show cmpOf theP _ .gt (.int ((([] : List AV).length : Nat) : Int)) (.int 0) = some false from rfl)
    rw [while_eq]
    show (evE theP (d + 1) (.cmp .gt (.len (.loc 5)) (.lit (.int 0))) _ _ >>= _) = _
    rw [cond]; rfl
  rw [fin] at run
  have c0 := r_cmp (P := theP) (d := d + 1) (H := H) (r_loc (x := 1) (v := .int m) (ρ := [some (.obj b), some (.int m), some k.av, none, none, none, none, none, none, none]) rfl) (r_lit (v := .int 0)) c_int
  have c1 := r_cmp (P := theP) (d := d + 1) (H := H) (r_loc (x := 1) (v := .int m) (ρ := [some (.obj b), some (.int m), some k.av, none, none, none, none, none, none, none]) rfl) (r_lit (v := .int 1)) c_int
  rw [decide_eq_false h0] at c0
  rw [decide_eq_false h1] at c1
  have s4 := t_asg' (x := 4) (r_list (P := theP) (d := d + 1) (ρ := [some (.obj b), some (.int m), some k.av, some (.obj H.length), none, none, none, none, none, none]) (H := H ++ [.dict es]) rl_nil (show 0 < big by decide))
  have s5 := t_asg' (x := 5) (r_list (P := theP) (d := d + 1) (ρ := [some (.obj b), some (.int m), some k.av, some (.obj H.length), some (.obj (H ++ [AObj.dict es]).length), none, none, none, none, none]) (H := H ++ [.dict es] ++ [.list []]) (rl_cons (r_lit (v := .int 0)) rl_nil) (show 1 < big by decide))
  have hl5 : (H ++ [AObj.dict es] ++ [AObj.list []]).length = (H ++ [AObj.dict es]).length + 1 := by simp
  rw [hl5] at s5
  refine ⟨(H ++ [AObj.dict es]).length, hp (H ++ [.dict es]) o [], k_ret rfl rfl (s_next (t_ifF c0 s_nil) (s_next (t_ifF c1 s_nil) (s_next (t_asg' (r_call (rl_cons (r_loc (x := 0) rfl) rl_nil) e1)) (s_next s4 (s_next s5 (s_next (t_while' run) (s_ret (t_ret' (r_loc (x := 4) rfl))))))))), get_last1, (Grow.app.trans .app).trans .app⟩
theorem b_tried0 (h0 : m = 0) {v : AV} : callF theP (d + 2) 26 [v, .int m, k.av] H = some (.obj H.length, H ++ [.list []]) := by
  have c0 := r_cmp (P := theP) (d := d + 1) (H := H) (r_loc (x := 1) (v := .int m) (ρ := [some v, some (.int m), some k.av, none, none, none, none, none, none, none]) rfl) (r_lit (v := .int 0)) c_int
  rw [decide_eq_true h0] at c0
  exact k_ret rfl rfl (s_ret (t_ifT c0 (s_ret (t_ret' (r_list rl_nil (show 0 < big by decide))))))
theorem b_tried1 (h1 : m = 1) {v : AV} : callF theP (d + 2) 26 [v, .int m, k.av] H = some (.obj H.length, H ++ [.list [.int 0]]) := by
  have c0 := r_cmp (P := theP) (d := d + 1) (H := H) (r_loc (x := 1) (v := .int m) (ρ := [some v, some (.int m), some k.av, none, none, none, none, none, none, none]) rfl) (r_lit (v := .int 0)) c_int
  have c1 := r_cmp (P := theP) (d := d + 1) (H := H) (r_loc (x := 1) (v := .int m) (ρ := [some v, some (.int m), some k.av, none, none, none, none, none, none, none]) rfl) (r_lit (v := .int 1)) c_int
  rw [decide_eq_false (by omega)] at c0
  rw [decide_eq_true h1] at c1
  exact k_ret rfl rfl (s_next (t_ifF c0 s_nil) (s_ret (t_ifT c1 (s_ret (t_ret' (r_list (rl_cons r_lit rl_nil) (show 1 < big by decide)))))))
end
end Mini
end

noncomputable section -- PB16
set_option autoImplicit false
set_option linter.unusedVariables false
set_option linter.unusedSimpArgs false
namespace Mini
/-- all but one object stay -/
structure Kp (x : Nat) (H H' : AHeap) : Prop where
  len : H.length ≤ H'.length
  same : ∀ (j : Nat) (o : AObj), j ≠ x → H[j]? = some o → H'[j]? = some o
theorem Kp.refl {x : Nat} {H : AHeap} : Kp x H H := ⟨Nat.le_refl _, fun _ _ _ e => e⟩
theorem Kp.trans {x : Nat} {H H' H'' : AHeap} (a : Kp x H H') (b : Kp x H' H'') : Kp x H H'' := ⟨Nat.le_trans a.len b.len, fun j o h e => b.same j o h (a.same j o h e)⟩
theorem Kp.app {x : Nat} {H : AHeap} {l : List AObj} : Kp x H (H ++ l) := ⟨by simp, fun j o _ e => get_app e⟩
theorem Kp.set {x : Nat} {H : AHeap} {o : AObj} : Kp x H (H.set x o) := ⟨by simp, fun j o' h e => get_set_ne e (fun z => h z.symm)⟩
theorem Grow.kp {x : Nat} {H H' : AHeap} (g : Grow H H') : Kp x H H' := ⟨g.len, fun j o _ e => g.same j o e⟩

section
variable {d : Nat} {H : AHeap} {fg : Nat} {fs : List Int}
theorem eqOks_ints (ps : List Int) : ∀ n, eqOks theP n (ps.map AV.int) = true := by
  intro n
  induction ps with
  | nil => simp [eqOks]
  | cons x ps ih => simp [eqOks, eqOk, ih]
theorem b_draw (hf : H[fg]? = some (.list (fs.map AV.int))) (hl : fs.length < big) {many : Int} (h0 : 0 < many) (hm : many < 2 ^ 62) :
    ∃ (r : Int) (H' : AHeap) (fs' : List Int), callF theP (d + 1) 29 [.obj fg, .int many] H = some (.int r, H') ∧ 0 ≤ r ∧ r < many ∧ Kp fg H H' ∧ H'[fg]? = some (.list (fs'.map AV.int)) ∧ fs'.length ≤ fs.length := by
  have c0 := r_cmp (P := theP) (d := d) (H₂ := H ++ [.list []]) (r_loc (x := 0) (v := .obj fg) (ρ := [some (.obj fg), some (.int many)]) (H := H) rfl) (r_list rl_nil (show ([] : List AV).length < big by decide)) (show cmpOf theP (H ++ [.list []]) .eq (.obj fg) (.obj H.length) = some (decide (fs.map AV.int = [])) from deep_l (get_app hf) get_last (eqOks_ints fs 4) rfl)
  by_cases hfs : fs = []
  · subst hfs
    rw [decide_eq_true (by rfl)] at c0
    exact ⟨0, _, [], k_ret rfl rfl (s_ret (t_ifT c0 (s_ret (t_ret' r_lit)))), by omega, h0, .app, get_app hf, Nat.le_refl _⟩
  · rw [decide_eq_false (by simpa using hfs)] at c0
    obtain ⟨gs, x, rfl⟩ : ∃ gs x, fs = gs ++ [x] := ⟨fs.dropLast, fs.getLast hfs, (List.dropLast_concat_getLast hfs).symm⟩
    have hp := r_pop (P := theP) (d := d) (e := .loc 0) (ρ := [some (.obj fg), some (.int many)]) (H := H ++ [.list []]) (v := .int x) (l := gs.map AV.int) (r_loc rfl) (by rw [get_app hf]; simp) (by simpa using hl)
    have hb : binOf .mod (.int x) (.int many) = some (.int (x.fmod many)) := by simp only [binOf]; rw [if_pos ⟨h0, hm⟩]
    refine ⟨x.fmod many, _, gs, k_ret rfl rfl (s_next (t_ifF c0 s_nil) (s_ret (t_ret' (r_bin hp (r_loc (x := 1) rfl) hb)))), Int.fmod_nonneg_of_pos x h0, Int.fmod_lt_of_pos x h0, Kp.app.trans .set, get_set (get_app hf), by simp⟩

/-- a key drawn -/
theorem b_keydrawn (hf : H[fg]? = some (.list (fs.map AV.int))) (hl : fs.length < big) :
    ∃ (k : Key) (H' : AHeap) (fs' : List Int), callF theP (d + 2) 30 [.obj fg] H = some (k.av, H') ∧ Kp fg H H' ∧ H'[fg]? = some (.list (fs'.map AV.int)) ∧ fs'.length ≤ fs.length := by
  obtain ⟨r, H1, f1, a1, a2, a3, a4, a5, a6⟩ := b_draw (d := d) hf hl (many := 5) (by decide) (by decide)
  have s1 := t_asg' (x := 1) (r_call (f := 29) (rl_cons (r_loc (x := 0) (v := .obj fg) (ρ := [some (.obj fg), none]) rfl) (rl_cons r_lit rl_nil)) a1)
  have cs := fun n : Int => r_cmp (P := theP) (d := d + 1) (H := H1) (r_loc (x := 1) (v := .int r) (ρ := [some (.obj fg), some (.int r)]) rfl) (r_lit (v := .int n)) c_int
  have c1 := cs 1
  have c2 := cs 2
  have c3 := cs 3
  have c0 := cs 0
  obtain ⟨r2, H2, f2, b1, b2, b3, b4, b5, b6⟩ := b_draw (d := d) a5 (by omega) (many := 2) (by decide) (by decide)
  have dr := r_call (f := 29) (rl_cons (r_loc (x := 0) (v := .obj fg) (ρ := [some (.obj fg), some (.int r)]) rfl) (rl_cons r_lit rl_nil)) b1
  by_cases h1 : r = 1
  · rw [decide_eq_true h1] at c1
    exact ⟨.var, H1, f1, k_ret rfl rfl (s_next s1 (s_ret (t_ifT c1 (s_ret (t_ret' (r_tup (rl_cons r_lit rl_nil) (show 1 < big by decide))))))), a4, a5, a6⟩
  rw [decide_eq_false h1] at c1
  by_cases h2 : r = 2
  · rw [decide_eq_true h2] at c2
    exact ⟨.list, H1, f1, k_ret rfl rfl (s_next s1 (s_next (t_ifF c1 s_nil) (s_ret (t_ifT c2 (s_ret (t_ret' (r_tup (rl_cons r_lit rl_nil) (show 1 < big by decide)))))))), a4, a5, a6⟩
  rw [decide_eq_false h2] at c2
  by_cases h3 : r = 3
  · rw [decide_eq_true h3] at c3
    exact ⟨.struct (40 + r2), H2, f2, k_ret rfl rfl (s_next s1 (s_next (t_ifF c1 s_nil) (s_next (t_ifF c2 s_nil) (s_ret (t_ifT c3 (s_ret (t_ret' (r_tup (rl_cons r_lit (rl_cons (r_bin r_lit dr rfl) rl_nil)) (show 2 < big by decide))))))))), a4.trans b4, b5, by omega⟩
  rw [decide_eq_false h3] at c3
  have it : ∃ t : Int, evE theP (d + 1) (.ite (.cmp .eq (.loc 1) (.lit (.int 0))) (.lit (.int 5)) (.lit (.int 4))) [some (.obj fg), some (.int r)] H1 = some (.int t, H1) := by
    cases h0 : decide (r = 0) with
    | true => rw [h0] at c0; exact ⟨5, r_ite c0 r_lit⟩
    | false => rw [h0] at c0; exact ⟨4, r_ite c0 r_lit⟩
  obtain ⟨t, it⟩ := it
  exact ⟨.const t r2, H2, f2, k_ret rfl rfl (s_next s1 (s_next (t_ifF c1 s_nil) (s_next (t_ifF c2 s_nil) (s_next (t_ifF c3 s_nil) (s_ret (t_ret' (r_tup (rl_cons r_lit (rl_cons (r_tup (rl_cons it (rl_cons dr rl_nil)) (show 2 < big by decide)) rl_nil)) (show 2 < big by decide)))))))), a4.trans b4, b5, by omega⟩

/-- the figures -/
theorem b_figures {ns : List Int} (hn : ns.length ≤ 63) : ∃ (q : Nat) (H' : AHeap) (fs : List Int), callF theP (d + 1) 28 [.flist (ns.map AV.int)] [] = some (.obj q, H') ∧ H'[q]? = some (.list (fs.map AV.int)) ∧ fs.length ≤ 90 := by
  -- inner loop
  have inner : ∀ (c : Int) (cap : Nat) (H : AHeap) (fs : List Int) (w : Int), H[0]? = some (.list (fs.map AV.int)) → fs.length + 24 < big →
      ∀ (m i : Nat) (H : AHeap) (fs' : List Int) (w : Int), m + i = 24 → H[0]? = some (.list (fs'.map AV.int)) → fs'.length ≤ fs.length + i → H[1]? = some (.list ((ns.take 30).map AV.int)) →
        ∃ (w' : Int) (H' : AHeap) (fs'' : List Int), evFor theP d (4, [4], [.expr (.append (.loc 1) (.bin .mod (.loc 3) (.lit (.int 997)))), .asg 3 (.bin .fdiv (.loc 3) (.lit (.int 997))), .ifs (.cmp .eq (.loc 3) (.lit (.int 0))) [.brk] []]) (.vals (rints 0 24)) i [some (.flist (ns.map AV.int)), some (.obj 0), some (.int c), some (.int w), none] H =
          some (.next, [some (.flist (ns.map AV.int)), some (.obj 0), some (.int c), some (.int w'), none], H') ∧ H'[0]? = some (.list (fs''.map AV.int)) ∧ fs''.length ≤ fs.length + 24 ∧ H'[1]? = some (.list ((ns.take 30).map AV.int)) := by
    intro c cap H fs w _ hb m
    induction m with
    | zero =>
      intro i H fs' w hi hH hf h1
      exact ⟨w, H, fs', for_end (by simp [srcAt, rints]; omega), hH, by omega, h1⟩
    | succ m ih =>
      intro i H fs' w hi hH hf h1
      have hv : (rints 0 24)[i]? = some (.int (i : Int)) := by
        unfold rints
        rw [List.getElem?_map, List.getElem?_range (by omega)]; simp
      have a1 := t_expr' (r_append (P := theP) (d := d) (e := .loc 1) (x := .bin .mod (.loc 3) (.lit (.int 997))) (ρ := [some (.flist (ns.map AV.int)), some (.obj 0), some (.int c), some (.int w), some (.int (i : Int))]) (r_loc (x := 1) rfl) hH (r_bin (r_loc (x := 3) rfl) r_lit (show binOf .mod (.int w) (.int 997) = some (.int (w.fmod 997)) from rfl)) hH (by rw [List.length_map]; omega)) rfl
      have hH2 : (H.set 0 (.list (fs'.map AV.int ++ [.int (w.fmod 997)])))[0]? = some (.list ((fs' ++ [w.fmod 997]).map AV.int)) := by rw [get_set hH]; simp
      have h12 : (H.set 0 (.list (fs'.map AV.int ++ [.int (w.fmod 997)])))[1]? = some (.list ((ns.take 30).map AV.int)) := get_set_ne h1 (by decide)
      generalize H.set 0 (.list (fs'.map AV.int ++ [.int (w.fmod 997)])) = H2 at a1 hH2 h12
      have a2 := t_asg' (x := 3) (r_bin (P := theP) (d := d) (o := .fdiv) (H := H2) (r_loc (x := 3) (v := .int w) (ρ := [some (.flist (ns.map AV.int)), some (.obj 0), some (.int c), some (.int w), some (.int (i : Int))]) rfl) r_lit (show binOf .fdiv (.int w) (.int 997) = some (.int (w.fdiv 997)) from rfl))
      have c0 := r_cmp (P := theP) (d := d) (H := H2) (r_loc (x := 3) (v := .int (w.fdiv 997)) (ρ := [some (.flist (ns.map AV.int)), some (.obj 0), some (.int c), some (.int (w.fdiv 997)), some (.int (i : Int))]) rfl) (r_lit (v := .int 0)) c_int
      rw [for_turn (v := .int (i : Int)) (by simp [srcAt, hv])]
      show ∃ (w' : Int) (H' : AHeap) (fs'' : List Int), (evSs theP d _ [some (.flist (ns.map AV.int)), some (.obj 0), some (.int c), some (.int w), some (.int (i : Int))] H >>= _) = _ ∧ _
      by_cases hz : w.fdiv 997 = 0
      · rw [decide_eq_true hz] at c0
        rw [s_next a1 (s_next a2 (s_brk (t_ifT c0 (s_brk t_brk'))))]
        exact ⟨_, H2, _, rfl, hH2, by simp; omega, h12⟩
      · rw [decide_eq_false hz] at c0
        rw [s_next a1 (s_next a2 (s_next (t_ifF c0 s_nil) s_nil))]
        exact ih (i + 1) H2 (fs' ++ [w.fdiv 997 * 0 + w.fmod 997]) (w.fdiv 997) (by omega) (by simpa using hH2) (by simp; omega) h12
  obtain ⟨ρ', H', e, fs, e1, e2, e3, e4⟩ := for_lst (P := theP) (d := d) (x := 2) (o := 1) (kill := [2, 3, 4]) (body := [.asg 3 (.ite (.cmp .ge (.loc 2) (.lit (.int 0))) (.loc 2) (.bin .sub (.lit (.int 3)) (.bin .mul (.lit (.int 5)) (.loc 2)))),
      .for_ 4 (.range1 (.lit (.int 24))) [4] [.expr (.append (.loc 1) (.bin .mod (.loc 3) (.lit (.int 997)))), .asg 3 (.bin .fdiv (.loc 3) (.lit (.int 997))), .ifs (.cmp .eq (.loc 3) (.lit (.int 0))) [.brk] []]]) (l := (ns.take 30).map AV.int)
    (fun i ρ H => ∃ fs : List Int, ρ = [some (.flist (ns.map AV.int)), some (.obj 0), none, none, none] ∧ H[0]? = some (.list (fs.map AV.int)) ∧ fs.length ≤ 24 * i ∧ H[1]? = some (.list ((ns.take 30).map AV.int)))
    (fun i ρ H hI => hI.choose_spec.2.2.2)
    (fun i v ρ H hv hI => by
      obtain ⟨fs, rfl, h1, h2, h3⟩ := hI
      rw [List.getElem?_map] at hv
      obtain ⟨c, hc, rfl⟩ := Option.map_eq_some_iff.mp hv
      have hi := (List.getElem?_eq_some_iff.mp hc).1
      rw [List.length_take] at hi
      have w0 : ∃ w : Int, evE theP d (.ite (.cmp .ge (.loc 2) (.lit (.int 0))) (.loc 2) (.bin .sub (.lit (.int 3)) (.bin .mul (.lit (.int 5)) (.loc 2)))) [some (.flist (ns.map AV.int)), some (.obj 0), some (.int c), none, none] H = some (.int w, H) := by
        have cc := r_cmp (P := theP) (d := d) (H := H) (r_loc (x := 2) (v := .int c) (ρ := [some (.flist (ns.map AV.int)), some (.obj 0), some (.int c), none, none]) rfl) (r_lit (v := .int 0)) (show cmpOf theP H .ge (.int c) (.int 0) = some (decide (c ≥ 0)) from rfl)
        cases hd : decide (c ≥ 0) with
        | true => rw [hd] at cc; exact ⟨c, r_ite cc (r_loc rfl)⟩
        | false =>
          rw [hd] at cc
          exact ⟨_, r_ite cc (r_bin r_lit (r_bin r_lit (r_loc rfl) (show binOf .mul (.int 5) (.int c) = some (.int (5 * c)) by simp [binOf])) rfl)⟩
      obtain ⟨w, w0⟩ := w0
      have s1 := t_asg' (x := 3) w0
      obtain ⟨w', H2, fs2, f1, f2, f3, f4⟩ := inner c 0 H fs w h1 (by unfold big; omega) 24 0 H fs w rfl h1 (by omega) h3
      exact ⟨_, _, s_next s1 (s_next (t_for' (ri_range1 r_lit (by decide)) f1) s_nil), fs2, rfl, f2, by omega, f4⟩)
    (ns.take 30).length 0 [some (.flist (ns.map AV.int)), some (.obj 0), none, none, none] ([.list []] ++ [.list ((ns.take 30).map AV.int)]) (by simp) ⟨[], rfl, rfl, by simp, rfl⟩
  subst e1
  have hsl : sliceOf [AObj.list []] (.flist (ns.map AV.int)) .none (.int 30) = some ((ns.take 30).map AV.int) := by
    simp only [sliceOf]
    rw [if_pos ⟨by decide, by decide, by rw [List.length_map]; unfold big; omega⟩, ← List.map_take]; rfl
  have hfl : fs.length ≤ 720 := by
    have : (List.map AV.int (List.take 30 ns)).length ≤ 30 := by simp; omega
    omega
  have hs2 : sliceOf H' (.obj 0) .none (.int 90) = some ((fs.take 90).map AV.int) := by
    simp only [sliceOf, e2]
    rw [if_pos ⟨by decide, by decide, by rw [List.length_map]; unfold big; omega⟩, ← List.map_take]; rfl
  have r1 := t_expr' (r_rev (P := theP) (d := d) (e := .loc 1) (ρ := [some (.flist (ns.map AV.int)), some (.obj H'.length), none, none, none]) (H := H' ++ [.list ((fs.take 90).map AV.int)]) (r_loc rfl) get_last (by simp; unfold big; omega)) rfl
  refine ⟨H'.length, _, (fs.take 90).reverse, k_ret rfl rfl (s_next (t_asg' (r_list rl_nil (show ([] : List AV).length < big by decide))) (s_next (t_for' (ri_lst (r_slice (r_loc (x := 0) rfl) r_lit r_lit hsl) get_last) e) (s_next (t_asg' (r_slice (r_loc (x := 1) rfl) r_lit r_lit hs2)) (s_next r1 (s_ret (t_ret' (r_loc (x := 1) rfl))))))), ?_, by simp; omega⟩
  rw [get_set get_last, List.map_reverse]
end
end Mini
end

noncomputable section -- PB17
set_option autoImplicit false
set_option linter.unusedVariables false
set_option linter.unusedSimpArgs false
namespace Mini
noncomputable def funC : List (Nat × Int) := [(1, 2), (7, 2), (9, 2), (10, 2), (11, 1), (12, 2), (12, 1), (13, 1), (14, 2), (2, 1), (20, 2), (21, 2), (3, 1), (3, 2), (4, 2), (6, 2), (22, 2), (26, 1), (27, 3), (28, 1), (15, 0), (16, 0), (17, 0), (18, 0), (19, 1), (19, 2), (19, 3), (19, 4), (19, 5), (19, 6), (19, 7), (19, 8)]
structure F5 (y : Nat) (H H' : AHeap) : Prop where
  len : H.length ≤ H'.length
  same : ∀ (j : Nat) (o : AObj), H[j]? = some o → (j < y ∨ y + 4 < j) → H'[j]? = some o
theorem F5.refl {y : Nat} {H : AHeap} : F5 y H H := ⟨Nat.le_refl _, fun _ _ e _ => e⟩
theorem F5.trans {y : Nat} {H H' H'' : AHeap} (a : F5 y H H') (b : F5 y H' H'') : F5 y H H'' := ⟨Nat.le_trans a.len b.len, fun j o e h => b.same j o (a.same j o e h) h⟩
theorem F5.set {y i : Nat} {H : AHeap} {o : AObj} (h : y ≤ i) (h' : i ≤ y + 4) : F5 y H (H.set i o) := ⟨by simp, fun j o e hj => get_set_ne e (by omega)⟩

structure SI (H : AHeap) (y cnt : Nat) (ts : List AV) (ae : List (AV × AV)) (fs : List AV) (fe : List (AV × AV)) : Prop where
  b : H[y]? = some (.inst 0 [(29, .obj (y + 1)), (30, .obj (y + 2)), (31, .obj (y + 3)), (32, .obj (y + 4))])
  t : H[y + 1]? = some (.list ts)
  a : H[y + 2]? = some (.dict ae)
  f : H[y + 3]? = some (.list fs)
  e : H[y + 4]? = some (.dict fe)
  lt : ts.length ≤ cnt
  la : ae.length ≤ cnt
  lf : fs.length ≤ cnt
  le : fe.length ≤ cnt
  ka : ∀ x ∈ ae, ∃ n i : Nat, x.1 = .sym n ∧ n < 66 ∧ ∃ i : Int, x.2 = .int i
  ke : ∀ x ∈ fe, ∃ a n i : Int, x.1 = .tup [.int a, .int n] ∧ x.2 = .int i ∧ idx i fs = some x.1
theorem mem_dput' {es : List (AV × AV)} {k v : AV} {x : AV × AV} (h : x ∈ dput es k v) : x ∈ es ∨ x = (k, v) := by
  unfold dput at h
  split at h
  · obtain ⟨q, hq, rfl⟩ := List.mem_map.mp h
    split
    · rename_i e; right; rw [e]
    · left; exact hq
  · rw [List.mem_append] at h
    rcases h with h | h
    · exact .inl h
    · exact .inr (List.mem_singleton.mp h)
theorem dlook_mem {es : List (AV × AV)} {k v : AV} (h : dlook es k = some v) : (k, v) ∈ es := by
  unfold dlook at h
  obtain ⟨q, hq, rfl⟩ := Option.map_eq_some_iff.mp h
  have h1 := List.find?_some hq
  have h2 := List.mem_of_find?_eq_some hq
  have : q.1 = k := by simpa using h1
  subst this; exact h2
section
variable {d y cnt : Nat} {H : AHeap} {ts fs : List AV} {ae fe : List (AV × AV)}
theorem b_atom (h : SI H y cnt ts ae fs fe) (hc : cnt < 1000) {n : Nat} (hn : n < 66) :
    ∃ (i : Int) (H' : AHeap) (ts' : List AV) (ae' : List (AV × AV)), callF theP (d + 1) 3 [.obj y, .sym n] H = some (.int i, H') ∧ SI H' y (cnt + 1) ts' ae' fs fe ∧ F5 y H H' := by
  obtain ⟨hb, ht, ha, hf, he, lt, la, lf, le, ka, ke⟩ := id h
  have fits : keyFits theP ae (.sym n) = true := by
    have hk : ∀ n, n < 66 → keyKind theP (.sym n) = some 0 := fun n hn => if_pos hn
    unfold keyFits
    rw [hk n hn]
    simp only [Option.isSome_some, Bool.true_and, List.all_eq_true]
    intro x hx
    obtain ⟨m, _, h1, h2, _⟩ := ka x hx
    rw [h1, hk m h2]; rfl
  have s1 := t_asg' (x := 2) (r_dget (P := theP) (d := d) (ρ := [some (.obj y), some (.sym n), none, none]) (H := H) (e := .attr (.loc 0) 30) (k := .loc 1) (v := .lit (.int (-1))) (r_attr (r_loc rfl) (at_of hb rfl rfl)) ha (r_loc (x := 1) rfl) r_lit ha fits)
  obtain ⟨i, hi⟩ : ∃ i : Int, (dlook ae (.sym n)).getD (.int (-1)) = .int i := by
    cases hl : dlook ae (.sym n) with
    | none => exact ⟨-1, rfl⟩
    | some v =>
      obtain ⟨_, _, _, _, i, h3⟩ := ka _ (dlook_mem hl)
      exact ⟨i, h3⟩
  rw [hi] at s1
  have c0 := r_cmp (P := theP) (d := d) (H := H) (r_loc (x := 2) (v := .int i) (ρ := [some (.obj y), some (.sym n), some (.int i), none]) rfl) (r_lit (v := .int 0)) (show cmpOf theP H .ge (.int i) (.int 0) = some (decide (i ≥ 0)) from rfl)
  by_cases h0 : i ≥ 0
  · rw [decide_eq_true h0] at c0
    exact ⟨i, H, ts, ae, k_ret rfl rfl (s_next s1 (s_ret (t_ifT c0 (s_ret (t_ret' (r_loc (x := 2) rfl)))))), ⟨hb, ht, ha, hf, he, by omega, by omega, by omega, by omega, ka, ke⟩, .refl⟩
  · rw [decide_eq_false h0] at c0
    have s2 := t_asg' (x := 3) (r_len (P := theP) (d := d) (r_attr (n := 29) (r_loc (x := 0) (ρ := [some (.obj y), some (.sym n), some (.int i), none]) (H := H) rfl) (at_of hb rfl rfl)) (len_l ht (by unfold big; omega)))
    have s3 := t_expr' (r_append (P := theP) (d := d) (e := .attr (.loc 0) 29) (x := .loc 1) (ρ := [some (.obj y), some (.sym n), some (.int i), some (.int ts.length)]) (r_attr (r_loc rfl) (at_of hb rfl rfl)) ht (r_loc (x := 1) rfl) ht (by unfold big; omega)) rfl
    have b1 := get_set_ne (o' := .list (ts ++ [.sym n])) hb (show y + 1 ≠ y by omega)
    have a1 := get_set_ne (o' := .list (ts ++ [.sym n])) ha (show y + 1 ≠ y + 2 by omega)
    have s4 := t_sitem' (P := theP) (d := d) (o := .attr (.loc 0) 30) (k := .loc 1) (e := .loc 3) (ρ := [some (.obj y), some (.sym n), some (.int i), some (.int ts.length)]) (r_loc rfl) (r_attr (r_loc rfl) (at_of b1 rfl rfl)) (r_loc (x := 1) rfl) a1 fits (by unfold big; omega)
    refine ⟨_, _, _, _, k_ret rfl rfl (s_next s1 (s_next (t_ifF c0 s_nil) (s_next s2 (s_next s3 (s_next s4 (s_ret (t_ret' (r_loc (x := 3) rfl)))))))), ⟨get_set_ne b1 (by omega), get_set_ne (get_set ht) (by omega), get_set a1, get_set_ne (get_set_ne hf (by omega)) (by omega), get_set_ne (get_set_ne he (by omega)) (by omega), by simp; omega, by have := dput_len ae (.sym n) (.int (ts.length : Int)); omega, by omega, by omega, fun x hx => ?_, ke⟩, (F5.set (by omega) (by omega)).trans (.set (by omega) (by omega))⟩
    rcases mem_dput' hx with hx | rfl
    · exact ka x hx
    · exact ⟨n, 0, rfl, hn, _, rfl⟩
theorem b_functor (h : SI H y cnt ts ae fs fe) (hc : cnt < 1000) (a n : Int) :
    ∃ (i : Int) (H' : AHeap) (fs' : List AV) (fe' : List (AV × AV)), callF theP (d + 1) 4 [.obj y, .int a, .int n] H = some (.int i, H') ∧ SI H' y (cnt + 1) ts ae fs' fe' ∧ F5 y H H' ∧ idx i fs' = some (.tup [.int a, .int n]) := by
  obtain ⟨hb, ht, ha, hf, he, lt, la, lf, le, ka, ke⟩ := id h
  have fits : keyFits theP fe (.tup [.int a, .int n]) = true := by
    unfold keyFits
    simp only [keyKind, List.all_cons, isInt, List.all_nil, Bool.and_self, if_true, Option.isSome_some, Bool.true_and, List.all_eq_true]
    intro x hx
    obtain ⟨p, q, _, h1, _⟩ := ke x hx
    rw [h1]; rfl
  have s0 := t_asg' (x := 3) (r_tup (P := theP) (d := d) (ρ := [some (.obj y), some (.int a), some (.int n), none, none, none]) (H := H) (rl_cons (r_loc (x := 1) rfl) (rl_cons (r_loc (x := 2) rfl) rl_nil)) (show 2 < big by decide))
  have s1 := t_asg' (x := 4) (r_dget (P := theP) (d := d) (ρ := [some (.obj y), some (.int a), some (.int n), some (.tup [.int a, .int n]), none, none]) (H := H) (e := .attr (.loc 0) 32) (k := .loc 3) (v := .lit (.int (-1))) (r_attr (r_loc rfl) (at_of hb rfl rfl)) he (r_loc (x := 3) rfl) r_lit he fits)
  obtain ⟨i, hi, hii⟩ : ∃ i : Int, (dlook fe (.tup [.int a, .int n])).getD (.int (-1)) = .int i ∧ (i ≥ 0 → idx i fs = some (.tup [.int a, .int n])) := by
    cases hl : dlook fe (.tup [.int a, .int n]) with
    | none => exact ⟨-1, rfl, fun z => absurd z (by decide)⟩
    | some v =>
      obtain ⟨_, _, i, h1, h2, h3⟩ := ke _ (dlook_mem hl)
      exact ⟨i, h2, fun _ => h3⟩
  rw [hi] at s1
  have c0 := r_cmp (P := theP) (d := d) (H := H) (r_loc (x := 4) (v := .int i) (ρ := [some (.obj y), some (.int a), some (.int n), some (.tup [.int a, .int n]), some (.int i), none]) rfl) (r_lit (v := .int 0)) (show cmpOf theP H .ge (.int i) (.int 0) = some (decide (i ≥ 0)) from rfl)
  by_cases h0 : i ≥ 0
  · rw [decide_eq_true h0] at c0
    exact ⟨i, H, fs, fe, k_ret rfl rfl (s_next s0 (s_next s1 (s_ret (t_ifT c0 (s_ret (t_ret' (r_loc (x := 4) rfl))))))), ⟨hb, ht, ha, hf, he, by omega, by omega, by omega, by omega, ka, ke⟩, .refl, hii h0⟩
  · rw [decide_eq_false h0] at c0
    have s2 := t_asg' (x := 5) (r_len (P := theP) (d := d) (r_attr (n := 31) (r_loc (x := 0) (ρ := [some (.obj y), some (.int a), some (.int n), some (.tup [.int a, .int n]), some (.int i), none]) (H := H) rfl) (at_of hb rfl rfl)) (len_l hf (by unfold big; omega)))
    have s3 := t_expr' (r_append (P := theP) (d := d) (e := .attr (.loc 0) 31) (x := .loc 3) (ρ := [some (.obj y), some (.int a), some (.int n), some (.tup [.int a, .int n]), some (.int i), some (.int fs.length)]) (r_attr (r_loc rfl) (at_of hb rfl rfl)) hf (r_loc (x := 3) rfl) hf (by unfold big; omega)) rfl
    have b1 := get_set_ne (o' := .list (fs ++ [.tup [.int a, .int n]])) hb (show y + 3 ≠ y by omega)
    have a1 := get_set_ne (o' := .list (fs ++ [.tup [.int a, .int n]])) he (show y + 3 ≠ y + 4 by omega)
    have s4 := t_sitem' (P := theP) (d := d) (o := .attr (.loc 0) 32) (k := .loc 3) (e := .loc 5) (ρ := [some (.obj y), some (.int a), some (.int n), some (.tup [.int a, .int n]), some (.int i), some (.int fs.length)]) (r_loc rfl) (r_attr (r_loc rfl) (at_of b1 rfl rfl)) (r_loc (x := 3) rfl) a1 fits (by unfold big; omega)
    have hix : idx (fs.length : Int) (fs ++ [.tup [.int a, .int n]]) = some (.tup [.int a, .int n]) := idx_nat (by omega) (by omega) (by simp)
    refine ⟨_, _, _, _, k_ret rfl rfl (s_next s0 (s_next s1 (s_next (t_ifF c0 s_nil) (s_next s2 (s_next s3 (s_next s4 (s_ret (t_ret' (r_loc (x := 5) rfl))))))))), ⟨get_set_ne b1 (by omega), get_set_ne (get_set_ne ht (by omega)) (by omega), get_set_ne (get_set_ne ha (by omega)) (by omega), get_set_ne (get_set hf) (by omega), get_set a1, by omega, by omega, by simp; omega, by have := dput_len fe (.tup [.int a, .int n]) (.int (fs.length : Int)); omega, ka, fun x hx => ?_⟩, (F5.set (by omega) (by omega)).trans (.set (by omega) (by omega)), hix⟩
    rcases mem_dput' hx with hx | rfl
    · obtain ⟨p, q, i, h1, h2, h3⟩ := ke x hx
      refine ⟨p, q, i, h1, h2, ?_⟩
      unfold idx at h3 ⊢
      split at h3
      · rename_i hh
        rw [if_pos hh, List.getElem?_append_left (List.getElem?_eq_some_iff.mp h3).1]; exact h3
      · cases h3
    · exact ⟨a, n, _, rfl, rfl, hix⟩
theorem b_func (h : SI H y cnt ts ae fs fe) (hc : cnt < 900) {t : Nat} (ht : t < 66) (n : Int) :
    ∃ (i : Int) (H' : AHeap) (ts' : List AV) (ae' : List (AV × AV)) (fs' : List AV) (fe' : List (AV × AV)) (a : Int), callF theP (d + 2) 5 [.obj y, .sym t, .int n] H = some (.int i, H') ∧ SI H' y (cnt + 2) ts' ae' fs' fe' ∧ F5 y H H' ∧ idx i fs' = some (.tup [.int a, .int n]) := by
  obtain ⟨a, H1, ts1, ae1, a1, a2, a3⟩ := b_atom (d := d) h (by omega) ht
  obtain ⟨i, H2, fs2, fe2, b1, b2, b3, b4⟩ := b_functor (d := d) a2 (by omega) a n
  exact ⟨i, H2, ts1, ae1, fs2, fe2, a, k_ret rfl rfl (s_ret (t_ret' (r_meth (n := 35) (r_loc (x := 0) rfl) h.b (rl_cons (r_meth (n := 33) (r_loc (x := 0) rfl) h.b (rl_cons (r_loc (x := 1) rfl) rl_nil) rfl rfl a1) (rl_cons (r_loc (x := 2) rfl) rl_nil)) rfl rfl b1))), b2, a3.trans b3, b4⟩

theorem rl_lits {P : Prg} {ρ : Loc} : ∀ l : List AV, evL P d (l.map ME.lit) ρ H = some (l, H)
  | [] => rl_nil
  | _ :: l => rl_cons r_lit (rl_lits l)
theorem rl_pairs {P : Prg} {ρ : Loc} : ∀ l : List (Nat × Int), evL P d (l.map fun p => ME.tup [.lit (.sym p.1), .lit (.int p.2)]) ρ H = some (l.map fun p => AV.tup [.sym p.1, .int p.2], H)
  | [] => rl_nil
  | _ :: l => rl_cons (r_tup (rl_cons r_lit (rl_cons r_lit rl_nil)) (show 2 < big by decide)) (rl_pairs l)
theorem b_atoms : callF theP (d + 1) 0 [] H = some (.tup ((List.range 29).map AV.sym), H) :=
  k_ret rfl rfl (s_ret (t_ret' (r_tup (rl_lits ((List.range 29).map AV.sym)) (show ((List.range 29).map AV.sym).length < big by decide))))
theorem b_functors : callF theP (d + 1) 1 [] H = some (.tup (funC.map fun p => AV.tup [.sym p.1, .int p.2]), H) :=
  k_ret rfl rfl (s_ret (t_ret' (r_tup (rl_pairs funC) (show (funC.map fun p => AV.tup [.sym p.1, .int p.2]).length < big by decide))))
end
end Mini
end

noncomputable section -- PB18
set_option autoImplicit false
set_option linter.unusedVariables false
set_option linter.unusedSimpArgs false
namespace Mini
section
variable {d : Nat} {H : AHeap} {ρ : Loc}
theorem Grow.f5 {H H' H'' : AHeap} {y : Nat} (g : Grow H H') (f : F5 y H' H'') (h : H.length ≤ y) : Grow H H'' := ⟨Nat.le_trans g.len f.len, fun j o e => f.same j o (g.same j o e) (.inl (by have := get_lt e; omega))⟩
theorem b_syminit : ∃ (H' : AHeap) (ts fs : List AV) (ae fe : List (AV × AV)), callF theP (d + 3) 2 [.obj H.length] (H ++ [.inst 0 []]) = some (.none, H') ∧ SI H' H.length 100 ts ae fs fe ∧ Grow H H' := by
  have g0 : (H ++ [AObj.inst 0 []])[H.length]? = some (.inst 0 []) := get_last
  have l0 : (H ++ [AObj.inst 0 []]).length = H.length + 1 := by simp
  have s1 := t_sattr' (P := theP) (d := d + 2) (o := .loc 0) (e := .list []) (n := 29) (ρ := [some (.obj H.length), none, none]) (r_list rl_nil (show ([] : List AV).length < big by decide)) (r_loc rfl) (get_app (l := [.list []]) g0) (show 0 < big by decide) rfl
  rw [l0] at s1
  generalize hH1 : (H ++ [AObj.inst 0 []] ++ [AObj.list []]).set H.length (.inst 0 (putAttr [] 29 (.obj (H.length + 1)))) = H1 at s1
  have g1 : H1[H.length]? = some (.inst 0 [(29, .obj (H.length + 1))]) := hH1 ▸ get_set (get_app g0)
  have a1 : H1[H.length + 1]? = some (.list []) := by rw [← hH1, ← l0]; exact get_set_ne get_last (by omega)
  have l1 : H1.length = H.length + 2 := by rw [← hH1]; simp
  have G1 : Grow H H1 := hH1 ▸ (Grow.app.trans .app).set (Nat.le_refl _)
  have s2 := t_sattr' (P := theP) (d := d + 2) (o := .loc 0) (e := .dict0) (n := 30) (ρ := [some (.obj H.length), none, none]) r_dict0 (r_loc rfl) (get_app (l := [.dict []]) g1) (show 1 < big by decide) rfl
  rw [l1] at s2
  generalize hH2 : (H1 ++ [AObj.dict []]).set H.length (.inst 0 (putAttr [(29, .obj (H.length + 1))] 30 (.obj (H.length + 2)))) = H2 at s2
  have g2 : H2[H.length]? = some (.inst 0 [(29, .obj (H.length + 1)), (30, .obj (H.length + 2))]) := hH2 ▸ get_set (get_app g1)
  have a2 : H2[H.length + 1]? = some (.list []) := by rw [← hH2]; exact get_set_ne (get_app a1) (by omega)
  have b2 : H2[H.length + 2]? = some (.dict []) := by rw [← hH2, ← l1]; exact get_set_ne get_last (by omega)
  have l2 : H2.length = H.length + 3 := by rw [← hH2]; simp [l1]
  have G2 : Grow H H2 := hH2 ▸ (G1.trans .app).set (Nat.le_refl _)
  have s3 := t_sattr' (P := theP) (d := d + 2) (o := .loc 0) (e := .list []) (n := 31) (ρ := [some (.obj H.length), none, none]) (r_list rl_nil (show ([] : List AV).length < big by decide)) (r_loc rfl) (get_app (l := [.list []]) g2) (show 2 < big by decide) rfl
  rw [l2] at s3
  generalize hH3 : (H2 ++ [AObj.list []]).set H.length (.inst 0 (putAttr [(29, .obj (H.length + 1)), (30, .obj (H.length + 2))] 31 (.obj (H.length + 3)))) = H3 at s3
  have g3 : H3[H.length]? = some (.inst 0 [(29, .obj (H.length + 1)), (30, .obj (H.length + 2)), (31, .obj (H.length + 3))]) := hH3 ▸ get_set (get_app g2)
  have a3 : H3[H.length + 1]? = some (.list []) := by rw [← hH3]; exact get_set_ne (get_app a2) (by omega)
  have b3 : H3[H.length + 2]? = some (.dict []) := by rw [← hH3]; exact get_set_ne (get_app b2) (by omega)
  have c3 : H3[H.length + 3]? = some (.list []) := by rw [← hH3, ← l2]; exact get_set_ne get_last (by omega)
  have l3 : H3.length = H.length + 4 := by rw [← hH3]; simp [l2]
  have G3 : Grow H H3 := hH3 ▸ (G2.trans .app).set (Nat.le_refl _)
  have s4 := t_sattr' (P := theP) (d := d + 2) (o := .loc 0) (e := .dict0) (n := 32) (ρ := [some (.obj H.length), none, none]) r_dict0 (r_loc rfl) (get_app (l := [.dict []]) g3) (show 3 < big by decide) rfl
  rw [l3] at s4
  generalize hH4 : (H3 ++ [AObj.dict []]).set H.length (.inst 0 (putAttr [(29, .obj (H.length + 1)), (30, .obj (H.length + 2)), (31, .obj (H.length + 3))] 32 (.obj (H.length + 4)))) = H4 at s4
  have G4 : Grow H H4 := hH4 ▸ (G3.trans .app).set (Nat.le_refl _)
  have S0 : SI H4 H.length 0 [] [] [] [] := ⟨hH4 ▸ get_set (get_app g3), by rw [← hH4]; exact get_set_ne (get_app a3) (by omega), by rw [← hH4]; exact get_set_ne (get_app b3) (by omega), by rw [← hH4]; exact get_set_ne (get_app c3) (by omega), by rw [← hH4, ← l3]; exact get_set_ne get_last (by omega), by simp, by simp, by simp, by simp, by simp, by simp⟩
  obtain ⟨ρ5, H5, e5, h5, ts5, ae5, S5, G5⟩ := for_vals (P := theP) (d := d + 2) (x := 1) (kill := [1]) (body := [.expr (.meth (.loc 0) 33 [(.loc 1)])]) (l := (List.range 29).map AV.sym)
    (fun i ρ Hh => ρ = [some (.obj H.length), none, none] ∧ ∃ ts ae, SI Hh H.length i ts ae [] [] ∧ Grow H Hh)
    (fun i v ρ Hh hv hI => by
      obtain ⟨rfl, ts, ae, S, G⟩ := hI
      rw [List.getElem?_map] at hv
      obtain ⟨n, hn, rfl⟩ := Option.map_eq_some_iff.mp hv
      obtain ⟨hi, hn'⟩ := List.getElem?_eq_some_iff.mp hn
      simp at hi hn'
      obtain ⟨k, H6, ts', ae', x1, x2, x3⟩ := b_atom (d := d + 1) S (by omega) (n := n) (by omega)
      exact ⟨_, _, s_next (t_expr' (r_meth (n := 33) (r_loc (x := 0) rfl) S.b (rl_cons (r_loc (x := 1) rfl) rl_nil) rfl rfl x1) rfl) s_nil, rfl, ts', ae', x2, G.f5 x3 (Nat.le_refl _)⟩)
    29 0 [some (.obj H.length), none, none] H4 (by simp) ⟨rfl, [], [], S0, G4⟩
  subst h5
  have S5' : SI H5 H.length 29 ts5 ae5 [] [] := by simpa using S5
  obtain ⟨ρ6, H6, e6, h6, ts6, ae6, fs6, fe6, S6, G6⟩ := for_vals (P := theP) (d := d + 2) (x := 2) (kill := [2]) (body := [.expr (.meth (.loc 0) 34 [(.sub (.loc 2) (.lit (.int 0))), (.sub (.loc 2) (.lit (.int 1)))])]) (l := funC.map fun p => AV.tup [.sym p.1, .int p.2])
    (fun i ρ Hh => ρ = [some (.obj H.length), none, none] ∧ ∃ ts ae fs fe, SI Hh H.length (29 + 2 * i) ts ae fs fe ∧ Grow H Hh)
    (fun i v ρ Hh hv hI => by
      obtain ⟨rfl, ts, ae, fs, fe, S, G⟩ := hI
      rw [List.getElem?_map] at hv
      obtain ⟨p, hp, rfl⟩ := Option.map_eq_some_iff.mp hv
      have hi := (List.getElem?_eq_some_iff.mp hp).1
      have hi32 : i < 32 := hi
      have hp66 : p.1 < 66 := (show ∀ p ∈ funC, p.1 < 66 by decide) p (List.mem_of_getElem? hp)
      obtain ⟨k, H7, ts', ae', fs', fe', a, x1, x2, x3, _⟩ := b_func (d := d) S (by omega) hp66 p.2
      exact ⟨_, _, s_next (t_expr' (r_meth (n := 34) (r_loc (x := 0) rfl) S.b (rl_cons (r_sub (r_loc (x := 2) rfl) r_lit (sub_t rfl)) (rl_cons (r_sub (r_loc (x := 2) rfl) r_lit (sub_t rfl)) rl_nil)) rfl rfl x1) rfl) s_nil, rfl, ts', ae', fs', fe', (show 29 + 2 * (i + 1) = 29 + 2 * i + 2 by omega) ▸ x2, G.f5 x3 (Nat.le_refl _)⟩)
    32 0 [some (.obj H.length), none, none] H5 (by simp [funC]) ⟨rfl, ts5, ae5, [], [], S5', G5⟩
  subst h6
  have S6' : SI H6 H.length 93 ts6 ae6 fs6 fe6 := by simpa [funC] using S6
  refine ⟨H6, ts6, fs6, ae6, fe6, k_next rfl rfl (s_next s1 (s_next s2 (s_next s3 (s_next s4 (s_next (t_for' (ri_tup (r_call rl_nil b_atoms)) e5) (s_next (t_for' (ri_tup (r_call rl_nil b_functors)) e6) s_nil)))))), ?_, G6⟩
  obtain ⟨q1, q2, q3, q4, q5, q6, q7, q8, q9, q10, q11⟩ := S6'
  exact ⟨q1, q2, q3, q4, q5, by omega, by omega, by omega, by omega, q10, q11⟩

/-- the symbols and the functor's number -/
theorem r_symbols : ∃ (H' : AHeap) (ts fs : List AV) (ae fe : List (AV × AV)), evE theP (d + 4) (.new 0 []) ρ H = some (.obj H.length, H') ∧ SI H' H.length 100 ts ae fs fe ∧ Grow H H' := by
  obtain ⟨H', ts, fs, ae, fe, e1, e2, e3⟩ := b_syminit (d := d) (H := H)
  exact ⟨H', ts, fs, ae, fe, r_new rl_nil rfl e1, e2, e3⟩
theorem SI.sy {y cnt : Nat} {ts fs : List AV} {ae fe : List (AV × AV)} (h : SI H y cnt ts ae fs fe) {i n a : Int} (hi : idx i fs = some (.tup [.int a, .int n])) : SY H y i n := ⟨_, _, _, _, _, _, h.b, h.f, hi⟩
end
end Mini
end

noncomputable section -- PB19
set_option autoImplicit false
set_option linter.unusedVariables false
set_option linter.unusedSimpArgs false
namespace Mini
/-- a new code -/
theorem b_codeinit {d : Nat} {H : AHeap} {a u : AV} {k : Key} {q : Nat} : ∃ H', callF theP (d + 1) 27 [.obj H.length, a, k.av, .obj q, u] (H ++ [.inst 2 []]) = some (.none, H') ∧ H'[H.length]? = some (.inst 2 [(35, a), (37, k.av), (60, .obj q), (63, u)]) ∧ Grow H H' ∧ H'.length = H.length + 1 := by
  have g0 : (H ++ [AObj.inst 2 []])[H.length]? = some (.inst 2 []) := get_last
  have s1 := t_sattr' (P := theP) (d := d) (o := .loc 0) (e := .loc 1) (n := 35) (ρ := [some (.obj H.length), some a, some k.av, some (.obj q), some u]) (r_loc rfl) (r_loc rfl) g0 (show 0 < big by decide) rfl
  have g1 := get_set (o' := .inst 2 (putAttr [] 35 a)) g0
  have s2 := t_sattr' (P := theP) (d := d) (o := .loc 0) (e := .loc 2) (n := 37) (ρ := [some (.obj H.length), some a, some k.av, some (.obj q), some u]) (r_loc rfl) (r_loc rfl) g1 (show 1 < big by decide) rfl
  have g2 := get_set (o' := .inst 2 (putAttr (putAttr [] 35 a) 37 k.av)) g1
  have s3 := t_sattr' (P := theP) (d := d) (o := .loc 0) (e := .loc 3) (n := 60) (ρ := [some (.obj H.length), some a, some k.av, some (.obj q), some u]) (r_loc rfl) (r_loc rfl) g2 (show 2 < big by decide) rfl
  have g3 := get_set (o' := .inst 2 (putAttr (putAttr (putAttr [] 35 a) 37 k.av) 60 (.obj q))) g2
  have s4 := t_sattr' (P := theP) (d := d) (o := .loc 0) (e := .loc 4) (n := 63) (ρ := [some (.obj H.length), some a, some k.av, some (.obj q), some u]) (r_loc rfl) (r_loc rfl) g3 (show 3 < big by decide) rfl
  exact ⟨_, k_next rfl rfl (s_next s1 (s_next s2 (s_next s3 (s_next s4 s_nil)))), get_set g3, (((Grow.app.set (Nat.le_refl _)).set (Nat.le_refl _)).set (Nat.le_refl _)).set (Nat.le_refl _), by simp⟩

/-- codes and keys under way: c, kk, fg below the base, the codes above -/
structure KC (H : AHeap) (base fg kk c : Nat) (keys : List Key) : Prop where
  kk : H[kk]? = some (.list (keys.map Key.av))
  cs : ∃ ids : List Nat, ids.length = keys.length ∧ H[c]? = some (.list (ids.map AV.obj)) ∧ ∀ (i : Nat) (k : Key), keys[i]? = some k → ∃ id q a b, ids[i]? = some id ∧ base ≤ id ∧ base ≤ q ∧ H[id]? = some (.inst 2 [(35, a), (37, k.av), (60, .obj q), (63, b)]) ∧ H[q]? = some (.list [(Row.exec i).av])
  fg : ∃ fs : List Int, H[fg]? = some (.list (fs.map AV.int)) ∧ fs.length ≤ 90
theorem KC.codes {H : AHeap} {base fg kk c : Nat} {keys : List Key} (h : KC H base fg kk c keys) : CS H H.length c keys := by
  obtain ⟨ids, h1, h2, h3⟩ := h.cs
  exact ⟨get_lt h2, ids, h1, h2, fun i k e => let ⟨id, q, a, b, f1, _, _, f4, f5⟩ := h3 i k e; ⟨id, q, a, b, f1, get_lt f4, get_lt f5, f4, f5⟩⟩

noncomputable def lawLoc (fg y wide name kk c : AV) (rest : Loc) : Loc := []

/-- the loop that draws keys and codes -/
theorem b_draws {H₀ : AHeap} {v0 vy : AV} {wide name : Int} {fg kk c base : Nat} {m : Int} {tl : Loc} (hb : base = H₀.length) (h1 : fg < base) (h2 : kk < base) (h3 : c < base) (n1 : fg ≠ kk) (n2 : fg ≠ c) (n3 : kk ≠ c) (hm0 : 0 ≤ m) (hm : m ≤ 5) (h0 : KC H₀ base fg kk c []) :
    ∃ (H' : AHeap) (keys : List Key), evFor theP 10 (7, [7], [.expr (.append (.loc 5) (.ite (.cmp .gt (.loc 3) (.lit (.int 0))) (.call 30 [(.loc 1)]) (.tup [(.lit (.sym 36))]))),
       .expr (.append (.loc 6) (.new 2 [(.loc 4), (.sub (.loc 5) (.loc 7)), (.list [(.tup [(.lit (.sym 65)), (.loc 7)])]), (.loc 3)]))]) (.vals (rints 0 m)) 0 (some v0 :: some (.obj fg) :: some vy :: some (.int wide) :: some (.int name) :: some (.obj kk) :: some (.obj c) :: none :: tl) H₀ =
        some (.next, some v0 :: some (.obj fg) :: some vy :: some (.int wide) :: some (.int name) :: some (.obj kk) :: some (.obj c) :: none :: tl, H') ∧ KC H' base fg kk c keys ∧ (keys.length : Int) = m ∧ (∀ (j : Nat) (o : AObj), j ≠ fg → j ≠ kk → j ≠ c → H₀[j]? = some o → H'[j]? = some o) ∧ H₀.length ≤ H'.length ∧ (¬ wide > 0 → ∀ k ∈ keys, k = .var) := by
  obtain ⟨ρ', H', e, keys, e1, e2, e3, e4, e5, e6⟩ := for_vals (P := theP) (d := 10) (x := 7) (kill := [7]) (body := [.expr (.append (.loc 5) (.ite (.cmp .gt (.loc 3) (.lit (.int 0))) (.call 30 [(.loc 1)]) (.tup [(.lit (.sym 36))]))),
       .expr (.append (.loc 6) (.new 2 [(.loc 4), (.sub (.loc 5) (.loc 7)), (.list [(.tup [(.lit (.sym 65)), (.loc 7)])]), (.loc 3)]))]) (l := rints 0 m)
    (fun i ρ H => ∃ keys : List Key, ρ = some v0 :: some (.obj fg) :: some vy :: some (.int wide) :: some (.int name) :: some (.obj kk) :: some (.obj c) :: none :: tl ∧ KC H base fg kk c keys ∧ keys.length = i ∧ (∀ (j : Nat) (o : AObj), j ≠ fg → j ≠ kk → j ≠ c → H₀[j]? = some o → H[j]? = some o) ∧ H₀.length ≤ H.length ∧ (¬ wide > 0 → ∀ k ∈ keys, k = .var))
    (fun i v ρ H hv hI => by
      obtain ⟨keys, rfl, K, hlen, hk, hl, hw⟩ := hI
      obtain ⟨rfl, hi⟩ := rints_get hv
      rw [Int.zero_add]
      obtain ⟨Kk, ⟨ids, c1, c2, c3⟩, fs, f1, f2⟩ := K
      -- the key
      have key : ∃ (k : Key) (H1 : AHeap) (fs1 : List Int), evE theP 10 (.ite (.cmp .gt (.loc 3) (.lit (.int 0))) (.call 30 [(.loc 1)]) (.tup [(.lit (.sym 36))])) (some v0 :: some (.obj fg) :: some vy :: some (.int wide) :: some (.int name) :: some (.obj kk) :: some (.obj c) :: some (.int (i : Int)) :: tl) H = some (k.av, H1) ∧
          Kp fg H H1 ∧ H1[fg]? = some (.list (fs1.map AV.int)) ∧ fs1.length ≤ 90 ∧ (¬ wide > 0 → k = .var) := by
        have cc := r_cmp (P := theP) (d := 10) (H := H) (r_loc (x := 3) (v := .int wide) (ρ := some v0 :: some (.obj fg) :: some vy :: some (.int wide) :: some (.int name) :: some (.obj kk) :: some (.obj c) :: some (.int (i : Int)) :: tl) rfl) (r_lit (v := .int 0)) (show cmpOf theP H .gt (.int wide) (.int 0) = some (decide (wide > 0)) from rfl)
        by_cases hwd : wide > 0
        · rw [decide_eq_true hwd] at cc
          obtain ⟨k, H1, fs1, k1, k2, k3, k4⟩ := b_keydrawn (d := 8) f1 (by unfold big; omega)
          exact ⟨k, H1, fs1, r_ite cc (r_call (rl_cons (r_loc (x := 1) rfl) rl_nil) k1), k2, k3, by omega, fun z => absurd hwd z⟩
        · rw [decide_eq_false hwd] at cc
          exact ⟨.var, H, fs, r_ite cc (r_tup (rl_cons r_lit rl_nil) (show 1 < big by decide)), .refl, f1, f2, fun _ => rfl⟩
      obtain ⟨k, H1, fs1, k1, k2, k3, k4, k5⟩ := key
      have Kk1 := k2.same _ _ (fun z => n1 z.symm) Kk
      have c21 := k2.same _ _ (fun z => n2 z.symm) c2
      have s1 := t_expr' (r_append (e := .loc 5) (r_loc (x := 5) rfl) Kk k1 Kk1 (by rw [List.length_map]; unfold big; omega)) rfl
      have kks : (H1.set kk (.list (keys.map Key.av ++ [k.av])))[kk]? = some (.list ((keys ++ [k]).map Key.av)) := by rw [get_set Kk1]; simp
      have same2 : ∀ (j : Nat) (o : AObj), j ≠ kk → H1[j]? = some o → (H1.set kk (.list (keys.map Key.av ++ [k.av])))[j]? = some o := fun j o hj e => get_set_ne e (fun z => hj z.symm)
      have len2 : (H1.set kk (.list (keys.map Key.av ++ [k.av]))).length = H1.length := by simp
      generalize H1.set kk (.list (keys.map Key.av ++ [k.av])) = H2 at s1 kks same2 len2
      -- the code
      obtain ⟨H4, x1, x2, x3, x4⟩ := b_codeinit (d := 8) (H := H2 ++ [.list [(Row.exec (i : Int)).av]]) (a := .int name) (u := .int wide) (k := k) (q := H2.length)
      have hc2 := same2 _ _ (fun z => n3 z.symm) c21
      have hc4 := x3.same _ _ (get_app hc2)
      have hkk : idx (i : Int) ((keys ++ [k]).map Key.av) = some k.av := idx_nat (by omega) (by omega) (by simp [← hlen])
      have s2 := t_expr' (r_append (P := theP) (d := 10) (e := .loc 6) (x := .new 2 [(.loc 4), (.sub (.loc 5) (.loc 7)), (.list [(.tup [(.lit (.sym 65)), (.loc 7)])]), (.loc 3)]) (ρ := some v0 :: some (.obj fg) :: some vy :: some (.int wide) :: some (.int name) :: some (.obj kk) :: some (.obj c) :: some (.int (i : Int)) :: tl) (H := H2) (r_loc (x := 6) rfl) hc2
        (r_new (rl_cons (r_loc (x := 4) rfl) (rl_cons (r_sub (r_loc (x := 5) rfl) (r_loc (x := 7) rfl) (sub_l kks hkk)) (rl_cons (r_list (rl_cons (r_tup (rl_cons r_lit (rl_cons (r_loc (x := 7) rfl) rl_nil)) (show 2 < big by decide)) rl_nil) (show 1 < big by decide)) (rl_cons (r_loc (x := 3) rfl) rl_nil)))) rfl x1) hc4 (by rw [List.length_map, c1]; unfold big; omega)) rfl
      have hlen12 := k2.len
      have hid : (H2 ++ [AObj.list [(Row.exec (i : Int)).av]]).length = H2.length + 1 := by simp
      have old : ∀ (j : Nat) (o : AObj), j ≠ fg → j ≠ kk → j ≠ c → H[j]? = some o → (H4.set c (.list (ids.map AV.obj ++ [.obj (H2 ++ [AObj.list [(Row.exec (i : Int)).av]]).length])))[j]? = some o := fun j o j1 j2 j3 e => get_set_ne (x3.same _ _ (get_app (same2 _ _ j2 (k2.same _ _ j1 e)))) (fun z => j3 z.symm)
      refine ⟨_, _, s_next s1 (s_next s2 s_nil), keys ++ [k], rfl, ⟨get_set_ne (x3.same _ _ (get_app kks)) (fun z => n3 z.symm), ⟨ids ++ [H2.length + 1], by simp [c1], by rw [get_set hc4]; simp, fun j kj ej => ?_⟩, fs1, get_set_ne (x3.same _ _ (get_app (same2 _ _ n1 k3))) (fun z => n2 z.symm), k4⟩, by simp [hlen], fun j o j1 j2 j3 e => old j o j1 j2 j3 (hk j o j1 j2 j3 e), by rw [List.length_set, x4, hid]; omega, fun z kj hkj => ?_⟩
      · by_cases hj : j < keys.length
        · rw [List.getElem?_append_left hj] at ej
          obtain ⟨id, q, a, b, g1, g2, g3, g4, g5⟩ := c3 j kj ej
          exact ⟨id, q, a, b, by rw [List.getElem?_append_left (by omega)]; exact g1, g2, g3, old _ _ (by omega) (by omega) (by omega) g4, old _ _ (by omega) (by omega) (by omega) g5⟩
        · have hj' : j = keys.length := by
            have := (List.getElem?_eq_some_iff.mp ej).1
            simp at this; omega
          subst hj'
          simp at ej; subst ej
          refine ⟨H2.length + 1, H2.length, .int name, .int wide, by rw [← c1]; simp, by omega, by omega, ?_, ?_⟩
          · rw [← hid]; exact get_set_ne x2 (by rw [hid]; omega)
          · have : (Row.exec ((keys.length : Nat) : Int)) = Row.exec (i : Int) := by rw [hlen]
            rw [this]
            exact get_set_ne (x3.same _ _ get_last) (by omega)
      · rw [List.mem_append] at hkj
        rcases hkj with hkj | hkj
        · exact hw z kj hkj
        · rw [List.mem_singleton.mp hkj]; exact k5 z)
    m.toNat 0 _ H₀ (by rw [rints_len]; omega) ⟨[], rfl, h0, rfl, fun _ _ _ _ _ e => e, Nat.le_refl _, fun _ k hk => by simp at hk⟩
  subst e1
  refine ⟨H', keys, e, e2, by rw [e3, rints_len]; omega, e4, e5, e6⟩
end Mini
end

noncomputable section -- PB20
set_option autoImplicit false
set_option linter.unusedVariables false
set_option linter.unusedSimpArgs false
namespace Mini
noncomputable def homesF : List (List Int) → Nat → List Int
  | [], _ => []
  | g :: G, n => List.replicate g.length (n : Int) ++ homesF G (n + 1)
theorem homesF_app : ∀ (G : List (List Int)) (g : List Int) (n : Nat), homesF (G ++ [g]) n = homesF G n ++ List.replicate g.length ((n + G.length : Nat) : Int)
  | [], g, n => by simp [homesF]
  | a :: G, g, n => by
    simp only [List.cons_append, homesF, homesF_app G g (n + 1), List.append_assoc, List.length_cons]
    have : n + 1 + G.length = n + (G.length + 1) := by omega
    rw [this]
theorem homesF_len : ∀ (G : List (List Int)) (n : Nat), (homesF G n).length = G.flatten.length
  | [], _ => rfl
  | g :: G, n => by rw [homesF, List.length_append, List.length_replicate, homesF_len G, List.flatten_cons, List.length_append]
section
variable {H : AHeap} {ρ : Loc} {keys : List Key}

theorem b_home {lo g : Nat} {G : List (List Int)} (L : LL lo H g G) (hG : G.length < 1000) (hfl : G.flatten.length < 1000) (h9 : ρ[9]? = some (some (.obj g))) (h10 : ρ[10]? = some (some (.obj H.length))) (h11 : ρ[11]? = some (some (.obj (H.length + 1)))) (h12 : ρ[12]? = some none) (h7 : ρ[7]? = some none) :
    evFor theP 10 (12, [7, 12], [.for_ 7 (.e (.sub (.loc 9) (.loc 12))) [7] [.expr (.append (.loc 10) (.loc 12)), .expr (.append (.loc 11) (.loc 7))]]) (.vals (rints 0 (G.length : Int))) 0 ρ (hp H [] []) = some (.next, ρ, hp H (homesF G 0) G.flatten) := by
  obtain ⟨_, gids, l1, l2, l3⟩ := L
  have hlen12 := (List.getElem?_eq_some_iff.mp h12).1
  have hlen7 := (List.getElem?_eq_some_iff.mp h7).1
  obtain ⟨ρ', H', e, e1, e2⟩ := for_vals (P := theP) (d := 10) (x := 12) (kill := [7, 12]) (body := [.for_ 7 (.e (.sub (.loc 9) (.loc 12))) [7] [.expr (.append (.loc 10) (.loc 12)), .expr (.append (.loc 11) (.loc 7))]]) (l := rints 0 (G.length : Int))
    (fun i ρ' Hh => ρ' = ρ ∧ Hh = hp H (homesF (G.take i) 0) (G.take i).flatten)
    (fun i v ρ' Hh hv hI => by
      obtain ⟨rfl, rfl⟩ := hI
      obtain ⟨rfl, hi⟩ := rints_get hv
      rw [Int.zero_add]
      have hi' : i < G.length := by omega
      have hgi : G[i]? = some G[i] := by simp [hi']
      obtain ⟨id, g1, _, g3⟩ := l3 i G[i] hgi
      have htl : ((G.take i).flatten).length + G[i].length ≤ G.flatten.length := by
        have : G = G.take i ++ G[i] :: G.drop (i + 1) := by rw [← List.drop_eq_getElem_cons hi', List.take_append_drop]
        conv => rhs; rw [this]
        rw [List.flatten_append, List.flatten_cons, List.length_append, List.length_append]; omega
      have hhl := homesF_len (G.take i) 0
      obtain ⟨ρ2, H2, f, f1, f2⟩ := for_lst (P := theP) (d := 10) (x := 7) (o := id) (kill := [7]) (body := [.expr (.append (.loc 10) (.loc 12)), .expr (.append (.loc 11) (.loc 7))]) (l := G[i].map AV.int)
        (fun j ρ2 H2 => ρ2 = ρ'.set 12 (some (.int (i : Int))) ∧ H2 = hp H (homesF (G.take i) 0 ++ List.replicate j (i : Int)) ((G.take i).flatten ++ G[i].take j))
        (fun j ρ2 H2 hI => by rw [hI.2]; exact get_app (get_app g3))
        (fun j v ρ2 H2 hv hI => by
          obtain ⟨rfl, rfl⟩ := hI
          rw [List.getElem?_map] at hv
          obtain ⟨x, hx, rfl⟩ := Option.map_eq_some_iff.mp hv
          have hj := (List.getElem?_eq_some_iff.mp hx).1
          have q : ∀ n : Nat, n ≠ 7 → n ≠ 12 → ((ρ'.set 12 (some (.int (i : Int)))).set 7 (some (.int x)))[n]? = ρ'[n]? := fun n h1 h2 => by rw [List.getElem?_set_ne (fun z => h1 z.symm), List.getElem?_set_ne (fun z => h2 z.symm)]
          have q12 : ((ρ'.set 12 (some (.int (i : Int)))).set 7 (some (.int x)))[12]? = some (some (.int (i : Int))) := by rw [List.getElem?_set_ne (by decide), List.getElem?_set_self hlen12]
          have q7 : ((ρ'.set 12 (some (.int (i : Int)))).set 7 (some (.int x)))[7]? = some (some (.int x)) := List.getElem?_set_self (by simpa using hlen7)
          have a1 := t_expr' (r_append (P := theP) (d := 10) (e := .loc 10) (x := .loc 12) (H := hp H (homesF (G.take i) 0 ++ List.replicate j (i : Int)) ((G.take i).flatten ++ G[i].take j)) (r_loc (by rw [q 10 (by decide) (by decide)]; exact h10)) get_last1 (r_loc q12) get_last1 (by rw [List.length_map, List.length_append, List.length_replicate]; unfold big; omega)) rfl
          have e1 : (hp H (homesF (G.take i) 0 ++ List.replicate j (i : Int)) ((G.take i).flatten ++ G[i].take j)).set H.length (.list ((homesF (G.take i) 0 ++ List.replicate j (i : Int)).map AV.int ++ [.int (i : Int)])) = hp H (homesF (G.take i) 0 ++ List.replicate (j + 1) (i : Int)) ((G.take i).flatten ++ G[i].take j) := by
            show (H ++ _ ++ _).set _ _ = _
            rw [set_f, List.replicate_succ']; simp [hp]
          rw [e1] at a1
          have a2 := t_expr' (r_append (P := theP) (d := 10) (e := .loc 11) (x := .loc 7) (H := hp H (homesF (G.take i) 0 ++ List.replicate (j + 1) (i : Int)) ((G.take i).flatten ++ G[i].take j)) (r_loc (by rw [q 11 (by decide) (by decide)]; exact h11)) get_last2 (r_loc q7) get_last2 (by rw [List.length_map, List.length_append, List.length_take]; unfold big; omega)) rfl
          have e2 : (hp H (homesF (G.take i) 0 ++ List.replicate (j + 1) (i : Int)) ((G.take i).flatten ++ G[i].take j)).set (H.length + 1) (.list (((G.take i).flatten ++ G[i].take j).map AV.int ++ [.int x])) = hp H (homesF (G.take i) 0 ++ List.replicate (j + 1) (i : Int)) ((G.take i).flatten ++ G[i].take (j + 1)) := by
            show (H ++ _ ++ _).set _ _ = _
            rw [set_p, take_more hx]; simp [hp]
          rw [e2] at a2
          refine ⟨_, _, s_next a1 (s_next a2 s_nil), ?_, rfl⟩
          exact set_back (by rw [List.getElem?_set_ne (by decide)]; exact h7))
        G[i].length 0 (ρ'.set 12 (some (.int (i : Int)))) (hp H (homesF (G.take i) 0) (G.take i).flatten) (by simp) ⟨rfl, by simp⟩
      rw [List.length_map, List.take_length] at f2
      subst f1
      have k0 : killAll [7] (ρ'.set 12 (some (.int (i : Int)))) = ρ'.set 12 (some (.int (i : Int))) := by
        show (ρ'.set 12 _).set 7 none = _
        have : (ρ'.set 12 (some (AV.int (i : Int))))[7]? = some none := by rw [List.getElem?_set_ne (by decide)]; exact h7
        obtain ⟨p1, p2⟩ := List.getElem?_eq_some_iff.mp this
        rw [← p2]; exact List.set_getElem_self p1
      have ev := t_for' (P := theP) (d := 10) (x := 7) (it := .e (.sub (.loc 9) (.loc 12))) (kill := [7]) (ρ := ρ'.set 12 (some (.int (i : Int)))) (ri_lst (r_sub (r_loc (by rw [List.getElem?_set_ne (by decide)]; exact h9)) (r_loc (List.getElem?_set_self hlen12)) (sub_l (H := hp H (homesF (G.take i) 0) (G.take i).flatten) (get_app (get_app l1)) (idx_nat (by omega) (by omega) (by simp [g1])))) (get_app (get_app g3))) (by rw [k0]; exact f)
      refine ⟨_, _, s_next ev s_nil, ?_, ?_⟩
      · show ((ρ'.set 12 _).set 7 none).set 12 none = ρ'
        have : (ρ'.set 12 (some (AV.int (i : Int)))).set 7 none = ρ'.set 12 (some (.int (i : Int))) := k0
        rw [this]; exact set_back h12
      · rw [f2, take_more hgi, homesF_app, List.flatten_append]
        have : (G.take i).length = i := by rw [List.length_take]; omega
        rw [this]; simp)
    G.length 0 ρ (hp H [] []) (by rw [rints_len]; omega) ⟨rfl, rfl⟩
  have hlr : (rints 0 (G.length : Int)).length = G.length := by rw [rints_len]; omega
  rw [hlr, List.take_length] at e2
  subst e1 e2
  exact e

/-- no group is empty -/
theorem any_empty {lo g : Nat} {G : List (List Int)} {e : Nat} (L : LL lo H g G) (he : H[e]? = some (.list [])) (hne : ∀ g ∈ G, g ≠ []) : cmpOf theP H .isin (.obj e) (.obj g) = some false := by
  obtain ⟨_, gids, l1, l2, l3⟩ := L
  have : ∀ (ids : List Nat), (∀ id ∈ ids, ∃ grp : List Int, grp ≠ [] ∧ H[id]? = some (.list (grp.map AV.int))) → anyEq theP H (.obj e) (ids.map AV.obj) = some false := by
    intro ids
    induction ids with
    | nil => intro _; rfl
    | cons id ids ih =>
      intro h
      obtain ⟨grp, g1, g2⟩ := h id List.mem_cons_self
      have h1 := deep_l (P := theP) g2 he (eqOks_ints grp 4) rfl
      rw [decide_eq_false (by simpa using g1)] at h1
      simp only [List.map_cons, anyEq, h1, ih fun i hi => h i (List.mem_cons_of_mem _ hi)]
      rfl
  simp only [cmpOf, inOf, l1]
  refine this gids fun id hid => ?_
  obtain ⟨i, hi⟩ := List.mem_iff_getElem?.mp hid
  have hlt : i < G.length := by rw [← l2]; exact (List.getElem?_eq_some_iff.mp hi).1
  obtain ⟨id', a1, _, a2⟩ := l3 i G[i] (by simp [hlt])
  obtain rfl : id = id' := Option.some.inj (hi.symm.trans a1)
  exact ⟨G[i], hne _ (List.getElem_mem _), a2⟩
end
end Mini
end

noncomputable section -- PC1
set_option autoImplicit false
set_option linter.unusedVariables false
set_option linter.unusedSimpArgs false
namespace Mini
noncomputable def labsOf (blk : List Row) : List Int := blk.filterMap fun r => match r with | .lab l => some l | _ => none
theorem labsOf_app (a b : List Row) : labsOf (a ++ b) = labsOf a ++ labsOf b := by simp [labsOf]
theorem mem_labs {blk : List Row} {j : Nat} {l : Int} (h : blk[j]? = some (Row.lab l)) : l ∈ labsOf blk := List.mem_filterMap.mpr ⟨_, List.mem_of_getElem? h, rfl⟩
theorem uniq_of {blk : List Row} (hn : (labsOf blk).Nodup) : Uniq blk := by
  induction blk with
  | nil => intro j j' l h; cases h
  | cons r blk ih =>
    have hh : labsOf (r :: blk) = labsOf [r] ++ labsOf blk := labsOf_app [r] blk
    rw [hh] at hn
    have ih := ih (List.nodup_append.mp hn).2.1
    have hnew : ∀ l, r = .lab l → l ∉ labsOf blk := fun l e z => by
      subst e
      exact (List.nodup_append.mp hn).2.2 l List.mem_cons_self l z rfl
    intro j j' l h h'
    cases j with
    | zero =>
      cases j' with
      | zero => rfl
      | succ j' => exact absurd (mem_labs (blk := blk) h') (hnew l (Option.some.inj h))
    | succ j =>
      cases j' with
      | zero => exact absurd (mem_labs (blk := blk) h) (hnew l (Option.some.inj h'))
      | succ j' => exact congrArg Nat.succ (ih j j' l h h')
theorem labs_chainRows (ar : Int) (ps : List Int) : labsOf (chainRows ar ps) = [] := by
  have hr : ∀ ps : List Int, labsOf (restRows ps) = [] := by
    intro ps
    induction ps with
    | nil => rfl
    | cons y ps ih => cases ps with
      | nil => rfl
      | cons z r => exact ih
  cases ps with
  | nil => rfl
  | cons x ps => exact hr ps
theorem labs_finish (st : BSt) (m : Nat) : labsOf (finishRows st m) = labsOf st.rows ++ st.chains.map (·.1) ++ rangeI m := by
  unfold finishRows
  rw [labsOf_app, labsOf_app]
  congr 1
  · congr 1
    induction st.chains with
    | nil => rfl
    | cons p ch ih =>
      rw [List.flatMap_cons, labsOf_app, ih]
      show p.1 :: labsOf (chainRows st.ar p.2) ++ _ = _
      rw [labs_chainRows]; rfl
  · unfold rangeI
    induction List.range m with
    | nil => rfl
    | cons i l ih => rw [List.flatMap_cons, labsOf_app, ih]; rfl

/-- the segment lies at p -/
noncomputable def At (blk : List Row) (p : Nat) (seg : List Row) : Prop := ∀ (i : Nat) (r : Row), seg[i]? = some r → blk[p + i]? = some r
theorem At.of (a s c : List Row) : At (a ++ s ++ c) a.length s := fun i r h => by
  have hi := (List.getElem?_eq_some_iff.mp h).1
  rw [List.append_assoc, List.getElem?_append_right (by omega), Nat.add_sub_cancel_left, List.getElem?_append_left hi]; exact h
theorem At.cons {blk : List Row} {p : Nat} {r : Row} {s : List Row} (h : At blk p (r :: s)) : blk[p]? = some r ∧ At blk (p + 1) s :=
  ⟨by simpa using h 0 r rfl, fun i x e => by have := h (i + 1) x (by simpa using e); rwa [show p + (i + 1) = p + 1 + i by omega] at this⟩
theorem At.app {blk : List Row} {p : Nat} {s t : List Row} (h : At blk p (s ++ t)) : At blk p s ∧ At blk (p + s.length) t :=
  ⟨fun i r e => h i r (by rw [List.getElem?_append_left (List.getElem?_eq_some_iff.mp e).1]; exact e), fun i r e => by
    have := h (s.length + i) r (by rw [List.getElem?_append_right (by omega), Nat.add_sub_cancel_left]; exact e)
    rwa [← Nat.add_assoc] at this⟩

section
variable {blk : List Row} {m : Int} {k : Key}
/-- labels with what they come to -/
inductive Outs (blk : List Row) (m : Int) (k : Key) (K : Nat) : List Int → List (List Int) → Prop
  | nil : Outs blk m k K [] []
  | cons {l : Int} {o : List Int} {ls : List Int} {os : List (List Int)} : (∃ n, n ≤ K ∧ DL blk m k n l o) → Outs blk m k K ls os → Outs blk m k K (l :: ls) (o :: os)
theorem d_rest {K : Nat} {ls : List Int} {os : List (List Int)} {p : Nat} (h0 : ls ≠ []) (t : Outs blk m k K ls os) (ha : At blk p (restRows ls)) : ∃ n, n ≤ ls.length * (K + 1) ∧ D blk m k n p os.flatten := by
  induction t generalizing p with
  | nil => exact absurd rfl h0
  | @cons l o ls os h t ih =>
    obtain ⟨n, hn, hd⟩ := h
    cases ls with
    | nil =>
      cases t
      exact ⟨n + 1, by rw [List.length_singleton]; omega, by rw [List.flatten_cons, List.flatten_nil, List.append_nil]; exact D.trust ha.cons.1 hd⟩
    | cons z r =>
      obtain ⟨n', hn', hd'⟩ := ih (List.cons_ne_nil _ _) ha.cons.2
      exact ⟨n + n' + 1, by rw [List.length_cons, Nat.succ_mul]; omega, by rw [List.flatten_cons]; exact D.retry ha.cons.1 hd hd'⟩
theorem d_chain {K : Nat} {ar : Int} {ls : List Int} {os : List (List Int)} {p : Nat} (h2 : 2 ≤ ls.length) (t : Outs blk m k K ls os) (ha : At blk p (chainRows ar ls)) : ∃ n, n ≤ ls.length * (K + 1) ∧ D blk m k n p os.flatten := by
  cases t with
  | nil => simp at h2
  | @cons l o ls os h t =>
    obtain ⟨n, hn, hd⟩ := h
    have ha : At blk p (.tri l ar :: restRows ls) := ha
    obtain ⟨n', hn', hd'⟩ := d_rest (by intro q; subst q; simp at h2) t ha.cons.2
    refine ⟨n + n' + 1, ?_, ?_⟩
    · rw [List.length_cons, Nat.succ_mul]; omega
    · rw [List.flatten_cons]; exact D.tri ha.cons.1 hd hd'

/-- a label and the places it stands for -/
noncomputable def Lbl (C : List (Int × List Int)) (m : Nat) (l : Int) (o : List Int) : Prop := (o = [] ∧ l = -1) ∨ (o = [l] ∧ 0 ≤ l ∧ l < m) ∨ (2 ≤ o.length ∧ (l, o) ∈ C)
theorem Lbl.mono {C C' : List (Int × List Int)} {m : Nat} {l : Int} {o : List Int} (h : Lbl C m l o) (hc : ∀ p ∈ C, p ∈ C') : Lbl C' m l o := by
  rcases h with h | h | h
  · exact .inl h
  · exact .inr (.inl h)
  · exact .inr (.inr ⟨h.1, hc _ h.2⟩)

theorem split_flat {α β : Type} {f : α → List β} {l : List α} {x : α} (h : x ∈ l) : ∃ a c, l.flatMap f = a ++ f x ++ c := by
  obtain ⟨a, c, rfl⟩ := List.append_of_mem h
  exact ⟨a.flatMap f, c.flatMap f, by simp⟩
theorem code_pos (st : BSt) (M : Nat) {x : Int} (h0 : 0 ≤ x) (hx : x < M) : ∃ p : Nat, (finishRows st M)[p]? = some (Row.lab x) := by
  obtain ⟨a, c, e⟩ := split_flat (f := codeBlk) (l := List.range M) (x := x.toNat) (List.mem_range.mpr (by omega))
  have : At (finishRows st M) ((st.rows ++ st.chains.flatMap (chainBlk st.ar)) ++ a).length (codeBlk x.toNat) := by
    have := At.of ((st.rows ++ st.chains.flatMap (chainBlk st.ar)) ++ a) (codeBlk x.toNat) c
    unfold finishRows
    rw [e]
    simpa [List.append_assoc] using this
  have := this.cons.1
  rw [show ((x.toNat : Nat) : Int) = x by omega] at this
  exact ⟨_, this⟩
theorem dl_code (st : BSt) (M : Nat) {x : Int} (h0 : 0 ≤ x) (hx : x < M) : DL (finishRows st M) M k 1 x [x] := by
  obtain ⟨p, hp⟩ := code_pos st M h0 hx
  exact DL.go (by omega) hp (D.here hp hx)
theorem outs_codes (st : BSt) (M : Nat) : ∀ {o : List Int}, (∀ x ∈ o, 0 ≤ x ∧ x < M) → Outs (finishRows st M) M k 1 o (o.map fun x => [x])
  | [], _ => .nil
  | x :: o, h => .cons ⟨1, Nat.le_refl _, dl_code st M (h x List.mem_cons_self).1 (h x List.mem_cons_self).2⟩ (outs_codes st M fun y hy => h y (List.mem_cons_of_mem _ hy))
theorem flat_ones (o : List Int) : (o.map fun x => [x]).flatten = o := by
  induction o with
  | nil => rfl
  | cons x o ih => rw [List.map_cons, List.flatten_cons, ih]; rfl
theorem dl_lbl {st : BSt} {M : Nat} {l : Int} {o : List Int} (h : Lbl st.chains M l o) (hr : ∀ x ∈ o, 0 ≤ x ∧ x < M) (hlo : ∀ p ∈ st.chains, (M : Int) ≤ p.1) : ∃ n, n ≤ 2 * o.length + 1 ∧ DL (finishRows st M) M k n l o := by
  rcases h with ⟨rfl, rfl⟩ | ⟨rfl, h0, hx⟩ | ⟨h2, hm⟩
  · exact ⟨0, by omega, .fail⟩
  · exact ⟨1, by simp, dl_code st M h0 hx⟩
  · obtain ⟨a, c, e⟩ := split_flat (f := chainBlk st.ar) hm
    have hat : At (finishRows st M) (st.rows ++ a).length (chainBlk st.ar (l, o)) := by
      have := At.of (st.rows ++ a) (chainBlk st.ar (l, o)) (c ++ (List.range M).flatMap codeBlk)
      unfold finishRows
      rw [e]
      simpa [List.append_assoc] using this
    have hl := hlo _ hm
    obtain ⟨n, hn, hd⟩ := d_chain h2 (outs_codes st M (k := k) hr) hat.cons.2
    rw [flat_ones] at hd
    exact ⟨n + 1, by omega, DL.go (by have : (l : Int) ≥ M := hl; omega) hat.cons.1 (D.lab hat.cons.1 (by have : (l : Int) ≥ M := hl; omega) hd)⟩
end
end Mini
end

noncomputable section -- PC2
set_option autoImplicit false
set_option linter.unusedVariables false
set_option linter.unusedSimpArgs false
namespace Mini
/-- labels in use: apart, in M..next -/
structure LI (M next : Int) (L : List Int) : Prop where
  nd : L.Nodup
  bd : ∀ l ∈ L, M ≤ l ∧ l < next
  nx : M ≤ next
theorem LI.perm {M next : Int} {L L' : List Int} (h : LI M next L) (p : L'.Perm L) : LI M next L' := ⟨p.nodup_iff.mpr h.nd, fun l hl => h.bd l (p.mem_iff.mp hl), h.nx⟩
theorem LI.fresh {M next : Int} {L : List Int} (h : LI M next L) : LI M (next + 1) (next :: L) :=
  ⟨List.nodup_cons.mpr ⟨fun z => by have := (h.bd _ z).2; omega, h.nd⟩, fun l hl => by
    rcases List.mem_cons.mp hl with rfl | hl
    · exact ⟨h.nx, by omega⟩
    · have := h.bd l hl; omega, by have := h.nx; omega⟩
noncomputable def used (st : BSt) (pend : List Int) : List Int := labsOf st.rows ++ st.chains.map (·.1) ++ pend

noncomputable def Sub (st st' : BSt) : Prop := ∀ p ∈ st.chains, p ∈ st'.chains
theorem chainF_sub (st : BSt) (ps : List Int) : Sub st (chainF st ps).2 := by
  intro p hp
  unfold chainF
  split
  · exact hp
  · exact hp
  · split
    · exact hp
    · exact List.mem_append_left _ hp
theorem chainF_lbl {M : Nat} (st : BSt) {ps : List Int} (hr : ∀ x ∈ ps, 0 ≤ x ∧ x < M) : Lbl (chainF st ps).2.chains M (chainF st ps).1 ps := by
  unfold chainF
  split
  · exact .inl ⟨rfl, rfl⟩
  · rename_i x
    exact .inr (.inl ⟨rfl, (hr x List.mem_cons_self).1, (hr x List.mem_cons_self).2⟩)
  · rename_i h1 h2
    have hl : 2 ≤ ps.length := by
      match ps, h1, h2 with
      | [], h1, _ => exact absurd rfl h1
      | [x], _, h2 => exact absurd rfl (h2 x)
      | x :: y :: r, _, _ => simp
    split
    · rename_i p hp
      have h3 := List.find?_some hp
      have h4 := List.mem_of_find?_eq_some hp
      have : p.2 = ps := by simpa using h3
      exact .inr (.inr ⟨hl, by rw [← this]; exact h4⟩)
    · exact .inr (.inr ⟨hl, by simp⟩)
theorem chainF_li {M : Int} {st : BSt} {ps pend : List Int} (h : LI M st.next (used st pend)) : LI M (chainF st ps).2.next (used (chainF st ps).2 pend) := by
  unfold chainF
  split
  · exact h
  · exact h
  · split
    · exact h
    · refine h.fresh.perm ?_
      unfold used
      simp only [List.map_append, List.map_cons, List.map_nil]
      rw [← List.append_assoc (labsOf st.rows), List.append_assoc _ [st.next]]
      exact List.perm_middle

noncomputable def Tab (keys : List Key) (C : List (Int × List Int)) (M : Nat) (ps : List Int) (kd : Nat) (t : List (AV × Int)) : Prop :=
  (∀ p ∈ t, ∃ x ∈ ps, (kat keys x).kd = kd ∧ p.1 = (kat keys x).snd ∧ Lbl C M p.2 (matchP keys ps (kat keys x))) ∧ ∀ x ∈ ps, (kat keys x).kd = kd → ∃ p ∈ t, p.1 = (kat keys x).snd
theorem Tab.mono {keys : List Key} {C C' : List (Int × List Int)} {M kd : Nat} {ps : List Int} {t : List (AV × Int)} (h : Tab keys C M ps kd t) (hc : ∀ p ∈ C, p ∈ C') : Tab keys C' M ps kd t :=
  ⟨fun p hp => let ⟨x, a, b, c, d⟩ := h.1 p hp; ⟨x, a, b, c, d.mono hc⟩, h.2⟩
theorem match_in {M : Nat} {keys : List Key} {ps : List Int} {k : Key} (hr : ∀ x ∈ ps, 0 ≤ x ∧ x < M) : ∀ x ∈ matchP keys ps k, 0 ≤ x ∧ x < M := fun x hx => hr x (List.mem_filter.mp hx).1
theorem var_in {M : Nat} {keys : List Key} {ps : List Int} (hr : ∀ x ∈ ps, 0 ≤ x ∧ x < M) : ∀ x ∈ varP keys ps, 0 ≤ x ∧ x < M := fun x hx => hr x (List.mem_filter.mp hx).1

theorem tab_facts {M : Nat} {keys : List Key} {all : List Int} {kd : Nat} {pend : List Int} (hr : ∀ x ∈ all, 0 ≤ x ∧ x < M) : ∀ (l : List Int) (s : List (AV × Int) × BSt), (∀ x ∈ l, x ∈ all) → LI M s.2.next (used s.2 pend) →
    (∀ p ∈ s.1, ∃ x ∈ all, (kat keys x).kd = kd ∧ p.1 = (kat keys x).snd ∧ Lbl s.2.chains M p.2 (matchP keys all (kat keys x))) →
    LI M (l.foldl (tabStep keys all kd) s).2.next (used (l.foldl (tabStep keys all kd) s).2 pend) ∧ Sub s.2 (l.foldl (tabStep keys all kd) s).2 ∧
    (∀ p ∈ (l.foldl (tabStep keys all kd) s).1, ∃ x ∈ all, (kat keys x).kd = kd ∧ p.1 = (kat keys x).snd ∧ Lbl (l.foldl (tabStep keys all kd) s).2.chains M p.2 (matchP keys all (kat keys x))) ∧
    (∀ p ∈ s.1, p ∈ (l.foldl (tabStep keys all kd) s).1) ∧ ∀ x ∈ l, (kat keys x).kd = kd → ∃ p ∈ (l.foldl (tabStep keys all kd) s).1, p.1 = (kat keys x).snd
  | [], s, _, h1, h2 => ⟨h1, fun p hp => hp, h2, fun p hp => hp, fun x hx => by simp at hx⟩
  | x :: l, s, ha, h1, h2 => by
    have q : LI M (tabStep keys all kd s x).2.next (used (tabStep keys all kd s x).2 pend) ∧ Sub s.2 (tabStep keys all kd s x).2 ∧ (∀ p ∈ (tabStep keys all kd s x).1, ∃ z ∈ all, (kat keys z).kd = kd ∧ p.1 = (kat keys z).snd ∧ Lbl (tabStep keys all kd s x).2.chains M p.2 (matchP keys all (kat keys z))) ∧
        (∀ p ∈ s.1, p ∈ (tabStep keys all kd s x).1) ∧ ((kat keys x).kd = kd → ∃ p ∈ (tabStep keys all kd s x).1, p.1 = (kat keys x).snd) := by
      by_cases hc : (kat keys x).kd = kd ∧ (s.1.any fun p => decide (p.1 = (kat keys x).snd)) = false
      · have ht : tabStep keys all kd s x = (s.1 ++ [((kat keys x).snd, (chainF s.2 (matchP keys all (kat keys x))).1)], (chainF s.2 (matchP keys all (kat keys x))).2) := by unfold tabStep; rw [if_pos hc]
        rw [ht]
        refine ⟨chainF_li h1, chainF_sub _ _, fun p hp => ?_, fun p hp => List.mem_append_left _ hp, fun _ => ⟨_, List.mem_append_right _ (List.mem_singleton.mpr rfl), rfl⟩⟩
        rw [List.mem_append] at hp
        rcases hp with hp | hp
        · obtain ⟨y, a, b, c, d⟩ := h2 p hp
          exact ⟨y, a, b, c, d.mono (chainF_sub _ _)⟩
        · rw [List.mem_singleton.mp hp]
          exact ⟨x, ha x List.mem_cons_self, hc.1, rfl, chainF_lbl _ (match_in hr)⟩
      · have ht : tabStep keys all kd s x = s := by unfold tabStep; rw [if_neg hc]
        rw [ht]
        refine ⟨h1, fun p hp => hp, h2, fun p hp => hp, fun hk => ?_⟩
        cases hany : s.1.any fun p => decide (p.1 = (kat keys x).snd) with
        | false => exact absurd ⟨hk, hany⟩ hc
        | true =>
          obtain ⟨p, hp, hpe⟩ := List.any_eq_true.mp hany
          exact ⟨p, hp, by simpa using hpe⟩
    obtain ⟨q1, q2, q3, q4, q5⟩ := q
    obtain ⟨i1, i2, i3, i4, i5⟩ := tab_facts hr l (tabStep keys all kd s x) (fun y hy => ha y (List.mem_cons_of_mem _ hy)) q1 q3
    refine ⟨i1, fun p hp => i2 p (q2 p hp), i3, fun p hp => i4 p (q4 p hp), fun y hy hk => ?_⟩
    rcases List.mem_cons.mp hy with rfl | hy
    · obtain ⟨p, hp, he⟩ := q5 hk
      exact ⟨p, i4 p hp, he⟩
    · exact i5 y hy hk
theorem tableF_facts {M : Nat} {keys : List Key} {st : BSt} {ps pend : List Int} {kd : Nat} (hr : ∀ x ∈ ps, 0 ≤ x ∧ x < M) (h : LI M st.next (used st pend)) :
    LI M (tableF keys st ps kd).2.next (used (tableF keys st ps kd).2 pend) ∧ Sub st (tableF keys st ps kd).2 ∧ Tab keys (tableF keys st ps kd).2.chains M ps kd (tableF keys st ps kd).1 := by
  obtain ⟨a, b, c, _, e⟩ := tab_facts (M := M) (keys := keys) (all := ps) (kd := kd) (pend := pend) hr ps ([], st) (fun x hx => hx) h (fun p hp => by simp at hp)
  exact ⟨a, b, c, e⟩

noncomputable def pendIf (b : Bool) (l : Int) : List Int := if b then [l] else []
theorem freshIf_li {M : Int} {b : Bool} {dl : Int} {st : BSt} {pend : List Int} (h : LI M st.next (used st pend)) : LI M (freshIf b dl st).2.next (used (freshIf b dl st).2 (pend ++ pendIf b (freshIf b dl st).1)) := by
  cases b with
  | false => simpa [freshIf, pendIf] using h
  | true =>
    refine h.fresh.perm ?_
    show (used st (pend ++ [st.next])).Perm _
    unfold used
    rw [← List.append_assoc]
    exact List.perm_append_comm.trans (List.Perm.refl _)
noncomputable def segOf (b : Bool) (l : Int) (r : Row) : List Row := if b then [.lab l, r] else []
theorem rowsIf_eq (b : Bool) (l : Int) (r : Row) (st : BSt) : rowsIf b [.lab l, r] st = { st with rows := st.rows ++ segOf b l r } := by cases b <;> simp [rowsIf, segOf]
theorem labs_seg {b : Bool} {l : Int} {r : Row} (hr : ∀ l', r ≠ .lab l') : labsOf (segOf b l r) = pendIf b l := by
  cases b with
  | false => rfl
  | true => cases r <;> first | rfl | exact absurd rfl (hr _)

/-- what a switch puts down -/
structure Sw (keys : List Key) (C : List (Int × List Int)) (M : Nat) (ps : List Int) (seg : List Row) : Prop where
  ex : ∃ (lv lc ll ls dl : Int) (cs ss : List (AV × Int)), seg = .sot lv lc ll ls :: (segOf (decide (cs.length > 0)) lc (.soc cs dl) ++ segOf (decide (ss.length > 0)) ls (.sos ss dl)) ∧ Lbl C M lv ps ∧ Lbl C M ll (matchP keys ps .list) ∧ Lbl C M dl (varP keys ps) ∧
    Tab keys C M ps 51 cs ∧ Tab keys C M ps 53 ss ∧ (if cs.length > 0 then (M : Int) ≤ lc else lc = dl) ∧ (if ss.length > 0 then (M : Int) ≤ ls else ls = dl)
theorem Sw.mono {keys : List Key} {C C' : List (Int × List Int)} {M : Nat} {ps : List Int} {seg : List Row} (h : Sw keys C M ps seg) (hc : ∀ p ∈ C, p ∈ C') : Sw keys C' M ps seg := by
  obtain ⟨lv, lc, ll, ls, dl, cs, ss, h1, h2, h3, h4, h5, h6, h7, h8⟩ := h.ex
  exact ⟨lv, lc, ll, ls, dl, cs, ss, h1, h2.mono hc, h3.mono hc, h4.mono hc, h5.mono hc, h6.mono hc, h7, h8⟩

theorem switchF_facts {M : Nat} {keys : List Key} {st : BSt} {ps pend : List Int} (hr : ∀ x ∈ ps, 0 ≤ x ∧ x < M) (h : LI M st.next (used st pend)) :
    LI M (switchF keys st ps).next (used (switchF keys st ps) pend) ∧ Sub st (switchF keys st ps) ∧ ∃ seg, (switchF keys st ps).rows = st.rows ++ seg ∧ Sw keys (switchF keys st ps).chains M ps seg := by
  obtain ⟨r1, r2, r3, r4, r5, r6, r7, e1, e2, e3, e4, e5, e6, e7, e⟩ := switchF_parts keys st ps
  have a1 : LI M r1.2.next (used r1.2 pend) ∧ Sub st r1.2 ∧ Lbl r1.2.chains M r1.1 (varP keys ps) := e1 ▸ ⟨chainF_li h, chainF_sub _ _, chainF_lbl _ (var_in hr)⟩
  have a2 : LI M r2.2.next (used r2.2 pend) ∧ Sub r1.2 r2.2 ∧ Tab keys r2.2.chains M ps 51 r2.1 := e2 ▸ tableF_facts hr a1.1
  have a3 : LI M r3.2.next (used r3.2 pend) ∧ Sub r2.2 r3.2 ∧ Tab keys r3.2.chains M ps 53 r3.1 := e3 ▸ tableF_facts hr a2.1
  have a4 : LI M r4.2.next (used r4.2 (pend ++ pendIf (decide (r2.1.length > 0)) r4.1)) := e4 ▸ freshIf_li a3.1
  have k4 : r4.2.chains = r3.2.chains ∧ r4.2.rows = r3.2.rows := e4 ▸ freshIf_same (decide (r2.1.length > 0)) r1.1 r3.2
  have v4 : if r2.1.length > 0 then r4.1 = r3.2.next else r4.1 = r1.1 := by
    rw [e4]; unfold freshIf
    by_cases hh : r2.1.length > 0
    · rw [if_pos hh, if_pos (decide_eq_true hh)]
    · rw [if_neg hh, if_neg (by simpa using hh)]
  have a5 : LI M r5.2.next (used r5.2 ((pend ++ pendIf (decide (r2.1.length > 0)) r4.1) ++ pendIf (decide (r3.1.length > 0)) r5.1)) := e5 ▸ freshIf_li a4
  have k5 : r5.2.chains = r4.2.chains ∧ r5.2.rows = r4.2.rows := e5 ▸ freshIf_same (decide (r3.1.length > 0)) r1.1 r4.2
  have v5 : if r3.1.length > 0 then r5.1 = r4.2.next else r5.1 = r1.1 := by
    rw [e5]; unfold freshIf
    by_cases hh : r3.1.length > 0
    · rw [if_pos hh, if_pos (decide_eq_true hh)]
    · rw [if_neg hh, if_neg (by simpa using hh)]
  have a6 : LI M r6.2.next (used r6.2 ((pend ++ pendIf (decide (r2.1.length > 0)) r4.1) ++ pendIf (decide (r3.1.length > 0)) r5.1)) ∧ Sub r5.2 r6.2 ∧ Lbl r6.2.chains M r6.1 (matchP keys ps .list) := e6 ▸ ⟨chainF_li a5, chainF_sub _ _, chainF_lbl _ (match_in hr)⟩
  have a7 : LI M r7.2.next (used r7.2 ((pend ++ pendIf (decide (r2.1.length > 0)) r4.1) ++ pendIf (decide (r3.1.length > 0)) r5.1)) ∧ Sub r6.2 r7.2 ∧ Lbl r7.2.chains M r7.1 ps := e7 ▸ ⟨chainF_li a6.1, chainF_sub _ _, chainF_lbl _ hr⟩
  have w : r7.2.rows = st.rows := by
    have w1 : r1.2.rows = st.rows := e1 ▸ chainF_rows st (varP keys ps)
    have w2 : r2.2.rows = r1.2.rows := e2 ▸ (tableF_inv keys r1.2 ps (kd := 51) (.inl rfl)).2.2
    have w3 : r3.2.rows = r2.2.rows := e3 ▸ (tableF_inv keys r2.2 ps (kd := 53) (.inr rfl)).2.2
    have w6 : r6.2.rows = r5.2.rows := e6 ▸ chainF_rows r5.2 (matchP keys ps .list)
    have w7 : r7.2.rows = r6.2.rows := e7 ▸ chainF_rows r6.2 ps
    rw [w7, w6, k5.2, k4.2, w3, w2, w1]
  clear e1 e2 e3 e4 e5 e6 e7
  rw [e, rowsIf_eq, rowsIf_eq]
  dsimp only
  rw [w]
  have s37 : ∀ p ∈ r3.2.chains, p ∈ r7.2.chains := fun p hp => a7.2.1 p (a6.2.1 p (by rw [k5.1, k4.1]; exact hp))
  have n34 : (M : Int) ≤ r3.2.next := a3.1.nx
  have n45 : (M : Int) ≤ r4.2.next := a4.nx
  refine ⟨a7.1.perm ?_, fun p hp => s37 p (a3.2.1 p (a2.2.1 p (a1.2.1 p hp))), .sot r7.1 r4.1 r6.1 r5.1 :: (segOf (decide (r2.1.length > 0)) r4.1 (.soc r2.1 r1.1) ++ segOf (decide (r3.1.length > 0)) r5.1 (.sos r3.1 r1.1)), by simp, r7.1, r4.1, r6.1, r5.1, r1.1, r2.1, r3.1, rfl, a7.2.2, a6.2.2.mono a7.2.1, a1.2.2.mono fun p hp => s37 p (a3.2.1 p (a2.2.1 p hp)), a2.2.2.mono fun p hp => s37 p (a3.2.1 p hp), a3.2.2.mono s37, ?_, ?_⟩
  · unfold used
    dsimp only
    rw [labsOf_app, labsOf_app, labsOf_app, labs_seg (by intro l' z; cases z), labs_seg (by intro l' z; cases z), w]
    show (labsOf st.rows ++ [] ++ pendIf _ _ ++ pendIf _ _ ++ _ ++ pend).Perm _
    rw [List.append_nil]
    generalize labsOf st.rows = A
    generalize pendIf (decide (r2.1.length > 0)) r4.1 = X
    generalize pendIf (decide (r3.1.length > 0)) r5.1 = Y
    generalize r7.2.chains.map (·.1) = B
    rw [List.perm_iff_count]
    intro a
    simp only [List.count_append]
    omega
  · by_cases hh : r2.1.length > 0
    · rw [if_pos hh] at v4 ⊢; rw [v4]; exact n34
    · rw [if_neg hh] at v4 ⊢; exact v4
  · by_cases hh : r3.1.length > 0
    · rw [if_pos hh] at v5 ⊢; rw [v5]; exact n45
    · rw [if_neg hh] at v5 ⊢; exact v5
end Mini
end

noncomputable section -- PC3
set_option autoImplicit false
set_option linter.unusedVariables false
set_option linter.unusedSimpArgs false
namespace Mini
theorem key_ext {a b : Key} (h1 : a.kd = b.kd) (h2 : a.snd = b.snd) : a = b := by
  cases a <;> cases b <;> simp [Key.kd, Key.snd] at h1 h2 ⊢ <;> exact h2
theorem fit_of {a k : Key} (hk : k ≠ .var) (h : a ≠ k) : fit a k = decide (a = .var) := by simp [fit, hk, h]
theorem kd_nv {k : Key} (hk : k.kd = 51 ∨ k.kd = 53) : k ≠ .var := by rintro rfl; simp [Key.kd] at hk
theorem look_ok {keys : List Key} {C : List (Int × List Int)} {M kd : Nat} {ps : List Int} {t : List (AV × Int)} {dl : Int} {k : Key} (h : Tab keys C M ps kd t) (hk : k.kd = kd) (hkd : kd = 51 ∨ kd = 53) (hd : Lbl C M dl (varP keys ps)) : Lbl C M (look t dl k) (matchP keys ps k) := by
  unfold look
  cases hf : t.find? fun p => decide (p.1 = k.snd) with
  | some p =>
    have h1 := List.find?_some hf
    have h2 := List.mem_of_find?_eq_some hf
    have h3 : p.1 = k.snd := by simpa using h1
    obtain ⟨x, _, a, b, c⟩ := h.1 p h2
    have : kat keys x = k := key_ext (a.trans hk.symm) (b.symm.trans h3)
    rw [this] at c
    exact c
  | none =>
    have hno : ∀ x ∈ ps, kat keys x ≠ k := fun x hx e => by
      obtain ⟨p, hp, hpe⟩ := h.2 x hx (e ▸ hk)
      have := List.find?_eq_none.mp hf p hp
      rw [e] at hpe
      simp [hpe] at this
    have hm : matchP keys ps k = varP keys ps := by
      unfold matchP varP
      exact List.filter_congr fun x hx => fit_of (kd_nv (hk ▸ hkd)) (hno x hx)
    rw [hm]; exact hd
theorem tab_ok' {keys : List Key} {C : List (Int × List Int)} {M kd : Nat} {ps : List Int} {t : List (AV × Int)} (h : Tab keys C M ps kd t) : ∀ q ∈ t, eqOk theP 4 q.1 = true := fun q hq => by
  obtain ⟨x, _, _, b, _⟩ := h.1 q hq
  rw [b]; exact snd_ok

theorem d_switch {st : BSt} {M : Nat} {keys : List Key} {ps : List Int} {seg : List Row} {p : Nat} (k : Key) (hs : Sw keys st.chains M ps seg) (hr : ∀ x ∈ ps, 0 ≤ x ∧ x < M) (hlo : ∀ p ∈ st.chains, (M : Int) ≤ p.1) (ha : At (finishRows st M) p seg) :
    ∃ n, n ≤ 2 * ps.length + 5 ∧ D (finishRows st M) M k n p (matchP keys ps k) := by
  obtain ⟨lv, lc, ll, ls, dl, cs, ss, rfl, h2, h3, h4, h5, h6, h7, h8⟩ := hs.ex
  obtain ⟨a1, a2⟩ := ha.cons
  obtain ⟨a3, a4⟩ := a2.app
  have hml : (matchP keys ps k).length ≤ ps.length := len_filter _ _
  have tail : ∀ t, tgt k lv lc ll ls = t → (∃ n, n ≤ 2 * ps.length + 4 ∧ DL (finishRows st M) M k n t (matchP keys ps k)) → ∃ n, n ≤ 2 * ps.length + 5 ∧ D (finishRows st M) M k n p (matchP keys ps k) := by
    rintro t rfl ⟨n, hn, hd⟩
    exact ⟨n + 1, by omega, D.sot a1 hd⟩
  cases k with
  | var =>
    refine tail lv rfl ?_
    have : matchP keys ps .var = ps := by unfold matchP; rw [List.filter_eq_self]; intro x _; simp [fit]
    rw [this]
    obtain ⟨n, hn, hd⟩ := dl_lbl (k := .var) h2 hr hlo
    exact ⟨n, by omega, hd⟩
  | list =>
    refine tail ll rfl ?_
    obtain ⟨n, hn, hd⟩ := dl_lbl (k := .list) h3 (match_in hr) hlo
    exact ⟨n, by omega, hd⟩
  | struct i =>
    refine tail ls rfl ?_
    obtain ⟨n, hn, hd⟩ := dl_lbl (k := .struct i) (look_ok (k := .struct i) h6 rfl (.inr rfl) h4) (match_in hr) hlo
    by_cases hh : ss.length > 0
    · rw [if_pos hh] at h8
      have a5 : At (finishRows st M) (p + 1 + (segOf (decide (cs.length > 0)) lc (Row.soc cs dl)).length) [.lab ls, .sos ss dl] := by
        have h := a4
        rw [show segOf (decide (ss.length > 0)) ls (Row.sos ss dl) = [.lab ls, .sos ss dl] by rw [decide_eq_true hh]; rfl] at h
        exact h
      obtain ⟨b1, b2⟩ := a5.cons
      exact ⟨n + 1 + 1, by omega, DL.go (by omega) b1 (D.lab b1 (by omega) (D.sos b2.cons.1 (.inr rfl) (tab_ok' h6) hd))⟩
    · rw [if_neg hh] at h8
      have : ss = [] := List.length_eq_zero_iff.mp (by omega)
      subst this
      rw [h8]
      exact ⟨n, by omega, hd⟩
  | const t i =>
    refine tail lc rfl ?_
    obtain ⟨n, hn, hd⟩ := dl_lbl (k := .const t i) (look_ok (k := .const t i) h5 rfl (.inl rfl) h4) (match_in hr) hlo
    by_cases hh : cs.length > 0
    · rw [if_pos hh] at h7
      have a5 : At (finishRows st M) (p + 1) [.lab lc, .soc cs dl] := by
        have h := a3
        rw [show segOf (decide (cs.length > 0)) lc (Row.soc cs dl) = [.lab lc, .soc cs dl] by rw [decide_eq_true hh]; rfl] at h
        exact h
      obtain ⟨b1, b2⟩ := a5.cons
      exact ⟨n + 1 + 1, by omega, DL.go (by omega) b1 (D.lab b1 (by omega) (D.soc b2.cons.1 (.inl rfl) (tab_ok' h5) hd))⟩
    · rw [if_neg hh] at h7
      have : cs = [] := List.length_eq_zero_iff.mp (by omega)
      subst this
      rw [h7]
      exact ⟨n, by omega, hd⟩

theorem uniq_finish {st : BSt} {M : Nat} (h : LI M st.next (used st [])) : Uniq (finishRows st M) := by
  refine uniq_of ?_
  rw [labs_finish]
  have hu : used st [] = labsOf st.rows ++ st.chains.map (·.1) := by unfold used; rw [List.append_nil]
  rw [hu] at h
  refine List.nodup_append.mpr ⟨h.nd, ?_, fun a ha b hb e => ?_⟩
  · unfold rangeI
    exact List.Pairwise.map _ (fun a b hab => by omega) List.nodup_range
  · subst e
    have h1 := (h.bd a ha).1
    obtain ⟨i, hi, rfl⟩ := List.mem_map.mp hb
    have := List.mem_range.mp hi
    omega
theorem lo_of {st : BSt} {M : Nat} (h : LI M st.next (used st [])) : ∀ p ∈ st.chains, (M : Int) ≤ p.1 := fun p hp => (h.bd p.1 (by
  unfold used
  exact List.mem_append_left _ (List.mem_append_right _ (List.mem_map.mpr ⟨p, hp, rfl⟩)))).1
theorem li0 (ar : Int) (M : Nat) : LI M (⟨ar, [], [], M⟩ : BSt).next (used ⟨ar, [], [], M⟩ []) := ⟨by simp [used, labsOf], fun l hl => by simp [used, labsOf] at hl, Int.le_refl _⟩
theorem range_in (M : Nat) : ∀ x ∈ rangeI M, 0 ≤ x ∧ x < (M : Int) := fun x hx => by
  obtain ⟨i, hi, rfl⟩ := List.mem_map.mp hx
  have := List.mem_range.mp hi
  omega

theorem d_chainBlock (ar : Int) {M : Nat} (h2 : 2 ≤ M) (k : Key) : ∃ n, n ≤ 10 * M + 10 ∧ D (chainBlock ar M) M k n 0 (rangeI M) := by
  have ha : At (chainBlock ar M) 0 (chainRows ar (rangeI M)) := At.of [] (chainRows ar (rangeI M)) _ |> fun h => by
    unfold chainBlock finishRows
    simpa [List.append_assoc] using h
  obtain ⟨n, hn, hd⟩ := d_chain (by rw [rangeI_len]; exact h2) (outs_codes ⟨ar, chainRows ar (rangeI M), [], M⟩ M (k := k) (range_in M)) ha
  rw [flat_ones] at hd
  rw [rangeI_len] at hn
  exact ⟨n, by omega, hd⟩
theorem u_chainBlock (ar : Int) (M : Nat) : Uniq (chainBlock ar M) := uniq_finish (st := ⟨ar, chainRows ar (rangeI M), [], M⟩) ⟨by simp [used, labs_chainRows], fun l hl => by simp [used, labs_chainRows] at hl, Int.le_refl _⟩
theorem d_switchBlock (ar : Int) {keys : List Key} {M : Nat} {ps : List Int} (hr : ∀ x ∈ ps, 0 ≤ x ∧ x < (M : Int)) (k : Key) :
    (∃ n, n ≤ 2 * ps.length + 5 ∧ D (finishRows (switchF keys ⟨ar, [], [], M⟩ ps) M) M k n 0 (matchP keys ps k)) ∧ Uniq (finishRows (switchF keys ⟨ar, [], [], M⟩ ps) M) := by
  obtain ⟨h1, _, seg, h3, h4⟩ := switchF_facts (keys := keys) (pend := []) hr (li0 ar M)
  refine ⟨d_switch k h4 hr (lo_of h1) ?_, uniq_finish h1⟩
  have := At.of [] seg ((switchF keys ⟨ar, [], [], M⟩ ps).chains.flatMap (chainBlk (switchF keys ⟨ar, [], [], M⟩ ps).ar) ++ (List.range M).flatMap codeBlk)
  unfold finishRows
  rw [h3]
  simpa [List.append_assoc] using this
end Mini
end

noncomputable section -- PC4
set_option autoImplicit false
set_option linter.unusedVariables false
set_option linter.unusedSimpArgs false
namespace Mini
noncomputable def pl : List (List Int × Int) → List Int
  | [] => []
  | p :: l => (if p.1.length > 1 then [p.2] else []) ++ pl l
theorem lab_facts {M : Int} : ∀ (G : List (List Int)) (s : List Int × BSt) (pend : List Int), (∀ g ∈ G, g ≠ []) → LI M s.2.next (used s.2 pend) →
    ∃ ls, (G.foldl labelStep s).1 = s.1 ++ ls ∧ ls.length = G.length ∧ LI M (G.foldl labelStep s).2.next (used (G.foldl labelStep s).2 (pend ++ pl (G.zip ls))) ∧ ∀ p ∈ G.zip ls, p.1.length = 1 → p.1 = [p.2]
  | [], s, pend, _, h => ⟨[], by simp, rfl, by simpa [pl] using h, fun p hp => by simp at hp⟩
  | g :: G, s, pend, hne, h => by
    have hg := hne g List.mem_cons_self
    by_cases h1 : g.length = 1
    · have hs : labelStep s g = (s.1 ++ [g.headD 0], s.2) := by unfold labelStep; rw [if_pos h1]
      rw [List.foldl_cons, hs]
      obtain ⟨ls, a, b, c, e⟩ := lab_facts G (s.1 ++ [g.headD 0], s.2) pend (fun x hx => hne x (List.mem_cons_of_mem _ hx)) h
      refine ⟨g.headD 0 :: ls, by rw [a]; simp, by simp [b], ?_, fun p hp h1' => ?_⟩
      · rw [List.zip_cons_cons]
        show LI M _ (used _ (pend ++ ((if g.length > 1 then [g.headD 0] else []) ++ pl (G.zip ls))))
        rw [if_neg (by omega)]; exact c
      · rw [List.zip_cons_cons] at hp
        rcases List.mem_cons.mp hp with rfl | hp
        · obtain ⟨x, rfl⟩ := List.length_eq_one_iff.mp h1
          rfl
        · exact e p hp h1'
    · have h2 : g.length > 1 := by have := List.length_pos_iff.mpr hg; omega
      have hs : labelStep s g = (s.1 ++ [s.2.next], { s.2 with next := s.2.next + 1 }) := by unfold labelStep; rw [if_neg h1]
      rw [List.foldl_cons, hs]
      have hfr : LI M (s.2.next + 1) (used { s.2 with next := s.2.next + 1 } (pend ++ [s.2.next])) := h.fresh.perm (by
        show (used s.2 (pend ++ [s.2.next])).Perm _
        unfold used
        rw [← List.append_assoc]
        exact List.perm_append_comm.trans (List.Perm.refl _))
      obtain ⟨ls, a, b, c, e⟩ := lab_facts G (s.1 ++ [s.2.next], { s.2 with next := s.2.next + 1 }) (pend ++ [s.2.next]) (fun x hx => hne x (List.mem_cons_of_mem _ hx)) hfr
      refine ⟨s.2.next :: ls, by rw [a]; simp, by simp [b], ?_, fun p hp h1' => ?_⟩
      · rw [List.zip_cons_cons]
        show LI M _ (used _ (pend ++ ((if g.length > 1 then [s.2.next] else []) ++ pl (G.zip ls))))
        rw [if_pos h2, ← List.append_assoc]; exact c
      · rw [List.zip_cons_cons] at hp
        rcases List.mem_cons.mp hp with rfl | hp
        · exact absurd h1' h1
        · exact e p hp h1'

theorem grp_facts {M : Nat} {keys : List Key} : ∀ (l : List (List Int × Int)) (st : BSt), (∀ p ∈ l, ∀ x ∈ p.1, 0 ≤ x ∧ x < (M : Int)) → LI M st.next (used st (pl l)) →
    LI M (l.foldl (grpRow keys) st).next (used (l.foldl (grpRow keys) st) []) ∧ Sub st (l.foldl (grpRow keys) st) ∧ ∃ ext, (l.foldl (grpRow keys) st).rows = st.rows ++ ext ∧
      ∀ p ∈ l, p.1.length > 1 → (M : Int) ≤ p.2 ∧ ∃ a seg c, ext = a ++ (.lab p.2 :: seg) ++ c ∧ Sw keys (l.foldl (grpRow keys) st).chains M p.1 seg
  | [], st, _, h => ⟨h, fun p hp => hp, [], by simp, fun p hp => by simp at hp⟩
  | p :: l, st, hr, h => by
    have hr' : ∀ q ∈ l, ∀ x ∈ q.1, 0 ≤ x ∧ x < (M : Int) := fun q hq => hr q (List.mem_cons_of_mem _ hq)
    by_cases h1 : p.1.length > 1
    · have hs : grpRow keys st p = switchF keys { st with rows := st.rows ++ [.lab p.2] } p.1 := by unfold grpRow; rw [if_pos h1]
      rw [List.foldl_cons, hs]
      have hpl : pl (p :: l) = p.2 :: pl l := by show (if p.1.length > 1 then [p.2] else []) ++ pl l = _; rw [if_pos h1]; rfl
      rw [hpl] at h
      have hM := (h.bd p.2 (by unfold used; simp)).1
      have h' : LI M ({ st with rows := st.rows ++ [.lab p.2] } : BSt).next (used { st with rows := st.rows ++ [.lab p.2] } (pl l)) := h.perm (by
        unfold used
        dsimp only
        rw [labsOf_app]
        show (labsOf st.rows ++ [p.2] ++ _ ++ pl l).Perm _
        rw [List.perm_iff_count]
        intro a
        simp only [List.count_append, List.count_cons, List.count_nil]
        omega)
      obtain ⟨f1, f2, seg, f3, f4⟩ := switchF_facts (keys := keys) (pend := pl l) (hr p List.mem_cons_self) h'
      obtain ⟨g1, g2, ext, g3, g4⟩ := grp_facts l (switchF keys { st with rows := st.rows ++ [.lab p.2] } p.1) hr' f1
      refine ⟨g1, fun q hq => g2 q (f2 q hq), [.lab p.2] ++ seg ++ ext, by rw [g3, f3]; simp, fun q hq hq1 => ?_⟩
      rcases List.mem_cons.mp hq with rfl | hq
      · exact ⟨hM, [], seg, ext, by simp, f4.mono g2⟩
      · obtain ⟨e1, a, sg, c, e2, e3⟩ := g4 q hq hq1
        exact ⟨e1, [.lab p.2] ++ seg ++ a, sg, c, by rw [e2]; simp, e3⟩
    · have hs : grpRow keys st p = st := by unfold grpRow; rw [if_neg h1]
      rw [List.foldl_cons, hs]
      have hpl : pl (p :: l) = pl l := by show (if p.1.length > 1 then [p.2] else []) ++ pl l = _; rw [if_neg h1]; rfl
      rw [hpl] at h
      obtain ⟨g1, g2, ext, g3, g4⟩ := grp_facts l st hr' h
      refine ⟨g1, g2, ext, g3, fun q hq hq1 => ?_⟩
      rcases List.mem_cons.mp hq with rfl | hq
      · exact absurd hq1 h1
      · exact g4 q hq hq1

noncomputable def dueG (keys : List Key) (G : List (List Int)) (k : Key) : List Int := (G.map fun g => if g.length = 1 then g else matchP keys g k).flatten
theorem outs_groups {blk : List Row} {m : Int} {K : Nat} {keys : List Key} (k : Key) : ∀ {G : List (List Int)} {ls : List Int}, ls.length = G.length → (∀ p ∈ G.zip ls, ∃ n, n ≤ K ∧ DL blk m k n p.2 (if p.1.length = 1 then p.1 else matchP keys p.1 k)) → Outs blk m k K ls (G.map fun g => if g.length = 1 then g else matchP keys g k)
  | [], [], _, _ => .nil
  | g :: G, l :: ls, hl, h => .cons (h (g, l) (by simp)) (outs_groups k (by simpa using hl) fun p hp => h p (by rw [List.zip_cons_cons]; exact List.mem_cons_of_mem _ hp))
  | [], _ :: _, hl, _ => by simp at hl
  | _ :: _, [], hl, _ => by simp at hl

theorem d_groups (ar : Int) {keys : List Key} {M : Nat} {G : List (List Int)} (h2 : 2 ≤ G.length) (hne : ∀ g ∈ G, g ≠ []) (hr : ∀ g ∈ G, ∀ x ∈ g, 0 ≤ x ∧ x < (M : Int)) (hgl : ∀ g ∈ G, g.length ≤ M) (k : Key) :
    (∃ n, n ≤ G.length * (2 * M + 10) ∧ D (finishRows ((G.zip (labelsF G ⟨ar, [], [], M⟩).1).foldl (grpRow keys) { (labelsF G ⟨ar, [], [], M⟩).2 with rows := chainRows ar (labelsF G ⟨ar, [], [], M⟩).1 }) M) M k n 0 (dueG keys G k)) ∧
      Uniq (finishRows ((G.zip (labelsF G ⟨ar, [], [], M⟩).1).foldl (grpRow keys) { (labelsF G ⟨ar, [], [], M⟩).2 with rows := chainRows ar (labelsF G ⟨ar, [], [], M⟩).1 }) M) := by
  obtain ⟨ls, l1, l2, l3, l4⟩ := lab_facts (M := M) G ([], ⟨ar, [], [], M⟩) [] hne (li0 ar M)
  have inv := labels_inv G ([], ⟨ar, [], [], M⟩)
  have hlf : labelsF G ⟨ar, [], [], M⟩ = G.foldl labelStep ([], ⟨ar, [], [], M⟩) := rfl
  rw [hlf]
  generalize G.foldl labelStep ([], ⟨ar, [], [], M⟩) = s at l1 l3 inv ⊢
  obtain ⟨s1, s⟩ := s
  simp only [List.nil_append] at l1 l3
  subst l1
  dsimp only at inv ⊢
  obtain ⟨_, v2, v3, v4⟩ := inv
  have hli : LI M ({ s with rows := chainRows ar s1 } : BSt).next (used { s with rows := chainRows ar s1 } (pl (G.zip s1))) := by
    have : used { s with rows := chainRows ar s1 } (pl (G.zip s1)) = used s (pl (G.zip s1)) := by unfold used; dsimp only; rw [labs_chainRows, v2]; rfl
    rw [this]; exact l3
  obtain ⟨g1, g2, ext, g3, g4⟩ := grp_facts (M := M) (keys := keys) (G.zip s1) { s with rows := chainRows ar s1 } (fun p hp => hr _ (List.of_mem_zip hp).1) hli
  generalize (G.zip s1).foldl (grpRow keys) { s with rows := chainRows ar s1 } = st' at g1 g2 g3 g4 ⊢
  have hlo := lo_of g1
  refine ⟨?_, uniq_finish g1⟩
  have houts : Outs (finishRows st' M) M k (2 * M + 6) s1 (G.map fun g => if g.length = 1 then g else matchP keys g k) := outs_groups k l2 fun p hp => by
    have hmem := (List.of_mem_zip hp).1
    by_cases h1 : p.1.length = 1
    · rw [if_pos h1]
      have hp1 := l4 p hp h1
      have hx := hr _ hmem p.2 (by rw [hp1]; simp)
      rw [hp1]
      exact ⟨1, by omega, dl_code st' M hx.1 hx.2⟩
    · rw [if_neg h1]
      have hlen : p.1.length > 1 := by have := List.length_pos_iff.mpr (hne _ hmem); omega
      obtain ⟨hM, a, seg, c, he, hsw⟩ := g4 p hp hlen
      have hat : At (finishRows st' M) (chainRows ar s1 ++ a).length (.lab p.2 :: seg) := by
        have := At.of (chainRows ar s1 ++ a) (.lab p.2 :: seg) (c ++ (st'.chains.flatMap (chainBlk st'.ar) ++ (List.range M).flatMap codeBlk))
        unfold finishRows
        rw [g3, he]
        simpa [List.append_assoc] using this
      obtain ⟨n, hn, hd⟩ := d_switch k hsw (hr _ hmem) hlo hat.cons.2
      have := hgl _ hmem
      exact ⟨n + 1, by omega, DL.go (by omega) hat.cons.1 (D.lab hat.cons.1 (by omega) hd)⟩
  have hat0 : At (finishRows st' M) 0 (chainRows ar s1) := by
    have := At.of [] (chainRows ar s1) (ext ++ (st'.chains.flatMap (chainBlk st'.ar) ++ (List.range M).flatMap codeBlk))
    unfold finishRows
    rw [g3]
    simpa [List.append_assoc] using this
  obtain ⟨n, hn, hd⟩ := d_chain (by omega) houts hat0
  refine ⟨n, Nat.le_trans hn ?_, hd⟩
  rw [l2]
  exact Nat.mul_le_mul_left _ (by omega)
end Mini
end

noncomputable section -- PC5
set_option autoImplicit false
set_option linter.unusedVariables false
set_option linter.unusedSimpArgs false
namespace Mini
theorem fin_len {st : BSt} {M m : Nat} (h : ChOk M st) : (finishRows st m).length ≤ st.rows.length + st.chains.length * (M + 1) + 2 * m := by
  have h1 := flatMap_len (f := chainBlk st.ar) (K := M + 1) (l := st.chains) fun p hp => by
    have := h p hp
    simp [chainBlk, chainRows_len]; exact this.2
  have h2 := flatMap_len (f := codeBlk) (K := 2) (l := List.range m) fun p hp => by simp [codeBlk]
  rw [List.length_range] at h2
  unfold finishRows
  rw [List.length_append, List.length_append]
  omega
theorem kat_var {keys : List Key} (h : allVar keys = true) (x : Int) : kat keys x = .var := by
  unfold kat
  by_cases hx : x.toNat < keys.length
  · have := List.all_eq_true.mp h keys[x.toNat] (List.getElem_mem hx)
    simpa [List.getD, hx] using this
  · simp [List.getD, hx]
theorem match_all {keys : List Key} (h : allVar keys = true) (ps : List Int) (k : Key) : matchP keys ps k = ps := by
  unfold matchP
  rw [List.filter_eq_self]
  intro x _
  simp [fit, kat_var h]
theorem due_flat {keys : List Key} (h : allVar keys = true) (k : Key) : dueG keys (groupsF keys) k = rangeI keys.length := by
  rw [← groups_flat]
  unfold dueG
  congr 1
  have : ∀ g ∈ groupsF keys, (if g.length = 1 then g else matchP keys g k) = g := fun g _ => by
    split
    · rfl
    · exact match_all h g k
  rw [List.map_congr_left this, List.map_id']

theorem c_index {ar : Int} {keys : List Key} (h2 : 2 ≤ keys.length) (hn : keys.length < 20) (har : ar = 0 → allVar keys = true) (k : Key) :
    (∃ n, n ≤ 5000 ∧ D (indexBlock ar keys) keys.length k n 0 (matchP keys (rangeI keys.length) k)) ∧ Uniq (indexBlock ar keys) ∧ (indexBlock ar keys).length < big := by
  unfold indexBlock
  by_cases hf : (decide (ar = 0) || allVar keys) = true
  · rw [if_pos hf]
    have hv : allVar keys = true := by
      simp at hf
      rcases hf with h | h
      · exact har h
      · exact h
    obtain ⟨n, hn', hd⟩ := d_chainBlock ar h2 k
    refine ⟨⟨n, by omega, by rw [match_all hv]; exact hd⟩, u_chainBlock ar _, ?_⟩
    have := fin_len (M := 1) (m := keys.length) (st := ⟨ar, chainRows ar (rangeI keys.length), [], keys.length⟩) (fun p hp => by simp at hp)
    simp [chainRows_len, rangeI_len] at this
    unfold chainBlock big; omega
  · rw [if_neg hf]
    obtain ⟨⟨n, hn', hd⟩, hu⟩ := d_switchBlock ar (keys := keys) (range_in keys.length) k
    rw [rangeI_len] at hn'
    refine ⟨⟨n, by omega, hd⟩, hu, ?_⟩
    obtain ⟨k1, k2, k3⟩ := switchF_ok (M := keys.length) (keys := keys) (st := ⟨ar, [], [], keys.length⟩) (ps := rangeI keys.length) (fun p hp => by simp at hp) (by rw [rangeI_len]; exact Nat.le_refl _)
    have := fin_len (m := keys.length) k1
    have hm : (switchF keys ⟨ar, [], [], keys.length⟩ (rangeI keys.length)).chains.length * (keys.length + 1) ≤ 100 * 100 := Nat.mul_le_mul (by rw [rangeI_len] at k2; simp at k2; omega) (by omega)
    simp at k3
    unfold big; omega

theorem c_group {ar : Int} {keys : List Key} (h2 : 2 ≤ keys.length) (hn : keys.length < 20) (har : ar = 0 → allVar keys = true) (k : Key) :
    (∃ n, n ≤ 5000 ∧ D (groupBlock ar keys) keys.length k n 0 (dueG keys (groupsF keys) k)) ∧ Uniq (groupBlock ar keys) ∧ (groupBlock ar keys).length < big := by
  unfold groupBlock
  by_cases hf : (decide (ar = 0) || allVar keys) = true
  · rw [if_pos hf]
    have hv : allVar keys = true := by
      simp at hf
      rcases hf with h | h
      · exact har h
      · exact h
    obtain ⟨n, hn', hd⟩ := d_chainBlock ar h2 k
    refine ⟨⟨n, by omega, by rw [due_flat hv]; exact hd⟩, u_chainBlock ar _, ?_⟩
    have := fin_len (M := 1) (m := keys.length) (st := ⟨ar, chainRows ar (rangeI keys.length), [], keys.length⟩) (fun p hp => by simp at hp)
    simp [chainRows_len, rangeI_len] at this
    unfold chainBlock big; omega
  · rw [if_neg hf]
    obtain ⟨gl1, gl2⟩ := groups_len keys
    have gone := groups_one keys
    have gfl := groups_flat keys
    have gin : ∀ g ∈ groupsF keys, ∀ x ∈ g, 0 ≤ x ∧ x < (keys.length : Int) := fun g hg => groups_inR hg
    by_cases h1 : (groupsF keys).length = 1
    · rw [if_pos h1]
      obtain ⟨g, hg⟩ : ∃ g, groupsF keys = [g] := List.length_eq_one_iff.mp h1
      rw [hg] at gl2 gin gfl ⊢
      have hgm : g.length = keys.length := by simp at gfl; rw [gfl, rangeI_len]
      obtain ⟨⟨n, hn', hd⟩, hu⟩ := d_switchBlock ar (keys := keys) (ps := g) (gin g (by simp)) k
      have hdue : dueG keys [g] k = matchP keys g k := by simp [dueG]; intro z; omega
      refine ⟨⟨n, by omega, by rw [hdue]; exact hd⟩, hu, ?_⟩
      obtain ⟨k1, k2, k3⟩ := switchF_ok (M := keys.length) (keys := keys) (st := ⟨ar, [], [], keys.length⟩) (ps := g) (fun p hp => by simp at hp) (by omega)
      have := fin_len (m := keys.length) k1
      have hm : (switchF keys ⟨ar, [], [], keys.length⟩ g).chains.length * (keys.length + 1) ≤ 100 * 100 := Nat.mul_le_mul (by simp at k2; omega) (by omega)
      simp at k3
      show (finishRows (switchF keys ⟨ar, [], [], keys.length⟩ g) keys.length).length < big
      unfold big; omega
    · rw [if_neg h1]
      have hG2 : 2 ≤ (groupsF keys).length := by
        have : (groupsF keys).length ≠ 0 := fun z => by
          rw [List.length_eq_zero_iff.mp z] at gfl
          have := congrArg List.length gfl
          rw [rangeI_len] at this; simp at this; omega
        omega
      obtain ⟨⟨n, hn', hd⟩, hu⟩ := d_groups ar (keys := keys) (M := keys.length) hG2 (fun g hg => (gone g hg).1) gin gl2 k
      have hb : (groupsF keys).length * (2 * keys.length + 10) ≤ 20 * 50 := Nat.mul_le_mul (by omega) (by omega)
      refine ⟨⟨n, by omega, hd⟩, hu, ?_⟩
      have inv := labels_inv (groupsF keys) ([], ⟨ar, [], [], keys.length⟩)
      have hlf : labelsF (groupsF keys) ⟨ar, [], [], keys.length⟩ = (groupsF keys).foldl labelStep ([], ⟨ar, [], [], keys.length⟩) := rfl
      rw [hlf]
      generalize (groupsF keys).foldl labelStep ([], ⟨ar, [], [], keys.length⟩) = s at inv ⊢
      obtain ⟨v1, v2, v3, v4⟩ := inv
      have gi := grpRow_inv (M := keys.length) keys ((groupsF keys).zip s.1) { s.2 with rows := chainRows ar s.1 } (fun p hp => gl2 _ (List.of_mem_zip hp).1) (fun p hp => by dsimp only at hp; rw [v3] at hp; simp at hp)
      generalize ((groupsF keys).zip s.1).foldl (grpRow keys) { s.2 with rows := chainRows ar s.1 } = st' at gi ⊢
      obtain ⟨i1, i2, i3⟩ := gi
      dsimp only at i2 i3
      rw [v3] at i2
      rw [chainRows_len] at i3
      have hz : ((groupsF keys).zip s.1).length ≤ 20 := by rw [List.length_zip]; omega
      have hb2 : ((groupsF keys).zip s.1).length * (2 * keys.length + 3) ≤ 20 * 50 := Nat.mul_le_mul hz (by omega)
      simp at v1 i2
      have := fin_len (m := keys.length) i1
      have hm : st'.chains.length * (keys.length + 1) ≤ 2000 * 100 := Nat.mul_le_mul (by simp at hb2; omega) (by omega)
      unfold big; omega
end Mini
end

noncomputable section -- PC6
set_option autoImplicit false
set_option linter.unusedVariables false
set_option linter.unusedSimpArgs false
namespace Mini
noncomputable def homeS (s : List (List Int) × List Int) : List Int := homesF s.1 0 ++ List.replicate s.2.length (s.1.length : Int)
structure HInv (keys : List Key) (i : Nat) (s : List (List Int) × List Int) : Prop where
  len : (homeS s).length = i
  run : s.2 ≠ [] → ∃ j, i = j + 1 ∧ (homeS s)[j]? = some (s.1.length : Int) ∧ kat keys (j : Int) ≠ .var
  norun : s.2 = [] → i = 0 ∨ ∃ j, i = j + 1 ∧ (∃ a, (homeS s)[j]? = some a ∧ a < (s.1.length : Int)) ∧ kat keys (j : Int) = .var
  adj : ∀ p, p + 1 < i → ∃ a b, (homeS s)[p]? = some a ∧ (homeS s)[p + 1]? = some b ∧ (a = b ↔ kat keys (p : Int) ≠ .var ∧ kat keys ((p + 1 : Nat) : Int) ≠ .var)
theorem hinv_step {keys : List Key} {i : Nat} {s s' : List (List Int) × List Int} {c : Int} (h : HInv keys i s) (hs : homeS s' = homeS s ++ [c]) (hadj : ∀ (j : Nat) (a : Int), i = j + 1 → (homeS s)[j]? = some a → (a = c ↔ kat keys (j : Int) ≠ .var ∧ kat keys ((j + 1 : Nat) : Int) ≠ .var))
    (hrun : s'.2 ≠ [] → c = (s'.1.length : Int) ∧ kat keys (i : Int) ≠ .var) (hno : s'.2 = [] → c < (s'.1.length : Int) ∧ kat keys (i : Int) = .var) : HInv keys (i + 1) s' := by
  have hlast : (homeS s')[i]? = some c := by rw [hs, List.getElem?_append_right (by rw [h.len]; omega), h.len]; simp
  have hold : ∀ p, p < i → (homeS s')[p]? = (homeS s)[p]? := fun p hp => by rw [hs, List.getElem?_append_left (by rw [h.len]; exact hp)]
  refine ⟨by rw [hs, List.length_append, h.len]; rfl, fun hr => ⟨i, rfl, by rw [hlast, (hrun hr).1], (hrun hr).2⟩, fun hr => .inr ⟨i, rfl, ⟨c, hlast, (hno hr).1⟩, (hno hr).2⟩, fun p hp => ?_⟩
  by_cases hpi : p + 1 < i
  · obtain ⟨a, b, h1, h2, h3⟩ := h.adj p hpi
    exact ⟨a, b, by rw [hold p (by omega)]; exact h1, by rw [hold (p + 1) hpi]; exact h2, h3⟩
  · have hpe : i = p + 1 := by omega
    have hpl : p < (homeS s).length := by rw [h.len]; omega
    have hg : (homeS s)[p]? = some (homeS s)[p] := by simp [hpl]
    refine ⟨(homeS s)[p], c, by rw [hold p (by omega)]; exact hg, by rw [← hpe]; exact hlast, hadj p _ hpe hg⟩
theorem hInv (keys : List Key) : ∀ i, HInv keys i (grpState keys i)
  | 0 => ⟨by simp [homeS, grpState, rangeI, homesF], fun h => absurd rfl h, fun _ => .inl rfl, fun p hp => by omega⟩
  | i + 1 => by
    have h := hInv keys i
    rw [grpState_succ]
    generalize grpState keys i = s at h ⊢
    obtain ⟨G, run⟩ := s
    unfold grpStep
    dsimp only
    by_cases hk : kat keys (i : Int) = .var
    · rw [if_pos hk]
      by_cases hr : run.length > 0
      · rw [if_pos hr]
        have hne : run ≠ [] := fun z => by rw [z] at hr; simp at hr
        refine hinv_step h (c := (G.length : Int) + 1) ?_ (fun j a hj ha => ?_) (fun z => absurd rfl z) fun _ => ⟨by simp <;> omega, hk⟩
        · unfold homeS; dsimp only; rw [homesF_app, homesF_app]; simp
        · obtain ⟨j', e1, e2, _⟩ := h.run hne
          obtain rfl : j = j' := by omega
          rw [e2] at ha
          have := Option.some.inj ha
          dsimp only at this
          refine ⟨fun z => by omega, fun z => absurd (by rw [← hj]; exact hk) z.2⟩
      · rw [if_neg hr]
        have hrn : run = [] := List.length_eq_zero_iff.mp (by omega)
        subst hrn
        refine hinv_step h (c := (G.length : Int)) ?_ (fun j a hj ha => ?_) (fun z => absurd rfl z) fun _ => ⟨by simp <;> omega, hk⟩
        · unfold homeS; dsimp only; rw [homesF_app]; simp
        · rcases h.norun rfl with e | ⟨j', e1, ⟨a', e2, e3⟩, e4⟩
          · omega
          · obtain rfl : j = j' := by omega
            rw [e2] at ha
            have := Option.some.inj ha
            dsimp only at e3
            refine ⟨fun z => by omega, fun z => absurd e4 z.1⟩
    · rw [if_neg hk]
      refine hinv_step h (c := (G.length : Int)) ?_ (fun j a hj ha => ?_) (fun _ => ⟨rfl, hk⟩) fun z => by simp at z
      · unfold homeS; dsimp only; rw [List.length_append, List.length_singleton, List.replicate_succ']; simp
      · by_cases hne : run = []
        · subst hne
          rcases h.norun rfl with e | ⟨j', e1, ⟨a', e2, e3⟩, e4⟩
          · omega
          · obtain rfl : j = j' := by omega
            rw [e2] at ha
            have := Option.some.inj ha
            dsimp only at e3
            refine ⟨fun z => by omega, fun z => absurd e4 z.1⟩
        · obtain ⟨j', e1, e2, e3⟩ := h.run hne
          obtain rfl : j = j' := by omega
          rw [e2] at ha
          have := Option.some.inj ha
          exact ⟨fun _ => ⟨e3, by rw [← hj]; exact hk⟩, fun _ => this.symm⟩
theorem homes_final (keys : List Key) : homesF (groupsF keys) 0 = homeS (grpState keys keys.length) := by
  unfold groupsF homeS
  split
  · rw [homesF_app, Nat.zero_add]
  · rename_i hr
    have : (grpState keys keys.length).2.length = 0 := by omega
    rw [this]; simp
theorem homes_adj (keys : List Key) {p : Nat} (hp : p + 1 < keys.length) : ∃ a b, (homesF (groupsF keys) 0)[p]? = some a ∧ (homesF (groupsF keys) 0)[p + 1]? = some b ∧ (a = b ↔ kat keys (p : Int) ≠ .var ∧ kat keys ((p + 1 : Nat) : Int) ≠ .var) := by
  rw [homes_final]; exact (hInv keys keys.length).adj p hp
end Mini
end

noncomputable section -- PB21
set_option autoImplicit false
set_option linter.unusedVariables false
set_option linter.unusedSimpArgs false
namespace Mini
section
variable {H : AHeap} {ρ : Loc} {keys : List Key}
theorem keys_ok (keys : List Key) : eqOks theP 4 (keys.map Key.av) = true := by
  induction keys with
  | nil => rfl
  | cons k keys ih => rw [List.map_cons, eqOks, Bool.and_eq_true]; exact ⟨k.ok, ih⟩
theorem av_mem (keys : List Key) (k : Key) : k.av ∈ keys.map Key.av ↔ k ∈ keys := by
  rw [List.mem_map]
  exact ⟨fun ⟨a, h, e⟩ => Key.inj.mp e ▸ h, fun h => ⟨k, h, rfl⟩⟩
theorem in_keys {i : Nat} (h : H[i]? = some (.list (keys.map Key.av))) (k : Key) : cmpOf theP H .notin k.av (.obj i) = some (!decide (k ∈ keys)) := by
  simp only [cmpOf, inOf, h, any_ok k.ok (keys_ok keys), Option.map_some, av_mem]

theorem b_check {h kk : Nat} (hh : H[h]? = some (.list ((homesF (groupsF keys) 0).map AV.int))) (hk : H[kk]? = some (.list (keys.map Key.av))) (hn : keys.length < 20) (h10 : ρ[10]? = some (some (.obj h))) (h5 : ρ[5]? = some (some (.obj kk))) (h7 : ρ[7]? = some none) :
    ∃ H', evFor theP 10 (7, [7], [.ifs (.cmp .ne (.cmp .eq (.sub (.loc 10) (.bin .sub (.loc 7) (.lit (.int 1)))) (.sub (.loc 10) (.loc 7))) (.cmp .notin (.tup [(.lit (.sym 36))]) (.slice (.loc 5) (.bin .sub (.loc 7) (.lit (.int 1))) (.bin .add (.loc 7) (.lit (.int 1)))))) [.ret (.lit (.bool false))] []]) (.vals (rints 1 (keys.length : Int))) 0 ρ H = some (.next, ρ, H') ∧ Grow H H' := by
  have hlen7 := (List.getElem?_eq_some_iff.mp h7).1
  obtain ⟨ρ', H', e, e1, e2⟩ := for_vals (P := theP) (d := 10) (x := 7) (kill := [7]) (body := [.ifs (.cmp .ne (.cmp .eq (.sub (.loc 10) (.bin .sub (.loc 7) (.lit (.int 1)))) (.sub (.loc 10) (.loc 7))) (.cmp .notin (.tup [(.lit (.sym 36))]) (.slice (.loc 5) (.bin .sub (.loc 7) (.lit (.int 1))) (.bin .add (.loc 7) (.lit (.int 1)))))) [.ret (.lit (.bool false))] []]) (l := rints 1 (keys.length : Int))
    (fun i ρ' Hh => ρ' = ρ ∧ Grow H Hh)
    (fun i v ρ' Hh hv hI => by
      obtain ⟨rfl, hg⟩ := hI
      obtain ⟨rfl, hi⟩ := rints_get hv
      have hi' : i + 1 < keys.length := by omega
      obtain ⟨a, b, a1, a2, a3⟩ := homes_adj keys hi'
      have hh' := hg.same _ _ hh
      have hk' := hg.same _ _ hk
      have q7 : (ρ'.set 7 (some (.int (1 + (i : Int)))))[7]? = some (some (.int (1 + (i : Int)))) := List.getElem?_set_self hlen7
      have q : ∀ n : Nat, n ≠ 7 → (ρ'.set 7 (some (.int (1 + (i : Int)))))[n]? = ρ'[n]? := fun n h => List.getElem?_set_ne (fun z => h z.symm)
      have l7 := r_loc (P := theP) (d := 10) (H := Hh) q7
      have m1 := r_bin (o := .sub) l7 (r_lit (v := .int 1)) rfl
      have i1 : idx (1 + (i : Int) - 1) ((homesF (groupsF keys) 0).map AV.int) = some (.int a) := idx_nat (by omega) (by omega) (by rw [show (1 + (i : Int) - 1).toNat = i by omega]; simp [a1])
      have i2 : idx (1 + (i : Int)) ((homesF (groupsF keys) 0).map AV.int) = some (.int b) := idx_nat (by omega) (by omega) (by rw [show (1 + (i : Int)).toNat = i + 1 by omega]; simp [a2])
      have c1 := r_cmp (r_sub (r_loc (by rw [q 10 (by decide)]; exact h10)) m1 (sub_l hh' i1)) (r_sub (r_loc (by rw [q 10 (by decide)]; exact h10)) l7 (sub_l hh' i2)) (c_int (a := a) (b := b))
      have m2 := r_bin (o := .add) l7 (r_lit (v := .int 1)) rfl
      have hsl : sliceOf Hh (.obj kk) (.int (1 + (i : Int) - 1)) (.int (1 + (i : Int) + 1)) = some ([keys[i], keys[i + 1]].map Key.av) := by
        simp only [sliceOf, hk']
        have hcd : 0 ≤ 1 + (i : Int) - 1 ∧ 1 + (i : Int) - 1 < 2 ^ 62 ∧ 0 ≤ 1 + (i : Int) + 1 ∧ 1 + (i : Int) + 1 < 2 ^ 62 ∧ (keys.map Key.av).length < big := ⟨by omega, by omega, by omega, by omega, by rw [List.length_map]; unfold big; omega⟩
        refine (if_pos hcd).trans ?_
        rw [← List.map_take, ← List.map_drop]
        have t1 : (1 + (i : Int) + 1).toNat = i + 1 + 1 := by omega
        have t2 : (1 + (i : Int) - 1).toNat = i := by omega
        rw [t1, t2]
        refine congrArg (fun l : List Key => some (l.map Key.av)) ?_
        rw [List.drop_take, show i + 1 + 1 - i = 2 by omega, List.drop_eq_getElem_cons (by omega : i < keys.length), List.drop_eq_getElem_cons hi']
        rfl
      have c2 := r_cmp (r_tup (rl_cons (r_lit (v := .sym 36)) rl_nil) (show 1 < big by decide)) (r_slice (r_loc (by rw [q 5 (by decide)]; exact h5)) m1 m2 hsl) (in_keys (keys := [keys[i], keys[i + 1]]) get_last .var)
      have c3 := r_cmp c1 c2 c_booln
      have hka : kat keys (i : Int) = keys[i] := by simp [kat, List.getD, show i < keys.length by omega]
      have hkb : kat keys ((i + 1 : Nat) : Int) = keys[i + 1] := by
        have : ((i + 1 : Nat) : Int).toNat = i + 1 := by omega
        simp only [kat, this, List.getD]; simp [hi']
      rw [hka, hkb] at a3
      have heq : (!((decide (a = b)) == (!decide (Key.var ∈ [keys[i], keys[i + 1]])))) = false := by
        have : decide (a = b) = !decide (Key.var ∈ [keys[i], keys[i + 1]]) := by
          rw [Bool.eq_iff_iff]
          simp only [decide_eq_true_eq, Bool.not_eq_true', decide_eq_false_iff_not, List.mem_cons, List.not_mem_nil, or_false, not_or]
          rw [a3]
          exact ⟨fun z => ⟨fun w => z.1 w.symm, fun w => z.2 w.symm⟩, fun z => ⟨fun w => z.1 w.symm, fun w => z.2 w.symm⟩⟩
        rw [this]; simp
      rw [heq] at c3
      exact ⟨_, _, s_next (t_ifF c3 s_nil) s_nil, set_back h7, hg.trans .app⟩)
    (rints 1 (keys.length : Int)).length 0 ρ H (by omega) ⟨rfl, .refl⟩
  subst e1
  exact ⟨H', e, e2⟩

/-- the calls -/
theorem b_calls {cl kk : Nat} {calls : List Key} (hc : H[cl]? = some (.list (calls.map Key.av))) (hk : H[kk]? = some (.list (keys.map Key.av))) (hne : kk ≠ cl) (hn : keys.length < 20) (hcl : calls.length < 20) (h15 : ρ[15]? = some (some (.obj cl))) (h16 : ρ[16]? = some none) :
    ∃ (H' : AHeap) (calls' : List Key), evFor theP 10 (16, [16], [.ifs (.cmp .notin (.loc 16) (.loc 15)) [.expr (.append (.loc 15) (.loc 16))] []]) (.lst kk) 0 ρ H = some (.next, ρ, H') ∧ H'[cl]? = some (.list (calls'.map Key.av)) ∧ Kp cl H H' ∧ calls'.length < 50 := by
  have hlen := (List.getElem?_eq_some_iff.mp h16).1
  obtain ⟨ρ', H', e, e1, calls', e2, e3, e4⟩ := for_lst (P := theP) (d := 10) (x := 16) (o := kk) (kill := [16]) (body := [.ifs (.cmp .notin (.loc 16) (.loc 15)) [.expr (.append (.loc 15) (.loc 16))] []]) (l := keys.map Key.av)
    (fun i ρ' Hh => ρ' = ρ ∧ ∃ cs : List Key, Hh[cl]? = some (.list (cs.map Key.av)) ∧ Kp cl H Hh ∧ cs.length ≤ calls.length + i)
    (fun i ρ' Hh hI => hI.2.choose_spec.2.1.same _ _ hne hk)
    (fun i v ρ' Hh hv hI => by
      obtain ⟨rfl, cs, h1, h2, h3⟩ := hI
      rw [List.getElem?_map] at hv
      obtain ⟨k, hkk, rfl⟩ := Option.map_eq_some_iff.mp hv
      have hi := (List.getElem?_eq_some_iff.mp hkk).1
      have q16 : (ρ'.set 16 (some k.av))[16]? = some (some k.av) := List.getElem?_set_self hlen
      have q15 : (ρ'.set 16 (some k.av))[15]? = some (some (.obj cl)) := by rw [List.getElem?_set_ne (by decide)]; exact h15
      have c1 := r_cmp (P := theP) (d := 10) (r_loc (H := Hh) q16) (r_loc q15) (in_keys h1 k)
      by_cases hm : k ∈ cs
      · rw [decide_eq_true hm] at c1
        exact ⟨_, _, s_next (t_ifF c1 s_nil) s_nil, set_back h16, cs, h1, h2, by omega⟩
      · rw [decide_eq_false hm] at c1
        have s1 := t_expr' (r_append (P := theP) (d := 10) (r_loc (H := Hh) q15) h1 (r_loc q16) h1 (by rw [List.length_map]; unfold big; omega)) rfl
        exact ⟨_, _, s_next (t_ifT c1 (s_next s1 s_nil)) s_nil, set_back h16, cs ++ [k], by rw [get_set h1]; simp, h2.trans .set, by simp; omega⟩)
    keys.length 0 ρ H (by simp) ⟨rfl, calls, hc, .refl, by omega⟩
  subst e1
  rw [List.length_map] at e4
  exact ⟨H', calls', e, e2, e3, by omega⟩
end
end Mini
end

noncomputable section -- PB22
set_option autoImplicit false
set_option linter.unusedVariables false
set_option linter.unusedSimpArgs false
namespace Mini
noncomputable def sel (c : Bool) (keys : List Key) (k : Key) (l : List Int) : List Int := l.filter fun x => fit (kat keys x) k || c
theorem sel_if {c : Prop} [Decidable c] (keys : List Key) (k : Key) (l : List Int) : sel (decide c) keys k l = if c then l else matchP keys l k := by
  unfold sel matchP
  by_cases h : c
  · rw [if_pos h, decide_eq_true h]; simp
  · rw [if_neg h, decide_eq_false h]; simp
theorem sel_snoc (c : Bool) (keys : List Key) (k : Key) (l : List Int) (x : Int) : sel c keys k (l ++ [x]) = sel c keys k l ++ (if (fit (kat keys x) k || c) = true then [x] else []) := by
  unfold sel; rw [List.filter_append]; simp [List.filter_cons]
theorem sel_len (c : Bool) (keys : List Key) (k : Key) (l : List Int) : (sel c keys k l).length ≤ l.length := List.length_filter_le _ _
noncomputable def fitG (keys : List Key) (m : Int) (G : List (List Int)) (k : Key) : List Int := (G.map fun g => if m = 1 then g else matchP keys g k).flatten
noncomputable def dueS (keys : List Key) (G : List (List Int)) (k : Key) : List Int := (G.map fun g => sel (decide (g.length = 1)) keys k g).flatten
noncomputable def fitS (keys : List Key) (m : Int) (G : List (List Int)) (k : Key) : List Int := (G.map fun g => sel (decide (m = 1)) keys k g).flatten
theorem dueS_eq (keys : List Key) (G : List (List Int)) (k : Key) : dueS keys G k = dueG keys G k := by unfold dueS dueG; congr 1; exact List.map_congr_left fun g _ => sel_if keys k g
theorem fitS_eq (keys : List Key) (m : Int) (G : List (List Int)) (k : Key) : fitS keys m G k = fitG keys m G k := by unfold fitS fitG; congr 1; exact List.map_congr_left fun g _ => sel_if keys k g
theorem flat_le (f : List Int → List Int) (hf : ∀ l, (f l).length ≤ l.length) : ∀ G : List (List Int), (G.map f).flatten.length ≤ G.flatten.length
  | [] => by simp
  | g :: G => by
    have := flat_le f hf G
    have := hf g
    rw [List.map_cons, List.flatten_cons, List.flatten_cons, List.length_append, List.length_append]; omega

noncomputable def dueBody : List MS := [.asg 21 (.ors [(.cmp .eq (.sub (.loc 5) (.loc 7)) (.tup [(.lit (.sym 36))])), (.cmp .eq (.loc 17) (.tup [(.lit (.sym 36))])), (.cmp .eq (.sub (.loc 5) (.loc 7)) (.loc 17))]),
     .ifs (.ors [(.loc 21), (.cmp .eq (.len (.loc 20)) (.lit (.int 1)))]) [.expr (.append (.loc 18) (.loc 7))] [],
     .ifs (.ors [(.loc 21), (.cmp .eq (.loc 8) (.lit (.int 1)))]) [.expr (.append (.loc 19) (.loc 7))] []]
section
variable {H : AHeap} {ρ : Loc} {keys : List Key}
theorem isvar_t {ρ : Loc} {e : ME} {k : Key} (h : evE theP 10 e ρ H = some (k.av, H)) : evE theP 10 (.cmp .eq e (.tup [(.lit (.sym 36))])) ρ H = some (.bool (decide (k = .var)), H) := by
  have := r_cmp (P := theP) h (r_tup (rl_cons (r_lit (v := .sym 36)) rl_nil) (show 1 < big by decide)) (c_eq k.ok (b := .tup [.sym 36]) rfl)
  simpa only [var_iff] using this
theorem due_one {kk id : Nat} {g : List Int} {m x : Int} {k : Key} {du fi : List Int} (hk : H[kk]? = some (.list (keys.map Key.av))) (hg : H[id]? = some (.list (g.map AV.int))) (hgl : g.length < 1000) (hx0 : 0 ≤ x) (hx : x < keys.length) (hn : keys.length < 20) (hdu : du.length < 1000) (hfi : fi.length < 1000)
    (h5 : ρ[5]? = some (some (.obj kk))) (h7 : ρ[7]? = some (some (.int x))) (h8 : ρ[8]? = some (some (.int m))) (h17 : ρ[17]? = some (some k.av)) (h18 : ρ[18]? = some (some (.obj H.length))) (h19 : ρ[19]? = some (some (.obj (H.length + 1)))) (h20 : ρ[20]? = some (some (.obj id))) (h21 : 21 < ρ.length) :
    evSs theP 10 dueBody ρ (hp H du fi) = some (.next, ρ.set 21 (some (.bool (fit (kat keys x) k))), hp H (du ++ (if (fit (kat keys x) k || decide (g.length = 1)) = true then [x] else [])) (fi ++ (if (fit (kat keys x) k || decide (m = 1)) = true then [x] else []))) := by
  have hkh : ∀ a b, (hp H a b)[kk]? = some (.list (keys.map Key.av)) := fun a b => get_app (get_app hk)
  have hgh : ∀ a b, (hp H a b)[id]? = some (.list (g.map AV.int)) := fun a b => get_app (get_app hg)
  have hix : idx x (keys.map Key.av) = some (kat keys x).av := idx_nat hx0 (by omega) (by simp [kat, List.getD, show x.toNat < keys.length by omega])
  have e1 := r_sub (P := theP) (d := 10) (H := hp H du fi) (r_loc h5) (r_loc h7) (sub_l (hkh du fi) hix)
  have e2 := r_loc (P := theP) (d := 10) (H := hp H du fi) h17
  have c3 := r_cmp e1 e2 (c_eq (kat keys x).ok k.ok)
  simp only [Key.inj] at c3
  have o := r_ors (or_two (isvar_t e1) (or_two (isvar_t e2) (or_one c3)))
  have hf : (decide (kat keys x = .var) || (decide (k = .var) || decide (kat keys x = k))) = fit (kat keys x) k := by unfold fit; rw [Bool.or_assoc]
  rw [hf] at o
  have s1 := t_asg' (x := 21) o
  have q : ∀ n : Nat, n ≠ 21 → (ρ.set 21 (some (.bool (fit (kat keys x) k))))[n]? = ρ[n]? := fun n h => List.getElem?_set_ne (fun z => h z.symm)
  have q21 : (ρ.set 21 (some (.bool (fit (kat keys x) k))))[21]? = some (some (.bool (fit (kat keys x) k))) := List.getElem?_set_self h21
  generalize ρ.set 21 (some (.bool (fit (kat keys x) k))) = ρ2 at s1 q q21 ⊢
  have d1 := r_ors (or_two (r_loc (P := theP) (d := 10) (H := hp H du fi) q21) (or_one (r_cmp (r_len (r_loc (by rw [q 20 (by decide)]; exact h20)) (len_l (hgh du fi) (by rw [List.length_map]; unfold big; omega))) (r_lit (v := .int 1)) c_int)))
  have hd : decide (((g.map AV.int).length : Int) = 1) = decide (g.length = 1) := by
    rw [List.length_map, Bool.eq_iff_iff]; simp only [decide_eq_true_eq]; omega
  rw [hd] at d1
  have s2 : evS theP 10 (.ifs (.ors [(.loc 21), (.cmp .eq (.len (.loc 20)) (.lit (.int 1)))]) [.expr (.append (.loc 18) (.loc 7))] []) ρ2 (hp H du fi) = some (.next, ρ2, hp H (du ++ (if (fit (kat keys x) k || decide (g.length = 1)) = true then [x] else [])) fi) := by
    cases hb : (fit (kat keys x) k || decide (g.length = 1)) with
    | true =>
      rw [hb] at d1
      have a1 := t_expr' (r_append (P := theP) (d := 10) (r_loc (by rw [q 18 (by decide)]; exact h18)) (show (hp H du fi)[H.length]? = some (.list (du.map AV.int)) from get_last1) (r_loc (by rw [q 7 (by decide)]; exact h7)) (show (hp H du fi)[H.length]? = some (.list (du.map AV.int)) from get_last1) (by rw [List.length_map]; unfold big; omega)) rfl
      have e2 : (hp H du fi).set H.length (.list (du.map AV.int ++ [.int x])) = hp H (du ++ [x]) fi := by
        show (H ++ _ ++ _).set _ _ = _
        rw [set_f]; simp [hp]
      rw [e2] at a1
      exact t_ifT d1 (s_next a1 s_nil)
    | false => rw [hb] at d1; simpa using t_ifF d1 s_nil
  generalize du ++ (if (fit (kat keys x) k || decide (g.length = 1)) = true then [x] else []) = du2 at s2 ⊢
  have d2 := r_ors (or_two (r_loc (P := theP) (d := 10) (H := hp H du2 fi) q21) (or_one (r_cmp (r_loc (by rw [q 8 (by decide)]; exact h8)) (r_lit (v := .int 1)) (c_int (a := m)))))
  have s3 : evS theP 10 (.ifs (.ors [(.loc 21), (.cmp .eq (.loc 8) (.lit (.int 1)))]) [.expr (.append (.loc 19) (.loc 7))] []) ρ2 (hp H du2 fi) = some (.next, ρ2, hp H du2 (fi ++ (if (fit (kat keys x) k || decide (m = 1)) = true then [x] else []))) := by
    cases hb : (fit (kat keys x) k || decide (m = 1)) with
    | true =>
      rw [hb] at d2
      have a1 := t_expr' (r_append (P := theP) (d := 10) (r_loc (by rw [q 19 (by decide)]; exact h19)) (show (hp H du2 fi)[H.length + 1]? = some (.list (fi.map AV.int)) from get_last2) (r_loc (by rw [q 7 (by decide)]; exact h7)) (show (hp H du2 fi)[H.length + 1]? = some (.list (fi.map AV.int)) from get_last2) (by rw [List.length_map]; unfold big; omega)) rfl
      have e2 : (hp H du2 fi).set (H.length + 1) (.list (fi.map AV.int ++ [.int x])) = hp H du2 (fi ++ [x]) := by
        show (H ++ _ ++ _).set _ _ = _
        rw [set_p]; simp [hp]
      rw [e2] at a1
      exact t_ifT d2 (s_next a1 s_nil)
    | false => rw [hb] at d2; simpa using t_ifF d2 s_nil
  exact s_next s1 (s_next s2 (s_next s3 s_nil))

theorem b_due {lo gq kk : Nat} {G : List (List Int)} {m : Int} {k : Key} (L : LL lo H gq G) (hk : H[kk]? = some (.list (keys.map Key.av))) (hn : keys.length < 20) (hr : ∀ g ∈ G, ∀ x ∈ g, 0 ≤ x ∧ x < (keys.length : Int)) (hfl : G.flatten.length < 500)
    (h5 : ρ[5]? = some (some (.obj kk))) (h7 : ρ[7]? = some none) (h8 : ρ[8]? = some (some (.int m))) (h17 : ρ[17]? = some (some k.av)) (h18 : ρ[18]? = some (some (.obj H.length))) (h19 : ρ[19]? = some (some (.obj (H.length + 1)))) (h20 : ρ[20]? = some none) (h21 : ρ[21]? = some none) :
    evFor theP 10 (20, [7, 20, 21], [.for_ 7 (.e (.loc 20)) [7, 21] dueBody]) (.lst gq) 0 ρ (hp H [] []) = some (.next, ρ, hp H (dueS keys G k) (fitS keys m G k)) := by
  obtain ⟨_, gids, l1, l2, l3⟩ := L
  have n7 := (List.getElem?_eq_some_iff.mp h7).1
  have n20 := (List.getElem?_eq_some_iff.mp h20).1
  have n21 := (List.getElem?_eq_some_iff.mp h21).1
  obtain ⟨ρ', H', e, e1, e2⟩ := for_lst (P := theP) (d := 10) (x := 20) (o := gq) (kill := [7, 20, 21]) (body := [.for_ 7 (.e (.loc 20)) [7, 21] dueBody]) (l := gids.map AV.obj)
    (fun i ρ' Hh => ρ' = ρ ∧ Hh = hp H (dueS keys (G.take i) k) (fitS keys m (G.take i) k))
    (fun i ρ' Hh hI => by rw [hI.2]; exact get_app (get_app l1))
    (fun i v ρ' Hh hv hI => by
      obtain ⟨rfl, rfl⟩ := hI
      have hi : i < G.length := by
        have := (List.getElem?_eq_some_iff.mp hv).1
        rw [List.length_map, l2] at this; exact this
      have hgi : G[i]? = some G[i] := by simp [hi]
      obtain ⟨id, g1, _, g3⟩ := l3 i G[i] hgi
      obtain rfl : v = .obj id := by rw [List.getElem?_map, g1] at hv; simpa using hv.symm
      have hmem : G[i] ∈ G := List.getElem_mem _
      have htl : ((G.take i).flatten).length + G[i].length ≤ G.flatten.length := by
        have : G = G.take i ++ G[i] :: G.drop (i + 1) := by rw [← List.drop_eq_getElem_cons hi, List.take_append_drop]
        conv => rhs; rw [this]
        rw [List.flatten_append, List.flatten_cons, List.length_append, List.length_append]; omega
      have b1 : (dueS keys (G.take i) k).length ≤ (G.take i).flatten.length := by
        have h1 : ∀ G : List (List Int), (dueS keys G k).length ≤ G.flatten.length := by
          intro G
          induction G with
          | nil => simp [dueS]
          | cons g G ih =>
            have := sel_len (decide (g.length = 1)) keys k g
            unfold dueS at ih ⊢
            rw [List.map_cons, List.flatten_cons, List.flatten_cons, List.length_append, List.length_append]; omega
        exact h1 _
      have b2 : (fitS keys m (G.take i) k).length ≤ (G.take i).flatten.length := flat_le _ (fun l => sel_len (decide (m = 1)) keys k l) _
      obtain ⟨ρ2, H2, f, f1, f2⟩ := for_lst (P := theP) (d := 10) (x := 7) (o := id) (kill := [7, 21]) (body := dueBody) (l := G[i].map AV.int)
        (fun j ρ2 H2 => ρ2 = ρ'.set 20 (some (.obj id)) ∧ H2 = hp H (dueS keys (G.take i) k ++ sel (decide (G[i].length = 1)) keys k (G[i].take j)) (fitS keys m (G.take i) k ++ sel (decide (m = 1)) keys k (G[i].take j)))
        (fun j ρ2 H2 hI => by rw [hI.2]; exact get_app (get_app g3))
        (fun j v ρ2 H2 hv hI => by
          obtain ⟨rfl, rfl⟩ := hI
          rw [List.getElem?_map] at hv
          obtain ⟨x, hx, rfl⟩ := Option.map_eq_some_iff.mp hv
          have hj := (List.getElem?_eq_some_iff.mp hx).1
          have hxr := hr _ hmem x (List.mem_of_getElem? hx)
          have q : ∀ n : Nat, n ≠ 7 → n ≠ 20 → ((ρ'.set 20 (some (.obj id))).set 7 (some (.int x)))[n]? = ρ'[n]? := fun n h1 h2 => by rw [List.getElem?_set_ne (fun z => h1 z.symm), List.getElem?_set_ne (fun z => h2 z.symm)]
          have s1 := sel_len (decide (G[i].length = 1)) keys k (G[i].take j)
          have s2 := sel_len (decide (m = 1)) keys k (G[i].take j)
          rw [List.length_take] at s1 s2
          have one := due_one (ρ := (ρ'.set 20 (some (.obj id))).set 7 (some (.int x))) (m := m) (k := k) (du := dueS keys (G.take i) k ++ sel (decide (G[i].length = 1)) keys k (G[i].take j)) (fi := fitS keys m (G.take i) k ++ sel (decide (m = 1)) keys k (G[i].take j)) hk g3 (by omega) hxr.1 hxr.2 hn (by rw [List.length_append]; omega) (by rw [List.length_append]; omega)
            (by rw [q 5 (by decide) (by decide)]; exact h5) (List.getElem?_set_self (by simpa using n7)) (by rw [q 8 (by decide) (by decide)]; exact h8) (by rw [q 17 (by decide) (by decide)]; exact h17) (by rw [q 18 (by decide) (by decide)]; exact h18) (by rw [q 19 (by decide) (by decide)]; exact h19) (by rw [List.getElem?_set_ne (by decide)]; exact List.getElem?_set_self n20) (by simpa using n21)
          refine ⟨_, _, one, ?_, by rw [take_more hx, sel_snoc, sel_snoc, List.append_assoc, List.append_assoc]⟩
          show ((((ρ'.set 20 (some (AV.obj id))).set 7 (some (AV.int x))).set 21 _).set 7 none).set 21 none = ρ'.set 20 (some (AV.obj id))
          have a7 : (ρ'.set 20 (some (AV.obj id)))[7]? = some none := by rw [List.getElem?_set_ne (by decide)]; exact h7
          have a21 : (ρ'.set 20 (some (AV.obj id)))[21]? = some none := by rw [List.getElem?_set_ne (by decide)]; exact h21
          rw [List.set_comm _ _ (show (21 : Nat) ≠ 7 by decide), set_back a7, set_back a21])
        G[i].length 0 (ρ'.set 20 (some (.obj id))) (hp H (dueS keys (G.take i) k) (fitS keys m (G.take i) k)) (by simp) ⟨rfl, by simp [sel]⟩
      rw [List.length_map, List.take_length] at f2
      subst f1
      have a7 : (ρ'.set 20 (some (AV.obj id)))[7]? = some none := by rw [List.getElem?_set_ne (by decide)]; exact h7
      have a21 : (ρ'.set 20 (some (AV.obj id)))[21]? = some none := by rw [List.getElem?_set_ne (by decide)]; exact h21
      have same : ∀ (σ : Loc) (n : Nat), σ[n]? = some none → σ.set n none = σ := fun σ n h => by
        obtain ⟨p1, p2⟩ := List.getElem?_eq_some_iff.mp h
        have := List.set_getElem_self p1
        rw [p2] at this; exact this
      have k0 : killAll [7, 21] (ρ'.set 20 (some (.obj id))) = ρ'.set 20 (some (.obj id)) := by
        show ((ρ'.set 20 (some (AV.obj id))).set 7 none).set 21 none = _
        rw [same _ 7 a7, same _ 21 a21]
      have ev := t_for' (P := theP) (d := 10) (x := 7) (it := .e (.loc 20)) (kill := [7, 21]) (ρ := ρ'.set 20 (some (.obj id))) (ri_lst (r_loc (List.getElem?_set_self n20)) (show (hp H (dueS keys (G.take i) k) (fitS keys m (G.take i) k))[id]? = _ from get_app (get_app g3))) (by rw [k0]; exact f)
      refine ⟨_, _, s_next ev s_nil, ?_, ?_⟩
      · show (((ρ'.set 20 (some (AV.obj id))).set 7 none).set 20 none).set 21 none = ρ'
        rw [same _ 7 a7, set_back h20, same _ 21 h21]
      · rw [f2, take_more hgi]
        unfold dueS fitS
        rw [List.map_append, List.map_append, List.flatten_append, List.flatten_append]; simp)
    G.length 0 ρ (hp H [] []) (by rw [List.length_map, l2]; omega) ⟨rfl, rfl⟩
  rw [List.length_map, l2, List.take_length] at e2
  subst e1 e2
  exact e
end
end Mini
end

noncomputable section -- PB23
set_option autoImplicit false
set_option linter.unusedVariables false
set_option linter.unusedSimpArgs false
namespace Mini
theorem groups0 {keys : List Key} (h : keys.length = 0) : groupsF keys = [] := by
  have := groups_len keys
  exact List.length_eq_zero_iff.mp (by omega)
theorem groups1 {keys : List Key} (h : keys.length = 1) : groupsF keys = [[0]] := by
  have h1 := groups_flat keys
  have h2 := (groups_len keys).1
  rw [h] at h1
  have hr : rangeI 1 = [0] := rfl
  rw [hr] at h1
  match hg : groupsF keys with
  | [] => rw [hg] at h1; simp at h1
  | [g] => rw [hg] at h1; simp at h1; rw [h1]
  | _ :: _ :: _ => rw [hg] at h2; simp at h2; omega
theorem match_flat (keys : List Key) (k : Key) : ∀ G : List (List Int), (G.map fun g => matchP keys g k).flatten = matchP keys G.flatten k
  | [] => rfl
  | g :: G => by rw [List.map_cons, List.flatten_cons, match_flat keys k G, List.flatten_cons]; unfold matchP; rw [List.filter_append]
section
variable {H : AHeap} {keys : List Key} {y c : Nat} {nm ar : Int}
noncomputable def TB (H : AHeap) (keys : List Key) (q : Nat) (o : Key → List Int) : Prop := ∀ (k : Key) (H2 : AHeap), Grow H H2 → ∃ (q2 : Nat) (H3 : AHeap), callF theP 10 26 [.obj q, .int (keys.length : Int), k.av] H2 = some (.obj q2, H3) ∧ H3[q2]? = some (.list ((o k).map AV.int)) ∧ Grow H2 H3
theorem tb_small {q : Nat} (h : keys.length < 2) {o : Key → List Int} (ho : ∀ k, o k = rangeI keys.length) : TB H keys q o := fun k H2 g => by
  rw [ho]
  by_cases h0 : keys.length = 0
  · rw [h0]
    exact ⟨_, _, b_tried0 (d := 8) (by rfl), get_last, .app⟩
  · have h1 : keys.length = 1 := by omega
    rw [h1]
    exact ⟨_, _, b_tried1 (d := 8) (by rfl), get_last, .app⟩
theorem due_small (h : keys.length < 2) (k : Key) : dueG keys (groupsF keys) k = rangeI keys.length := by
  by_cases h0 : keys.length = 0
  · rw [groups0 h0, h0]; rfl
  · have h1 : keys.length = 1 := by omega
    rw [groups1 h1, h1]; rfl
theorem fit_small (h : keys.length < 2) (k : Key) : fitG keys keys.length (groupsF keys) k = rangeI keys.length := by
  by_cases h0 : keys.length = 0
  · rw [groups0 h0, h0]; rfl
  · have h1 : keys.length = 1 := by omega
    rw [groups1 h1]
    unfold fitG
    rw [h1]; rfl
theorem fit_big (h : 2 ≤ keys.length) (k : Key) : fitG keys keys.length (groupsF keys) k = matchP keys (rangeI keys.length) k := by
  unfold fitG
  have : ¬ (keys.length : Int) = 1 := by omega
  simp only [if_neg this]
  rw [match_flat, groups_flat]

theorem blk_group (hs : SY H y nm ar) (hc : CS H H.length c keys) (hn : keys.length < 20) (har : ar = 0 → allVar keys = true) :
    ∃ (q : Nat) (H' : AHeap), callF theP 10 22 [.obj y, .int nm, .obj c] H = some (.obj q, H') ∧ Grow H H' ∧ TB H' keys q (dueG keys (groupsF keys)) := by
  have hn' : keys.length < big := by unfold big; omega
  by_cases h2 : 2 ≤ keys.length
  · obtain ⟨q, H', e1, e2, e3⟩ := b_groupblock (d := 5) hs hc (Nat.le_refl _) hn h2
    refine ⟨q, H', e1, e3, fun k H2 g => ?_⟩
    obtain ⟨⟨n, hn2, hd⟩, hu, hl⟩ := c_group (ar := ar) h2 hn har k
    exact b_tried (d := 8) (g.same _ _ e2) hl hu (by omega) (by omega) hd (by unfold big; omega)
  · obtain ⟨q, H', e1, e2⟩ := b_small (d := 8) hc hn' (by omega)
    have c0 := lt2 (d := 9) (ρ := [some (.obj y), some (.int nm), some (.obj c), none, none, none, none, none, none]) hc hn' rfl
    rw [decide_eq_true (by omega)] at c0
    exact ⟨q, H', k_ret rfl rfl (s_ret (t_ifT c0 (s_ret (t_ret' (r_call (rl_cons (r_loc (x := 2) rfl) rl_nil) e1))))), e2, tb_small (by omega) (due_small (by omega))⟩
theorem blk_index (hs : SY H y nm ar) (hc : CS H H.length c keys) (hn : keys.length < 20) (har : ar = 0 → allVar keys = true) :
    ∃ (q : Nat) (H' : AHeap), callF theP 10 20 [.obj y, .int nm, .obj c] H = some (.obj q, H') ∧ Grow H H' ∧ TB H' keys q (fitG keys keys.length (groupsF keys)) := by
  have hn' : keys.length < big := by unfold big; omega
  by_cases h2 : 2 ≤ keys.length
  · obtain ⟨q, H', e1, e2, e3⟩ := b_index (d := 5) hs hc (Nat.le_refl _) (by omega) h2
    refine ⟨q, H', e1, e3, fun k H2 g => ?_⟩
    obtain ⟨⟨n, hn2, hd⟩, hu, hl⟩ := c_index (ar := ar) h2 hn har k
    rw [fit_big h2]
    exact b_tried (d := 8) (g.same _ _ e2) hl hu (by omega) (by omega) hd (by unfold big; omega)
  · obtain ⟨q, H', e1, e2⟩ := b_small (d := 8) hc hn' (by omega)
    have c0 := lt2 (d := 9) (ρ := [some (.obj y), some (.int nm), some (.obj c), none]) hc hn' rfl
    rw [decide_eq_true (by omega)] at c0
    exact ⟨q, H', k_ret rfl rfl (s_ret (t_ifT c0 (s_ret (t_ret' (r_call (rl_cons (r_loc (x := 2) rfl) rl_nil) e1))))), e2, tb_small (by omega) (fit_small (by omega))⟩

noncomputable def mainBody : List MS := [.asg 18 (.list []), .asg 19 (.list []),
   .for_ 20 (.e (.loc 9)) [7, 20, 21] [.for_ 7 (.e (.loc 20)) [7, 21] dueBody],
   .ifs (.ors [(.cmp .ne (.call 26 [(.loc 13), (.loc 8), (.loc 17)]) (.loc 18)), (.cmp .ne (.call 26 [(.loc 14), (.loc 8), (.loc 17)]) (.loc 19))]) [.ret (.lit (.bool false))] []]
/-- the loop over the calls -/
theorem b_main {lo gq kk cl bk ot : Nat} {calls : List Key} {v0 v1 v2 v3 v4 v6 v10 v11 : AV} {hb : AHeap} (hcl : H[cl]? = some (.list (calls.map Key.av))) (L : LL lo H gq (groupsF keys)) (hk : H[kk]? = some (.list (keys.map Key.av))) (hn : keys.length < 20)
    (T1 : TB H keys bk (dueG keys (groupsF keys))) (T2 : TB H keys ot (fitG keys keys.length (groupsF keys))) :
    ∃ H', evFor theP 10 (17, [7, 17, 18, 19, 20, 21], mainBody) (.lst cl) 0 [some v0, some v1, some v2, some v3, some v4, some (.obj kk), some v6, none, some (.int (keys.length : Int)), some (.obj gq), some v10, some v11, none, some (.obj bk), some (.obj ot), some (.obj cl), none, none, none, none, none, none] H =
      some (.next, [some v0, some v1, some v2, some v3, some v4, some (.obj kk), some v6, none, some (.int (keys.length : Int)), some (.obj gq), some v10, some v11, none, some (.obj bk), some (.obj ot), some (.obj cl), none, none, none, none, none, none], H') := by
  obtain ⟨ρ', H', e, e1, e2⟩ := for_lst (P := theP) (d := 10) (x := 17) (o := cl) (kill := [7, 17, 18, 19, 20, 21]) (body := mainBody) (l := calls.map Key.av)
    (fun i ρ' Hh => ρ' = [some v0, some v1, some v2, some v3, some v4, some (.obj kk), some v6, none, some (.int (keys.length : Int)), some (.obj gq), some v10, some v11, none, some (.obj bk), some (.obj ot), some (.obj cl), none, none, none, none, none, none] ∧ Grow H Hh)
    (fun i ρ' Hh hI => hI.2.same _ _ hcl)
    (fun i v ρ' Hh hv hI => by
      obtain ⟨rfl, hg⟩ := hI
      rw [List.getElem?_map] at hv
      obtain ⟨k, hkk, rfl⟩ := Option.map_eq_some_iff.mp hv
      have s2 := t_asg' (x := 19) (r_list (P := theP) (d := 10) (ρ := [some v0, some v1, some v2, some v3, some v4, some (.obj kk), some v6, none, some (.int (keys.length : Int)), some (.obj gq), some v10, some v11, none, some (.obj bk), some (.obj ot), some (.obj cl), none, some k.av, some (.obj Hh.length), none, none, none]) (H := Hh ++ [.list []]) rl_nil (show ([] : List AV).length < big by decide))
      have hl1 : (Hh ++ [AObj.list []]).length = Hh.length + 1 := by simp
      rw [hl1] at s2
      have hfl : (groupsF keys).flatten.length < 500 := by rw [groups_flat, rangeI_len]; omega
      have du := b_due (ρ := [some v0, some v1, some v2, some v3, some v4, some (.obj kk), some v6, none, some (.int (keys.length : Int)), some (.obj gq), some v10, some v11, none, some (.obj bk), some (.obj ot), some (.obj cl), none, some k.av, some (.obj Hh.length), some (.obj (Hh.length + 1)), none, none]) (m := (keys.length : Int)) (k := k) (L.grow hg) (hg.same _ _ hk) hn (fun g hg => groups_inR hg) hfl rfl rfl rfl rfl rfl rfl rfl rfl
      rw [dueS_eq, fitS_eq] at du
      obtain ⟨gids, gl⟩ := L.2
      have glh : (hp Hh [] [])[gq]? = some (.list (gids.map AV.obj)) := get_app (get_app (hg.same _ _ gl.1))
      have hgr : Grow H (hp Hh (dueG keys (groupsF keys) k) (fitG keys keys.length (groupsF keys) k)) := hg.trans (Grow.app.trans .app)
      obtain ⟨q2, H3, x1, x2, x3⟩ := T1 k _ hgr
      obtain ⟨q4, H5, y1, y2, y3⟩ := T2 k _ (hgr.trans x3)
      have d3 : H3[Hh.length]? = some (.list ((dueG keys (groupsF keys) k).map AV.int)) := x3.same _ _ get_last1
      have d5 : H5[Hh.length + 1]? = some (.list ((fitG keys keys.length (groupsF keys) k).map AV.int)) := y3.same _ _ (x3.same _ _ get_last2)
      have c1 := r_cmp (P := theP) (d := 10) (o := .ne) (b := .loc 18) (r_call (f := 26) (rl_cons (r_loc (x := 13) (ρ := [some v0, some v1, some v2, some v3, some v4, some (.obj kk), some v6, none, some (.int (keys.length : Int)), some (.obj gq), some v10, some v11, none, some (.obj bk), some (.obj ot), some (.obj cl), none, some k.av, some (.obj Hh.length), some (.obj (Hh.length + 1)), none, none]) rfl) (rl_cons (r_loc (x := 8) rfl) (rl_cons (r_loc (x := 17) rfl) rl_nil))) x1) (r_loc (x := 18) rfl)
        (show cmpOf theP H3 .ne (.obj q2) (.obj Hh.length) = some false by
          show (deepEq theP H3 (.obj q2) (.obj Hh.length)).map _ = _
          rw [deep_l x2 d3 (eqOks_ints _ 4) (eqOks_ints _ 4)]; simp)
      have c2 := r_cmp (P := theP) (d := 10) (o := .ne) (b := .loc 19) (r_call (f := 26) (rl_cons (r_loc (x := 14) (ρ := [some v0, some v1, some v2, some v3, some v4, some (.obj kk), some v6, none, some (.int (keys.length : Int)), some (.obj gq), some v10, some v11, none, some (.obj bk), some (.obj ot), some (.obj cl), none, some k.av, some (.obj Hh.length), some (.obj (Hh.length + 1)), none, none]) rfl) (rl_cons (r_loc (x := 8) rfl) (rl_cons (r_loc (x := 17) rfl) rl_nil))) y1) (r_loc (x := 19) rfl)
        (show cmpOf theP H5 .ne (.obj q4) (.obj (Hh.length + 1)) = some false by
          show (deepEq theP H5 (.obj q4) (.obj (Hh.length + 1))).map _ = _
          rw [deep_l y2 d5 (eqOks_ints _ 4) (eqOks_ints _ 4)]; simp)
      exact ⟨_, _, s_next (t_asg' (r_list rl_nil (show ([] : List AV).length < big by decide))) (s_next s2 (s_next (t_for' (ri_lst (r_loc (x := 9) rfl) glh) du) (s_next (t_ifF (r_ors (or_f c1 (or_one c2))) s_nil) s_nil))), rfl, hgr.trans (x3.trans y3)⟩)
    calls.length 0 _ H (by simp) ⟨rfl, .refl⟩
  subst e1
  exact ⟨H', e⟩
end
end Mini
end

noncomputable section -- PB24
set_option autoImplicit false
set_option linter.unusedVariables false
set_option linter.unusedSimpArgs false
set_option maxHeartbeats 1000000
namespace Mini
theorem SI.keep {H H' : AHeap} {y cnt : Nat} {ts fs : List AV} {ae fe : List (AV × AV)} (h : SI H y cnt ts ae fs fe) (k : ∀ (j : Nat) (o : AObj), y ≤ j → j ≤ y + 4 → H[j]? = some o → H'[j]? = some o) : SI H' y cnt ts ae fs fe :=
  ⟨k _ _ (by omega) (by omega) h.b, k _ _ (by omega) (by omega) h.t, k _ _ (by omega) (by omega) h.a, k _ _ (by omega) (by omega) h.f, k _ _ (by omega) (by omega) h.e, h.lt, h.la, h.lf, h.le, h.ka, h.ke⟩
theorem filt_var (keys : List Key) : decide (((keys.map Key.av).filter fun v => !decide (v = AV.tup [.sym 36])) = []) = allVar keys := by
  rw [Bool.eq_iff_iff, decide_eq_true_eq, List.filter_eq_nil_iff]
  unfold allVar
  rw [List.all_eq_true]
  constructor
  · intro h k hk
    have := h k.av (List.mem_map.mpr ⟨k, hk, rfl⟩)
    simpa [var_iff] using this
  · intro h v hv
    obtain ⟨k, hk, rfl⟩ := List.mem_map.mp hv
    have := h k hk
    simpa [var_iff] using this
theorem law_ev (ns : List Int) (hns : ns.length ≤ 63) : ∃ ρ H, evSs theP 10 b_law [some (.flist (ns.map AV.int)), none, none, none, none, none, none, none, none, none, none, none, none, none, none, none, none, none, none, none, none, none] [] = some (.ret (.bool true), ρ, H) := by
  obtain ⟨fg, H1, fs1, a1, a2, a3⟩ := b_figures (d := 9) hns
  have hfg := get_lt a2
  have s1 := t_asg' (x := 1) (r_call (f := 28) (rl_cons (r_loc (x := 0) (ρ := [some (.flist (ns.map AV.int)), none, none, none, none, none, none, none, none, none, none, none, none, none, none, none, none, none, none, none, none, none]) rfl) rl_nil) a1)
  obtain ⟨H2, ts, fs, ae, fe, b1, S2, g2⟩ := r_symbols (d := 6) (H := H1) (ρ := [some (.flist (ns.map AV.int)), some (.obj fg), none, none, none, none, none, none, none, none, none, none, none, none, none, none, none, none, none, none, none, none])
  have s2 := t_asg' (x := 2) b1
  -- wide
  have f2 : (H2 ++ [AObj.list [.int 1, .int 2, .int 3, .int 0]])[fg]? = some (.list (fs1.map AV.int)) := get_app (g2.same _ _ a2)
  obtain ⟨r, H3, fs3, c1, c2, c3, c4, c5, c6⟩ := b_draw (d := 9) f2 (by unfold big; omega) (many := 4) (by decide) (by decide)
  have hl2 : H1.length + 4 < H2.length := get_lt S2.e
  have lw := c4.same _ _ (by omega) (get_last (H := H2) (o := .list [.int 1, .int 2, .int 3, .int 0]))
  obtain ⟨wd, hw, hw0⟩ : ∃ wd : Int, idx r [.int 1, .int 2, .int 3, .int 0] = some (.int wd) ∧ 0 ≤ wd := by
    have : r = 0 ∨ r = 1 ∨ r = 2 ∨ r = 3 := by omega
    rcases this with rfl | rfl | rfl | rfl
    · exact ⟨1, rfl, by decide⟩
    · exact ⟨2, rfl, by decide⟩
    · exact ⟨3, rfl, by decide⟩
    · exact ⟨0, rfl, by decide⟩
  have s3 := t_asg' (x := 3) (r_sub (P := theP) (d := 10) (ρ := [some (.flist (ns.map AV.int)), some (.obj fg), some (.obj H1.length), none, none, none, none, none, none, none, none, none, none, none, none, none, none, none, none, none, none, none]) (H := H2) (r_list (rl_cons r_lit (rl_cons r_lit (rl_cons r_lit (rl_cons r_lit rl_nil)))) (show 4 < big by decide)) (r_call (f := 29) (rl_cons (r_loc (x := 1) rfl) (rl_cons r_lit rl_nil)) c1) (sub_l lw hw))
  have S3 : SI H3 H1.length 100 ts ae fs fe := S2.keep fun j o h1 h2 e => c4.same _ _ (by omega) (get_app e)
  -- name
  obtain ⟨nm, H4, ts4, ae4, fs4, fe4, at4, d1, S4, d3, d4⟩ := b_func (d := 8) S3 (by decide) (t := 64) (by decide) wd
  have s4 := t_asg' (x := 4) (r_meth (P := theP) (d := 10) (n := 34) (e := .loc 2) (l := [.lit (.sym 64), .loc 3]) (r_loc (x := 2) (ρ := [some (.flist (ns.map AV.int)), some (.obj fg), some (.obj H1.length), some (.int wd), none, none, none, none, none, none, none, none, none, none, none, none, none, none, none, none, none, none]) rfl) S3.b (rl_cons r_lit (rl_cons (r_loc (x := 3) rfl) rl_nil)) rfl rfl d1)
  have f4 : H4[fg]? = some (.list (fs3.map AV.int)) := d3.same _ _ c5 (.inl hfg)
  have hl4 : H1.length + 4 < H4.length := get_lt S4.e
  have s6 := t_asg' (x := 6) (r_list (P := theP) (d := 10) (ρ := [some (.flist (ns.map AV.int)), some (.obj fg), some (.obj H1.length), some (.int wd), some (.int nm), some (.obj H4.length), none, none, none, none, none, none, none, none, none, none, none, none, none, none, none, none]) (H := H4 ++ [.list []]) rl_nil (show ([] : List AV).length < big by decide))
  have hl41 : (H4 ++ [AObj.list []]).length = H4.length + 1 := by simp
  rw [hl41] at s6
  -- how many
  have f6 : (H4 ++ [AObj.list []] ++ [AObj.list []] ++ [AObj.list [.int 2, .int 3, .int 4, .int 5, .int 1, .int 0]])[fg]? = some (.list (fs3.map AV.int)) := get_app (get_app (get_app f4))
  obtain ⟨r6, H7, fs7, e1, e2, e3, e4, e5, e6⟩ := b_draw (d := 9) f6 (by unfold big; omega) (many := 6) (by decide) (by decide)
  have hl6 : (H4 ++ [AObj.list []] ++ [AObj.list []]).length = H4.length + 2 := by simp
  have l7 := e4.len
  rw [List.length_append, hl6] at l7
  have lm := e4.same _ _ (by rw [hl6]; omega) (get_last (H := H4 ++ [AObj.list []] ++ [AObj.list []]) (o := .list [.int 2, .int 3, .int 4, .int 5, .int 1, .int 0]))
  obtain ⟨m, hm, hm0, hm5⟩ : ∃ m : Int, idx r6 [.int 2, .int 3, .int 4, .int 5, .int 1, .int 0] = some (.int m) ∧ 0 ≤ m ∧ m ≤ 5 := by
    have : r6 = 0 ∨ r6 = 1 ∨ r6 = 2 ∨ r6 = 3 ∨ r6 = 4 ∨ r6 = 5 := by omega
    rcases this with rfl | rfl | rfl | rfl | rfl | rfl
    · exact ⟨2, rfl, by decide, by decide⟩
    · exact ⟨3, rfl, by decide, by decide⟩
    · exact ⟨4, rfl, by decide, by decide⟩
    · exact ⟨5, rfl, by decide, by decide⟩
    · exact ⟨1, rfl, by decide, by decide⟩
    · exact ⟨0, rfl, by decide, by decide⟩
  have it7 := ri_range1 (P := theP) (d := 10) (r_sub (ρ := [some (.flist (ns.map AV.int)), some (.obj fg), some (.obj H1.length), some (.int wd), some (.int nm), some (.obj H4.length), some (.obj (H4.length + 1)), none, none, none, none, none, none, none, none, none, none, none, none, none, none, none]) (H := H4 ++ [.list []] ++ [.list []]) (r_list (rl_cons r_lit (rl_cons r_lit (rl_cons r_lit (rl_cons r_lit (rl_cons r_lit (rl_cons r_lit rl_nil)))))) (show 6 < big by decide)) (r_call (f := 29) (rl_cons (r_loc (x := 1) rfl) (rl_cons r_lit rl_nil)) e1) (sub_l lm hm)) (by unfold big; omega)
  have K7 : KC H7 H7.length fg H4.length (H4.length + 1) [] := ⟨e4.same _ _ (by omega) (get_app (get_app get_last)), ⟨[], rfl, e4.same _ _ (by omega) (get_app (by rw [← hl41]; exact get_last)), fun i k e => by simp at e⟩, fs7, e5, by omega⟩
  obtain ⟨H8, keys, k1, K8, k3, k4, k5, k6⟩ := b_draws (v0 := .flist (ns.map AV.int)) (vy := .obj H1.length) (wide := wd) (name := nm) (tl := [none, none, none, none, none, none, none, none, none, none, none, none, none, none]) (H₀ := H7) (base := H7.length) rfl (by omega) (by omega) (by omega) (by omega) (by omega) (by omega) hm0 hm5 K7
  have hkl : keys.length < 20 := by omega
  have hkb : keys.length < big := by unfold big; omega
  have S8 : SI H8 H1.length 102 ts4 ae4 fs4 fe4 := S4.keep fun j o h1 h2 e => k4 _ _ (by omega) (by omega) (by omega) (e4.same _ _ (by omega) (get_app (get_app (get_app e))))
  have s8 := t_asg' (x := 8) (r_len (P := theP) (d := 10) (r_loc (x := 6) (ρ := [some (.flist (ns.map AV.int)), some (.obj fg), some (.obj H1.length), some (.int wd), some (.int nm), some (.obj H4.length), some (.obj (H4.length + 1)), none, none, none, none, none, none, none, none, none, none, none, none, none, none, none]) (H := H8) rfl) (codes_len K8.codes hkb))
  -- the groups
  obtain ⟨gq, H9, g1, L9, g9⟩ := b_groups (d := 9) K8.codes (by omega)
  have s9 := t_asg' (x := 9) (r_call (f := 21) (rl_cons (r_loc (x := 6) (ρ := [some (.flist (ns.map AV.int)), some (.obj fg), some (.obj H1.length), some (.int wd), some (.int nm), some (.obj H4.length), some (.obj (H4.length + 1)), none, some (.int (keys.length : Int)), none, none, none, none, none, none, none, none, none, none, none, none, none]) rfl) rl_nil) g1)
  have hG := groups_len keys
  have hfl := groups_flat keys
  have hfll : (groupsF keys).flatten.length = keys.length := by rw [hfl, rangeI_len]
  have s11 := t_asg' (x := 11) (r_list (P := theP) (d := 10) (ρ := [some (.flist (ns.map AV.int)), some (.obj fg), some (.obj H1.length), some (.int wd), some (.int nm), some (.obj H4.length), some (.obj (H4.length + 1)), none, some (.int (keys.length : Int)), some (.obj gq), some (.obj H9.length), none, none, none, none, none, none, none, none, none, none, none]) (H := H9 ++ [.list []]) rl_nil (show ([] : List AV).length < big by decide))
  have hl91 : (H9 ++ [AObj.list []]).length = H9.length + 1 := by simp
  rw [hl91] at s11
  have hm12 := b_home (ρ := [some (.flist (ns.map AV.int)), some (.obj fg), some (.obj H1.length), some (.int wd), some (.int nm), some (.obj H4.length), some (.obj (H4.length + 1)), none, some (.int (keys.length : Int)), some (.obj gq), some (.obj H9.length), some (.obj (H9.length + 1)), none, none, none, none, none, none, none, none, none, none]) L9 (by omega) (by omega) rfl rfl rfl rfl rfl
  have L12 : LL H8.length (hp H9 (homesF (groupsF keys) 0) (groupsF keys).flatten) gq (groupsF keys) := (L9.grow .app).grow .app
  have s12 := t_for' (ri_range1 (P := theP) (d := 10) (r_len (r_loc (x := 9) (ρ := [some (.flist (ns.map AV.int)), some (.obj fg), some (.obj H1.length), some (.int wd), some (.int nm), some (.obj H4.length), some (.obj (H4.length + 1)), none, some (.int (keys.length : Int)), some (.obj gq), some (.obj H9.length), some (.obj (H9.length + 1)), none, none, none, none, none, none, none, none, none, none]) rfl) ((L9.grow (Grow.app (l := [.list []]))).grow (Grow.app (l := [.list []])) |>.len (by unfold big; omega))) (by unfold big; omega)) hm12
  -- the first check
  have q1 := r_cmp (P := theP) (d := 10) (o := .isin) (a := .list []) (b := .loc 9) (r_list rl_nil (show ([] : List AV).length < big by decide)) (r_loc (x := 9) (ρ := [some (.flist (ns.map AV.int)), some (.obj fg), some (.obj H1.length), some (.int wd), some (.int nm), some (.obj H4.length), some (.obj (H4.length + 1)), none, some (.int (keys.length : Int)), some (.obj gq), some (.obj H9.length), some (.obj (H9.length + 1)), none, none, none, none, none, none, none, none, none, none]) rfl) (any_empty (L12.grow .app) get_last fun g hg => (groups_one keys g hg).1)
  have f12 : (hp H9 (homesF (groupsF keys) 0) (groupsF keys).flatten ++ [AObj.list []] ++ [AObj.list (rints 0 (keys.length : Int))])[H9.length + 1]? = some (.list ((groupsF keys).flatten.map AV.int)) := get_app (get_app get_last2)
  have q2 := r_cmp (P := theP) (d := 10) (o := .ne) (a := .loc 11) (b := .listRange (.loc 8)) (r_loc (x := 11) (ρ := [some (.flist (ns.map AV.int)), some (.obj fg), some (.obj H1.length), some (.int wd), some (.int nm), some (.obj H4.length), some (.obj (H4.length + 1)), none, some (.int (keys.length : Int)), some (.obj gq), some (.obj H9.length), some (.obj (H9.length + 1)), none, none, none, none, none, none, none, none, none, none]) (H := hp H9 (homesF (groupsF keys) 0) (groupsF keys).flatten ++ [.list []]) rfl) (r_listRange (r_loc (x := 8) rfl) (by unfold big; omega)) (show cmpOf theP _ .ne (.obj (H9.length + 1)) (.obj (hp H9 (homesF (groupsF keys) 0) (groupsF keys).flatten ++ [AObj.list []]).length) = some false by
    show (deepEq theP _ _ _).map _ = _
    rw [deep_l f12 get_last (eqOks_ints _ 4) (by rw [rints_range]; exact eqOks_ints _ 4), hfl, rints_range]; simp)
  have s13 := t_ifF (a := [.ret (.lit (.bool false))]) (r_ors (or_f q1 (or_one q2))) s_nil
  generalize hH13 : hp H9 (homesF (groupsF keys) 0) (groupsF keys).flatten ++ [AObj.list []] ++ [AObj.list (rints 0 (keys.length : Int))] = H13 at s13
  have g913 : Grow H9 H13 := hH13 ▸ ((Grow.app.trans .app).trans .app).trans .app
  have hm13 : H13[H9.length]? = some (.list ((homesF (groupsF keys) 0).map AV.int)) := hH13 ▸ get_app (get_app get_last1)
  have g813 := g9.trans g913
  -- the second check
  obtain ⟨H14, p1, p2⟩ := b_check (ρ := [some (.flist (ns.map AV.int)), some (.obj fg), some (.obj H1.length), some (.int wd), some (.int nm), some (.obj H4.length), some (.obj (H4.length + 1)), none, some (.int (keys.length : Int)), some (.obj gq), some (.obj H9.length), some (.obj (H9.length + 1)), none, none, none, none, none, none, none, none, none, none]) hm13 (g813.same _ _ K8.kk) hkl rfl rfl rfl
  have s14 := t_for' (ri_range2 (P := theP) (d := 10) (r_lit (v := .int 1)) (r_loc (x := 8) (ρ := [some (.flist (ns.map AV.int)), some (.obj fg), some (.obj H1.length), some (.int wd), some (.int nm), some (.obj H4.length), some (.obj (H4.length + 1)), none, some (.int (keys.length : Int)), some (.obj gq), some (.obj H9.length), some (.obj (H9.length + 1)), none, none, none, none, none, none, none, none, none, none]) (H := H13) rfl) (by unfold big; omega)) p1
  have g814 := g813.trans p2
  -- the third check
  have av := r_call (P := theP) (d := 10) (f := 8) (rl_cons (r_loc (x := 6) (ρ := [some (.flist (ns.map AV.int)), some (.obj fg), some (.obj H1.length), some (.int wd), some (.int nm), some (.obj H4.length), some (.obj (H4.length + 1)), none, some (.int (keys.length : Int)), some (.obj gq), some (.obj H9.length), some (.obj (H9.length + 1)), none, none, none, none, none, none, none, none, none, none]) (H := H14) rfl) rl_nil) (b_allvar (d := 9) (K8.codes.grow g814))
  have fv := r_filt (P := theP) (d := 10) (n := 36) (r_loc (x := 5) (ρ := [some (.flist (ns.map AV.int)), some (.obj fg), some (.obj H1.length), some (.int wd), some (.int nm), some (.obj H4.length), some (.obj (H4.length + 1)), none, some (.int (keys.length : Int)), some (.obj gq), some (.obj H9.length), some (.obj (H9.length + 1)), none, none, none, none, none, none, none, none, none, none]) (H := H14) rfl) (g814.same _ _ K8.kk) ⟨keys_ok keys, by decide, by rw [List.length_map]; exact hkb⟩
  rw [filt_var] at fv
  have cv := r_cmp (o := .ne) av fv c_booln
  have hcv : (!((keys.all fun k => decide (k = .var)) == allVar keys)) = false := by show (!(allVar keys == allVar keys)) = false; simp
  rw [hcv] at cv
  have s15 := t_ifF (a := [.ret (.lit (.bool false))]) cv s_nil
  generalize hH15 : H14 ++ [AObj.list ((keys.map Key.av).filter fun v => !decide (v = AV.tup [.sym 36]))] ++ [AObj.list []] = H15 at s15
  have g815 : Grow H8 H15 := g814.trans (hH15 ▸ Grow.app.trans .app)
  have g1415 : Grow H14 H15 := hH15 ▸ Grow.app.trans .app
  have har : wd = 0 → allVar keys = true := fun z => List.all_eq_true.mpr fun k hk => by simpa using k6 (by omega) k hk
  -- the blocks
  have C15 : CS H15 H15.length (H4.length + 1) keys := by
    obtain ⟨x0, x1, x2, x3, x4⟩ := K8.codes.grow g815
    exact ⟨by have := g815.len; omega, x1, x2, x3, fun i k e => let ⟨id, q, a, b, y1, y2, y3, y4⟩ := x4 i k e; ⟨id, q, a, b, y1, by have := g815.len; omega, by have := g815.len; omega, y4⟩⟩
  obtain ⟨bk, H16, n1, n2, n3⟩ := blk_group (SI.sy (S8.keep fun j o _ _ e => g815.same _ _ e) d4) C15 hkl har
  have s16 := t_asg' (x := 13) (r_call (f := 22) (rl_cons (r_loc (x := 2) (ρ := [some (.flist (ns.map AV.int)), some (.obj fg), some (.obj H1.length), some (.int wd), some (.int nm), some (.obj H4.length), some (.obj (H4.length + 1)), none, some (.int (keys.length : Int)), some (.obj gq), some (.obj H9.length), some (.obj (H9.length + 1)), none, none, none, none, none, none, none, none, none, none]) rfl) (rl_cons (r_loc (x := 4) rfl) (rl_cons (r_loc (x := 6) rfl) rl_nil))) n1)
  have g816 := g815.trans n2
  have C16 : CS H16 H16.length (H4.length + 1) keys := by
    obtain ⟨x0, x1, x2, x3, x4⟩ := K8.codes.grow g816
    exact ⟨by have := g816.len; omega, x1, x2, x3, fun i k e => let ⟨id, q, a, b, y1, y2, y3, y4⟩ := x4 i k e; ⟨id, q, a, b, y1, by have := g816.len; omega, by have := g816.len; omega, y4⟩⟩
  obtain ⟨ot, H17, o1, o2, o3⟩ := blk_index (SI.sy (S8.keep fun j o _ _ e => g816.same _ _ e) d4) C16 hkl har
  have s17 := t_asg' (x := 14) (r_call (f := 20) (rl_cons (r_loc (x := 2) (ρ := [some (.flist (ns.map AV.int)), some (.obj fg), some (.obj H1.length), some (.int wd), some (.int nm), some (.obj H4.length), some (.obj (H4.length + 1)), none, some (.int (keys.length : Int)), some (.obj gq), some (.obj H9.length), some (.obj (H9.length + 1)), none, some (.obj bk), none, none, none, none, none, none, none, none]) rfl) (rl_cons (r_loc (x := 4) rfl) (rl_cons (r_loc (x := 6) rfl) rl_nil))) o1)
  have g817 := g816.trans o2
  -- the calls
  have s18 := t_asg' (x := 15) (r_list (P := theP) (d := 10) (ρ := [some (.flist (ns.map AV.int)), some (.obj fg), some (.obj H1.length), some (.int wd), some (.int nm), some (.obj H4.length), some (.obj (H4.length + 1)), none, some (.int (keys.length : Int)), some (.obj gq), some (.obj H9.length), some (.obj (H9.length + 1)), none, some (.obj bk), some (.obj ot), none, none, none, none, none, none, none]) (H := H17) (vs := [Key.var, .list, .const 5 100000000000000000000, .struct 77].map Key.av) (rl_cons (r_tup (rl_cons r_lit rl_nil) (show 1 < big by decide)) (rl_cons (r_tup (rl_cons r_lit rl_nil) (show 1 < big by decide)) (rl_cons (r_tup (rl_cons r_lit (rl_cons (r_tup (rl_cons r_lit (rl_cons r_lit rl_nil)) (show 2 < big by decide)) rl_nil)) (show 2 < big by decide)) (rl_cons (r_tup (rl_cons r_lit (rl_cons r_lit rl_nil)) (show 2 < big by decide)) rl_nil)))) (show 4 < big by decide))
  have hkk17 := g817.same _ _ K8.kk
  have hkk8 := get_lt K8.kk
  obtain ⟨H19, calls, t1, t2, t3, t4⟩ := b_calls (ρ := [some (.flist (ns.map AV.int)), some (.obj fg), some (.obj H1.length), some (.int wd), some (.int nm), some (.obj H4.length), some (.obj (H4.length + 1)), none, some (.int (keys.length : Int)), some (.obj gq), some (.obj H9.length), some (.obj (H9.length + 1)), none, some (.obj bk), some (.obj ot), some (.obj H17.length), none, none, none, none, none, none]) (H := H17 ++ [.list ([Key.var, .list, .const 5 100000000000000000000, .struct 77].map Key.av)]) (kk := H4.length) get_last (get_app hkk17) (by have := g817.len; omega) hkl (by simp) rfl rfl
  have s19 := t_for' (ri_lst (P := theP) (d := 10) (r_loc (x := 5) (ρ := [some (.flist (ns.map AV.int)), some (.obj fg), some (.obj H1.length), some (.int wd), some (.int nm), some (.obj H4.length), some (.obj (H4.length + 1)), none, some (.int (keys.length : Int)), some (.obj gq), some (.obj H9.length), some (.obj (H9.length + 1)), none, some (.obj bk), some (.obj ot), some (.obj H17.length), none, none, none, none, none, none]) rfl) (get_app hkk17)) t1
  have g17 : Grow H17 H19 := ⟨by have := t3.len; rw [List.length_append] at this; omega, fun j o e => t3.same _ _ (by have := get_lt e; omega) (get_app e)⟩
  obtain ⟨H20, u1⟩ := b_main (keys := keys) (kk := H4.length) (v0 := .flist (ns.map AV.int)) (v1 := .obj fg) (v2 := .obj H1.length) (v3 := .int wd) (v4 := .int nm) (v6 := .obj (H4.length + 1)) (v10 := .obj H9.length) (v11 := .obj (H9.length + 1)) (hb := []) t2 (L9.grow (((g913.trans p2).trans g1415).trans (n2.trans (o2.trans g17)))) (g17.same _ _ hkk17) hkl (fun k H2 g => n3 k H2 ((o2.trans g17).trans g)) (fun k H2 g => o3 k H2 (g17.trans g))
  have s20 := t_for' (ri_lst (P := theP) (d := 10) (r_loc (x := 15) (ρ := [some (.flist (ns.map AV.int)), some (.obj fg), some (.obj H1.length), some (.int wd), some (.int nm), some (.obj H4.length), some (.obj (H4.length + 1)), none, some (.int (keys.length : Int)), some (.obj gq), some (.obj H9.length), some (.obj (H9.length + 1)), none, some (.obj bk), some (.obj ot), some (.obj H17.length), none, none, none, none, none, none]) rfl) t2) u1
  exact ⟨_, _, s_next s1 (s_next s2 (s_next s3 (s_next s4 (s_next (t_asg' (r_list rl_nil (show ([] : List AV).length < big by decide))) (s_next s6 (s_next (t_for' it7 k1) (s_next s8 (s_next s9 (s_next (t_asg' (r_list rl_nil (show ([] : List AV).length < big by decide))) (s_next s11 (s_next s12 (s_next s13 (s_next s14 (s_next s15 (s_next s16 (s_next s17 (s_next s18 (s_next s19 (s_next s20 (s_ret (t_ret' r_lit)))))))))))))))))))))⟩
end Mini
end

noncomputable section -- Lnk2
set_option autoImplicit false
set_option linter.unusedVariables false
open PySem PySem.W PyProof.Rows PySem.Challenge PySem.Calls
set_option maxRecDepth 100000
set_option maxHeartbeats 8000000
set_option Elab.async false
namespace Mini
theorem ints_vrs {X : Tx} {h : Heap} {φ : List Lc} : ∀ {vs : List Value} {ns : List Int}, IntsAre vs ns → VRs X h φ vs (ns.map AV.int)
  | _, _, .nil => .nil
  | _, _, .cons _ _ r => .cons (.int _ _) (ints_vrs r)
noncomputable def lawOk : Prop := ∀ ns : List Int, ns.length ≤ 63 → ∃ ρ H, evSs theP 10 b_law (some (.flist (ns.map AV.int)) :: List.replicate (v_law.length - 1) none) [] = some (.ret (.bool true), ρ, H)

theorem law_walk {w : World} {h0 h : Heap} (W : Wd (mkX w h0) theP) (h0k : ∀ b o, h0.get? b = some o → h.get? b = some o) {s : Shared} {A : Around} {sc : Scope} {body : List Stmt} {env : Env} {L a : Addr} {vs : List Value} {ns : List Int} {Er : Value → Shared → Prop} {Q : Flow → Shared → Prop} (hlaw : lawOk)
    (hn : ns.length ≤ 63) (hI : IntsAre vs ns) (hL : h.IsList a vs.toArray) (ht : TSs (mkX w h0) theP sc v_law body b_law) (cx : Cx sc v_law env L) (hk : ∀ b o, h.get? b = some o → s.heap.get? b = some o) {m : Str → Option Value} (hns : s.heap.Ns L m) (hm : m "script" = some (.ref a)) (hnew : h.get? L = none)
    (R : Room 10 env A) (hQ : ∀ h' tk, (∀ b o, h.get? b = some o → h'.get? b = some o) → Q (.ret (.bool true)) { s with heap := h', toks := tk }) : wpAny (model pw_rh0080_01 w) A (execs body env) Q Er s := by
  obtain ⟨ρ, H, e⟩ := hlaw ns hn
  have S : St (mkX w h0) [] [] s.heap := ⟨rfl, fun b o q => hk b o (h0k b o q), fun i c o e => by simp at e, by simp [addrs], fun x hx => by simp [addrs] at hx⟩
  have lo : Lo (mkX w h0) v_law [] s.heap L m (some (.flist (ns.map AV.int)) :: List.replicate (v_law.length - 1) none) := by
    refine ⟨hns, by simp [addrs], ?_, fun i v ev => ?_⟩
    · cases q : h0.get? L with
      | none => exact q
      | some o => rw [h0k L o q] at hnew; cases hnew
    cases i with
    | zero =>
      simp at ev; subst ev
      obtain ⟨o, e1, e2, n, e3⟩ := hL
      exact ⟨"script", .ref a, rfl, hm, .flist (by simp [addrs]) (hk _ _ e1) e2 e3 (by simpa using ints_vrs hI)⟩
    | succ i =>
      rw [List.getElem?_cons_succ, List.getElem?_replicate] at ev
      split at ev <;> cases ev
  refine (sound W).2.2 _ _ _ _ _ e sc v_law body env L m [] A s ht cx S lo R Er Q fun φ' h' tk m' f st lo' fr => ?_
  cases fr with
  | ret vr =>
    cases vr
    refine hQ h' tk fun b o e => st.keep b o (hk b o e) (by simp [addrs]) fun z => ?_
    rw [List.mem_singleton.mp z, hnew] at e; cases e

noncomputable def dO : Option (DefRec × List (Str × PySem.Expr)) := defOf vq rw_rh0080_01.row.name
theorem dO_some : dO.isSome = true := by kernel_rfl
noncomputable def dL : DefRec := (dO.get dO_some).1
theorem dL_eq : defOf vq rw_rh0080_01.row.name = some (dL, []) := by kernel_rfl
theorem dL_kw : kwWritten? dL.params.kwonlyargs dL.params.kw_defaults = some [] := by kernel_rfl

theorem dL_body {w : World} {h : Heap} (E : E0 (mkX w h)) : TSs (mkX w h) theP dL.scope v_law dL.body b_law := Yes.get (y := ckBody E theP dL.scope v_law b_law dL.body) (by kernel_rfl)
theorem dL_names : ∀ x ∈ v_law, dL.scope.names.lookup x = some .local ∧ (x == ("__debug__" : Str)) = false := Yes.get (y := ckAll (fun x => ckL dL.scope x .local) v_law) (by kernel_rfl)
theorem dL_cells : ∀ x ∈ dL.scope.names, x.2 ≠ .cell := Yes.get (y := ckAll (fun x : Str × NameKind => ckD (x.2 ≠ .cell)) dL.scope.names) (by kernel_rfl)
theorem dL_args : dL.params.args.map Arg.arg = [Str.ofString "script"] := by kernel_rfl
theorem bind_one {fd : FuncData} (h1 : fd.params.posonlyargs = []) (h3 : fd.params.kwonlyargs = []) (h4 : fd.params.vararg = none) (h5 : fd.params.kwarg = none) (h6 : fd.defaults = .none) {x : Str} (e : fd.params.args.map (·.arg) = [x]) (v : Value) : bindArgs fd ⟨[v], []⟩ = pure [(x, v)] :=
  (bind_plain h1 h3 h4 h5 h6 (by rw [e]; simp) (by rw [e]; rfl)).trans (by rw [e]; rfl)
theorem law_bind {pm cd doc kV v : Value} : bindArgs { docDef dL.name dL.params dL.body dL.scope pm cd doc with defaults := .none, kwdefaults := kV } ⟨[v], []⟩ = pure [(Str.ofString "script", v)] :=
  bind_one (by kernel_rfl) (by kernel_rfl) (by kernel_rfl) (by kernel_rfl) rfl dL_args v
theorem law_enter (hlaw : lawOk) : WalkO vq loose0 (XL vq []) hkC.says rw_rh0080_01.row.toRowW dL [] (fun f vs => PySem.call f vs) := by
  intro w s₀ s₁ mg mb G Y fa o pm cd doc dV kV ho hd hcd hD hmg hg args vals as hpre hlay hrd hwl hlo
  refine Ground.open G ?_
  intro T B D TE TW
  clear D TE TW B hmg
  wrow_args hpre hlay hrd hwl hlo
  rename_i ns hs hlay0 hL1 hr1 hl2 w4 w3 a vs w0 hL ra w1 r0 hI hr hlen htrue
  refine enter_call ?_
  refine codeAny_mono ?_ (fun _ _ g => GoodW.toG g)
  obtain rfl := Dflts.none hD (by kernel_rfl)
  obtain ⟨h0, L0, hk0⟩ := Y
  have W : Wd (mkX w h0) theP := L0.wd fun x hx => by
    rw [← T.builtins x hx]
    exact ((Heap.Ns.of_isNs L0.b).keeps hk0).agree T.b x
  refine call_fullW (by decide) ho hd (Top.nolimit T) hcd (BindsTo.of_eq law_bind) (fun x hx => by rw [List.mem_singleton.mp hx]; exact (dL_names _ (.head _)).1) (fun h₁ F => ?_) (by kernel_rfl) (by kernel_rfl) (by kernel_rfl) dL_cells
  refine law_walk (ns := ns) (vs := vs) (a := a) W hk0 hlaw (by omega) hI hL (dL_body L0.E) ⟨rfl, by kernel_rfl, rfl, rfl, rfl, by kernel_rfl, by kernel_rfl, dL_names, by decide⟩ F.keep F.ns rfl (get_none_size _) ⟨rfl, (by decide : callerA.depth + 1 + 2 * 10 + 200 < recursionLimit), (by decide : callerA.units + 3 + 16 * 10 + 200 < cLine), _, rfl⟩ fun h' tk hk => ?_
  refine ⟨.inl ⟨.bool true, .bool true, [], rfl, fun cls => ?_, .bool true, ?_, ?_⟩, hk, rfl, hg⟩
  · kernel_rfl
  · kernel_rfl
  · exact unshared_nil
theorem said_ok : OpenLaw.wellSaid rw_rh0080_01 = true := by
  refine (congrFun Fast.te9446332074065402090 _).trans ?_
  unfold Fast.tw9446332074065402090 Fast.tw17960256430627541270 Fast.tw2436336058641802641 Fast.tw12908688711261696721
  repeat' (with_reducible refine look_both ?_ ?_)
  all_goals decide +kernel
theorem fin (hlaw : lawOk) : rw_rh0080_01.Holds := by
  refine holds_law said_ok fun said => ?_
  refine holds_open left0 (Hook.of hkC) (Hook.keeps hkC) (fun s e => xl_of s (Bool.and_eq_true_iff.mp e).1) XL.keeps dL_eq (by kernel_rfl) (by kernel_rfl) (fun s e => recFacts_of (Bool.and_eq_true_iff.mp e).2) (by rfl) said (by decide +kernel) ⟨rfl, rfl, rfl, rfl, rfl, by decide +kernel⟩ ?hw (law_enter hlaw)
  case hw => w_witness2
end Mini
end

theorem PySem.Challenge.cw_rh0080_01_holds : PySem.Challenge.rw_rh0080_01.Holds := by
  exact Mini.fin fun ns h => Mini.law_ev ns h
